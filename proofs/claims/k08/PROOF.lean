import PyProof.Rows.All
import Wide.All
import OpenK.AllK
import Wide.FinOn
import HandS.ForMost
import HandS.Wide
import HandS.IsInst
import HandS.TupLe
import HandS.TupAny
import HandS.Style
import HandS.Deep
import HandS.Flow
import HandS.TupMul
import HandS.List
import HandS.Conv
import HandS.Zip
import HandS.NoneIn
import HandS.Small
import HandS.Defaults
import HandS.Ends
import HandS.HeadEnd
import HandS.Dict
import HandS.Comp
import HandS.TupSets
import HandS.SortInts
import HandS.SortRule
import HandS.NamedTupSort
import KE.KStateDown
import HandS.Head0
import HandS.Head1
import HandS.Head2
import HandS.HeadHook1
import HandS.HeadHook2
import KE.DataMinMax
import KE.SortData
import Lean
import HandS.More
import HandS.Words
import HandS.WordsExc
import PySem.Challenge.RW_facejudge_k08_whole_ranges_within_others

set_option Elab.async false
set_option linter.all false
set_option maxRecDepth 100000
set_option maxHeartbeats 4000000
set_option autoImplicit false
/-! A layer over HandS: data frozen in the heap, cells that a def owns, and how slots and temporaries stand for them. -/
namespace Fj
open PySem PySem.Spec PyProof.Rows L2

/-! ### data that stand in a heap -/
mutual
inductive Rp (K : PySem.W.Frag) (F : Hp) : V → PyData → Prop
  | non : Rp K F .non .none
  | bl (b : Bool) : Rp K F (.bl b) (.bool b)
  | int (i : Int) : Rp K F (.int i) (.int i)
  | str (x : Str) : Rp K F (.str x) (.str x)
  | lst {a : Addr} {xs : List V} {ds : List PyData} (h : F a = some (.lst xs)) (r : Rps K F xs ds) : Rp K F (.ref a) (.list ds)
  | tup {a : Addr} {xs : List V} {ds : List PyData} (h : SqT K F a xs) (r : Rps K F xs ds) : Rp K F (.ref a) (.tuple ds)
inductive Rps (K : PySem.W.Frag) (F : Hp) : List V → List PyData → Prop
  | nil : Rps K F [] []
  | cons {v : V} {vs : List V} {d : PyData} {ds : List PyData} (r : Rp K F v d) (t : Rps K F vs ds) : Rps K F (v :: vs) (d :: ds)
end
section
variable {K : PySem.W.Frag} {F F' : Hp}
theorem same_tup {a : Addr} {xs : List V} (e : Same F F') (h : SqT K F a xs) : SqT K F' a xs := by
  rcases h with (h | ⟨o, h⟩) | h
  · exact .inl (.inl (e _ _ h))
  · exact .inl (.inr ⟨o, e _ _ h⟩)
  · exact .inr h
mutual
theorem Rp.mono (e : Same F F') : ∀ {v : V} {d : PyData}, Rp K F v d → Rp K F' v d
  | _, .none, h => by cases h; exact .non
  | _, .bool _, h => by cases h; exact .bl _
  | _, .int _, h => by cases h; exact .int _
  | _, .str _, h => by cases h; exact .str _
  | _, .list ds, h => by
    cases h with
    | lst h r => exact .lst (e _ _ h) (Rps.mono e r)
  | _, .tuple ds, h => by
    cases h with
    | tup h r => exact .tup (same_tup e h) (Rps.mono e r)
  | _, .dict _, h => by cases h
theorem Rps.mono (e : Same F F') : ∀ {vs : List V} {ds : List PyData}, Rps K F vs ds → Rps K F' vs ds
  | _, [], h => by cases h; exact .nil
  | _, d :: ds, h => by
    cases h with
    | cons r t => exact .cons (Rp.mono e r) (Rps.mono e t)
end
mutual
theorem Rp.dp : ∀ {v : V} {d : PyData}, Rp K F v d → Dp K F v d
  | _, .none, h => by cases h; exact .non
  | _, .bool _, h => by cases h; exact .bl _
  | _, .int _, h => by cases h; exact .int _
  | _, .str _, h => by cases h; exact .str _
  | _, .list ds, h => by
    cases h with
    | lst h r => exact .lst (.inl (.inl h)) (Rps.dp r)
  | _, .tuple ds, h => by
    cases h with
    | tup h r => exact .tup h (Rps.dp r)
  | _, .dict _, h => by cases h
theorem Rps.dp : ∀ {vs : List V} {ds : List PyData}, Rps K F vs ds → DpAll K F vs ds
  | _, [], h => by cases h; exact .nil
  | _, d :: ds, h => by
    cases h with
    | cons r t => exact .cons (Rp.dp r) (Rps.dp t)
end
mutual
def nlD : PyData → Bool
  | .none => true
  | .bool _ => true
  | .int _ => true
  | .str _ => true
  | .list _ => false
  | .tuple xs => nlAll xs
  | .dict _ => false
def nlAll : List PyData → Bool
  | [] => true
  | d :: ds => nlD d && nlAll ds
end
mutual
theorem Rp.nl (e : ∀ (a : Addr) (xs : List V), SqT K F a xs → SqT K F' a xs) : ∀ {v : V} {d : PyData}, nlD d = true → Rp K F v d → Rp K F' v d
  | _, .none, _, h => by cases h; exact .non
  | _, .bool _, _, h => by cases h; exact .bl _
  | _, .int _, _, h => by cases h; exact .int _
  | _, .str _, _, h => by cases h; exact .str _
  | _, .list ds, n, h => by simp [nlD] at n
  | _, .tuple ds, n, h => by
    cases h with
    | tup h r => exact .tup (e _ _ h) (Rps.nl e (by simpa only [nlD] using n) r)
  | _, .dict _, n, h => by simp [nlD] at n
theorem Rps.nl (e : ∀ (a : Addr) (xs : List V), SqT K F a xs → SqT K F' a xs) : ∀ {vs : List V} {ds : List PyData}, nlAll ds = true → Rps K F vs ds → Rps K F' vs ds
  | _, [], _, h => by cases h; exact .nil
  | _, d :: ds, n, h => by
    cases h with
    | cons r t =>
      simp only [nlAll, Bool.and_eq_true] at n
      exact .cons (Rp.nl e n.1 r) (Rps.nl e n.2 t)
end
theorem Rps.length {vs : List V} {ds : List PyData} (h : Rps K F vs ds) : vs.length = ds.length := by
  induction ds generalizing vs with
  | nil => cases h; rfl
  | cons d ds ih => cases h with | cons r t => rw [List.length_cons, List.length_cons, ih t]
theorem Rps.get {vs : List V} {ds : List PyData} {i : Nat} {d : PyData} (h : Rps K F vs ds) (e : ds[i]? = some d) : ∃ v, vs[i]? = some v ∧ Rp K F v d := by
  induction ds generalizing vs i with
  | nil => simp at e
  | cons x ds ih =>
    cases h with
    | cons r t =>
      cases i with
      | zero =>
        simp only [List.getElem?_cons_zero, Option.some.injEq] at e
        subst e
        exact ⟨_, rfl, r⟩
      | succ i => exact ih (i := i) t (by simpa using e)
theorem Rps.app {vs ws : List V} {ds es : List PyData} (h : Rps K F vs ds) (g : Rps K F ws es) : Rps K F (vs ++ ws) (ds ++ es) := by
  induction ds generalizing vs with
  | nil => cases h; exact g
  | cons d ds ih => cases h with | cons r t => exact .cons r (ih t)
theorem Rps.one {v : V} {d : PyData} (h : Rp K F v d) : Rps K F [v] [d] := .cons h .nil
theorem Rps.takeN {vs : List V} {ds : List PyData} (n : Nat) (h : Rps K F vs ds) : Rps K F (vs.take n) (ds.take n) := by
  induction ds generalizing vs n with
  | nil => cases h; simp; exact .nil
  | cons d ds ih =>
    cases h with
    | cons r t =>
      cases n with
      | zero => exact .nil
      | succ n => exact .cons r (ih n t)
theorem Rps.dropN {vs : List V} {ds : List PyData} (n : Nat) (h : Rps K F vs ds) : Rps K F (vs.drop n) (ds.drop n) := by
  induction ds generalizing vs n with
  | nil => cases h; simp; exact .nil
  | cons d ds ih =>
    cases h with
    | cons r t =>
      cases n with
      | zero => exact .cons r t
      | succ n => exact ih n t
theorem Rps.rev {vs : List V} {ds : List PyData} (h : Rps K F vs ds) : Rps K F vs.reverse ds.reverse := by
  induction ds generalizing vs with
  | nil => cases h; exact .nil
  | cons d ds ih =>
    cases h with
    | cons r t =>
      rw [List.reverse_cons, List.reverse_cons]
      exact (ih t).app (.one r)
theorem Rps.setN {vs : List V} {ds : List PyData} {v : V} {d : PyData} (i : Nat) (h : Rps K F vs ds) (r : Rp K F v d) : Rps K F (vs.set i v) (ds.set i d) := by
  induction ds generalizing vs i with
  | nil => cases h; exact .nil
  | cons x ds ih =>
    cases h with
    | cons r' t =>
      cases i with
      | zero => exact .cons r t
      | succ i => exact .cons r' (ih i t)
end

/-! ### cells, entries, slots -/
/-- an object that a def may change -/
inductive Cell where
  | lst (ds : List PyData)
  | dct (kvs : List (Key × PyData))
  | deck (s : Nat) (left : List Int) (mixed turn : Int)
/-- the names in a deck: its cells, its mark, its count -/
def dkK : Nat → Str × Str × Str
  | 0 => ("left", "mixed", "turn")
  | 1 => ("cells", "mixed", "turn")
  | 2 => ("left", "mixed", "draws")
  | _ => ("cells", "mixed", "draws")
/-- what a slot or a temporary stands for -/
inductive Ent where
  | no
  | val (d : PyData)
  | own (fr : Bool) (c : Cell)
  | scr (ns : List Int)
  | lent
/-- a slot that may not be written: a cell of the caller's, or one that is lent just now -/
def pinE : Ent → Bool
  | .own false _ => true
  | .lent => true
  | _ => false
/-- where a def began: frozen data, the heap, what it may change, slots that stay -/
structure Ct where
  F0 : Hp
  H0 : Hp
  W : Addr → Prop
  pins : List (Option V)
inductive CellAt (K : PySem.W.Frag) (F H : Hp) : V → Cell → List Addr → Prop
  | lst {a : Addr} {vs : List V} {ds : List PyData} (h : H a = some (.lst vs)) (r : Rps K F vs ds) : CellAt K F H (.ref a) (.lst ds) [a]
  | dct {a : Addr} {vs : List (Key × V)} {kvs : List (Key × PyData)} (h : H a = some (.dK vs)) (hk : vs.map (·.1) = kvs.map (·.1)) (r : Rps K F (vs.map (·.2)) (kvs.map (·.2))) : CellAt K F H (.ref a) (.dct kvs) [a]
  | deck {a b : Addr} {s : Nat} {left : List Int} {m t : Int} (h : H a = some (.dK [(.inr (dkK s).1, .ref b), (.inr (dkK s).2.1, .int m), (.inr (dkK s).2.2, .int t)])) (g : H b = some (.lst (left.map V.int))) : CellAt K F H (.ref a) (.deck s left m t) [a, b]
inductive SlotOk (K : PySem.W.Frag) (c : Ct) (F H : Hp) : Option V × Ent → List Addr → Prop
  | no (x : Option V) : SlotOk K c F H (x, .no) []
  | val {v : V} {d : PyData} (r : Rp K F v d) : SlotOk K c F H (some v, .val d) []
  | own {v : V} {fr : Bool} {ce : Cell} {fc : List Addr} (r : CellAt K F H v ce fc) (h : fr = true → ∀ a ∈ fc, c.H0 a = none) : SlotOk K c F H (some v, .own fr ce) fc
  | scr {a : Addr} {ns : List Int} (h : SqL K c.H0 a (ns.map V.int)) (w : ¬ c.W a) : SlotOk K c F H (some (.ref a), .scr ns) []
  | lent (x : Option V) : SlotOk K c F H (x, .lent) []
inductive Slots (K : PySem.W.Frag) (c : Ct) (F H : Hp) : List (Option V × Ent) → List Addr → Prop
  | nil : Slots K c F H [] []
  | cons {x : Option V × Ent} {fc fp : List Addr} {l : List (Option V × Ent)} (h : SlotOk K c F H x fc) (t : Slots K c F H l fp) : Slots K c F H (x :: l) (fc ++ fp)
section
variable {K : PySem.W.Frag} {c : Ct} {F F' H H' : Hp} {l : List (Option V × Ent)} {fp fc : List Addr} {x y : Option V × Ent}
theorem CellAt.there {v : V} {ce : Cell} (h : CellAt K F H v ce fc) : ∀ a ∈ fc, H a ≠ none := by
  cases h with
  | lst h r =>
    intro a ha
    rw [List.mem_singleton] at ha
    rw [ha, h]
    exact fun z => nomatch z
  | dct h hk r =>
    intro a ha
    rw [List.mem_singleton] at ha
    rw [ha, h]
    exact fun z => nomatch z
  | deck h g =>
    intro a ha
    rcases List.mem_cons.mp ha with e | e
    · rw [e, h]
      exact fun z => nomatch z
    · rw [List.mem_singleton] at e
      rw [e, g]
      exact fun z => nomatch z
theorem CellAt.stay {v : V} {ce : Cell} (e : Same F F') (h : CellAt K F H v ce fc) (k : ∀ a ∈ fc, H' a = H a) : CellAt K F' H' v ce fc := by
  cases h with
  | lst h r => exact .lst ((k _ (List.mem_singleton.mpr rfl)).trans h) (r.mono e)
  | dct h hk r => exact .dct ((k _ (List.mem_singleton.mpr rfl)).trans h) hk (r.mono e)
  | deck h g => exact .deck ((k _ (List.mem_cons_self ..)).trans h) ((k _ (List.mem_cons_of_mem _ (List.mem_singleton.mpr rfl))).trans g)
theorem SlotOk.there (h : SlotOk K c F H x fc) : ∀ a ∈ fc, H a ≠ none := by
  cases h with
  | no x => intro a ha; cases ha
  | val r => intro a ha; cases ha
  | own r h => exact r.there
  | scr h w => intro a ha; cases ha
  | lent x => intro a ha; cases ha
theorem SlotOk.stay (e : Same F F') (h : SlotOk K c F H x fc) (k : ∀ a ∈ fc, H' a = H a) : SlotOk K c F' H' x fc := by
  cases h with
  | no x => exact .no x
  | val r => exact .val (r.mono e)
  | own r h => exact .own (r.stay e k) h
  | scr h w => exact .scr h w
  | lent x => exact .lent x
theorem Slots.there (h : Slots K c F H l fp) : ∀ a ∈ fp, H a ≠ none := by
  induction h with
  | nil => intro a ha; cases ha
  | cons h t ih =>
    intro a ha
    rcases List.mem_append.mp ha with e | e
    · exact h.there a e
    · exact ih a e
theorem Slots.stay (e : Same F F') (h : Slots K c F H l fp) (k : ∀ a ∈ fp, H' a = H a) : Slots K c F' H' l fp := by
  induction h with
  | nil => exact .nil
  | cons h t ih => exact .cons (h.stay e fun a ha => k a (List.mem_append_left _ ha)) (ih fun a ha => k a (List.mem_append_right _ ha))
/-- one place of the slots -/
theorem Slots.place {i : Nat} (h : Slots K c F H l fp) (hi : l[i]? = some x) : ∃ f1 fc f2 : List Addr, fp = f1 ++ (fc ++ f2) ∧ SlotOk K c F H x fc ∧
    ∀ (F' H' : Hp) (y : Option V × Ent) (fc' : List Addr), Same F F' → (∀ a, a ∈ f1 ∨ a ∈ f2 → H' a = H a) → SlotOk K c F' H' y fc' → Slots K c F' H' (l.set i y) (f1 ++ (fc' ++ f2)) := by
  induction h generalizing i with
  | nil => simp at hi
  | @cons x0 fc0 fp0 l0 h t ih =>
    cases i with
    | zero =>
      simp only [List.getElem?_cons_zero, Option.some.injEq] at hi
      subst hi
      exact ⟨[], fc0, fp0, rfl, h, fun F' H' y fc' e k hy => Slots.cons (fc := fc') hy (t.stay e fun a ha => k a (.inr ha))⟩
    | succ i =>
      obtain ⟨f1, fc, f2, rfl, hx, q⟩ := ih (i := i) (by simpa using hi)
      refine ⟨fc0 ++ f1, fc, f2, by simp, hx, fun F' H' y fc' e k hy => ?_⟩
      have z := q F' H' y fc' e (fun a ha => k a (ha.elim (fun z => .inl (List.mem_append_right _ z)) .inr)) hy
      have z2 := Slots.cons (h.stay (H' := H') e fun a ha => k a (.inl (List.mem_append_left _ ha))) z
      simpa using z2
theorem Slots.app {l2 : List (Option V × Ent)} {fq : List Addr} (h : Slots K c F H l fp) (g : Slots K c F H l2 fq) : Slots K c F H (l ++ l2) (fp ++ fq) := by
  induction h with
  | nil => exact g
  | cons h t ih =>
    rw [List.cons_append, List.append_assoc]
    exact .cons h ih
theorem Slots.split {l1 l2 : List (Option V × Ent)} (h : Slots K c F H (l1 ++ l2) fp) : ∃ f1 f2, fp = f1 ++ f2 ∧ Slots K c F H l1 f1 ∧ Slots K c F H l2 f2 := by
  induction l1 generalizing fp with
  | nil => exact ⟨[], fp, rfl, .nil, h⟩
  | cons x l1 ih =>
    cases h with
    | @cons _ fc fq _ h t =>
      obtain ⟨f1, f2, rfl, a, b⟩ := ih t
      exact ⟨fc ++ f1, f2, by rw [List.append_assoc], .cons h a, b⟩
end

/-! ### the state of a body: slots, temporaries -/
abbrev Tm := List (V × Ent)
def tmp (T : Tm) : List (Option V × Ent) := T.map fun p => (some p.1, p.2)
structure RelF (K : PySem.W.Frag) (c : Ct) (σ : L2.St) (ρ : List Ent) (T : Tm) (H : Hp) (F : Hp) (fp : List Addr) : Prop where
  f0 : Same c.F0 F
  fh : Same F H
  new : ∀ a, F a ≠ none → c.F0 a ≠ none ∨ c.H0 a = none
  keep : ∀ a o, c.H0 a = some o → ¬ c.W a → H a = some o
  trk : ∀ a, c.H0 a ≠ none → H a ≠ none
  sl : Slots K c F H (tmp T ++ σ.zip ρ) fp
  nd : fp.Nodup
  own : ∀ a ∈ fp, F a = none ∧ (c.W a ∨ c.H0 a = none)
  len : σ.length = ρ.length
  pin : ∀ (i : Nat) (v : V), c.pins[i]? = some (some v) → σ[i]? = some (some v) ∧ ∃ e : Ent, ρ[i]? = some e ∧ pinE e = true
def Rel (K : PySem.W.Frag) (c : Ct) (σ : L2.St) (ρ : List Ent) (T : Tm) (H : Hp) : Prop := ∃ F fp, RelF K c σ ρ T H F fp
theorem zip_set' {α β : Type} : ∀ (xs : List α) (ys : List β) (i : Nat) (a : α) (b : β), (xs.set i a).zip (ys.set i b) = (xs.zip ys).set i (a, b)
  | [], ys, i, a, b => by simp
  | x :: xs, [], i, a, b => by cases i <;> simp
  | x :: xs, y :: ys, 0, a, b => rfl
  | x :: xs, y :: ys, i + 1, a, b => by
    show (x, y) :: (xs.set i a).zip (ys.set i b) = (x, y) :: (xs.zip ys).set i (a, b)
    rw [zip_set' xs ys i a b]
theorem zip_at {α β : Type} {xs : List α} {ys : List β} {i : Nat} {a : α} {b : β} (h : xs[i]? = some a) (g : ys[i]? = some b) : (xs.zip ys)[i]? = some (a, b) := by
  rw [List.getElem?_zip_eq_some]
  exact ⟨h, g⟩
section
variable {K : PySem.W.Frag} {c : Ct} {σ : L2.St} {ρ : List Ent} {T : Tm} {H F : Hp} {fp : List Addr} {v : V} {d : PyData} {e : Ent}
/-- a new object that is tracked -/
theorem Rel.fresh (h : Rel K c σ ρ T H) {p : Addr} (hp : H p = none) (o : HO) : Rel K c σ ρ T (upd H p o) := by
  obtain ⟨F, fp, r⟩ := h
  refine ⟨F, fp, r.f0, fun b u q => ?_, r.new, fun a u q w => ?_, fun a q => ?_, r.sl.stay (fun _ _ z => z) fun a ha => upd_ne fun z => ?_, r.nd, r.own, r.len, r.pin⟩
  · rw [upd_ne (ne_of_none (r.fh b u q) hp)]
    exact r.fh b u q
  · have z := r.keep a u q w
    rw [upd_ne (ne_of_none z hp)]
    exact z
  · have z := r.trk a q
    intro y
    by_cases hb : a = p
    · rw [hb, upd_same] at y
      cases y
    · rw [upd_ne hb] at y
      exact z y
  · rw [z] at ha
    exact r.sl.there p ha hp
/-- a temporary more: a value that is told by what is frozen -/
theorem RelF.push (r : RelF K c σ ρ T H F fp) (h : Rp K F v d) : RelF K c σ ρ ((v, .val d) :: T) H F fp :=
  ⟨r.f0, r.fh, r.new, r.keep, r.trk, .cons (.val h) r.sl, r.nd, r.own, r.len, r.pin⟩
theorem Rel.push (r : Rel K c σ ρ T H) (h : ∀ F, Rp K F v d) : Rel K c σ ρ ((v, .val d) :: T) H :=
  let ⟨F, fp, r⟩ := r
  ⟨F, fp, r.push (h F)⟩
theorem Rel.pushI (r : Rel K c σ ρ T H) (i : Int) : Rel K c σ ρ ((.int i, .val (.int i)) :: T) H := r.push fun _ => .int i
theorem Rel.pushB (r : Rel K c σ ρ T H) (b : Bool) : Rel K c σ ρ ((.bl b, .val (.bool b)) :: T) H := r.push fun _ => .bl b
theorem Rel.pushS (r : Rel K c σ ρ T H) (x : Str) : Rel K c σ ρ ((.str x, .val (.str x)) :: T) H := r.push fun _ => .str x
theorem Rel.pushN (r : Rel K c σ ρ T H) : Rel K c σ ρ ((.non, .val .none) :: T) H := r.push fun _ => .non
/-- what a temporary says -/
theorem RelF.top (r : RelF K c σ ρ ((v, .val d) :: T) H F fp) : Rp K F v d := by
  cases r.sl with
  | cons h t => cases h with | val q => exact q
theorem RelF.pop (r : RelF K c σ ρ ((v, e) :: T) H F fp) : ∃ fc fq, fp = fc ++ fq ∧ SlotOk K c F H (some v, e) fc ∧ RelF K c σ ρ T H F fq := by
  cases hsl : r.sl with
  | @cons _ fc fq _ h t =>
    exact ⟨fc, fq, rfl, h, r.f0, r.fh, r.new, r.keep, r.trk, t, (List.nodup_append.mp r.nd).2.1, fun a ha => r.own a (List.mem_append_right _ ha), r.len, r.pin⟩
theorem Rel.pop (r : Rel K c σ ρ ((v, e) :: T) H) : Rel K c σ ρ T H := by
  obtain ⟨F, fp, r⟩ := r
  obtain ⟨fc, fq, _, _, q⟩ := r.pop
  exact ⟨F, fq, q⟩
theorem Rel.drop {S : Tm} (r : Rel K c σ ρ (S ++ T) H) : Rel K c σ ρ T H := by
  induction S with
  | nil => exact r
  | cons p S ih => exact ih (Rel.pop (v := p.1) (e := p.2) r)
theorem RelF.popV (r : RelF K c σ ρ ((v, .val d) :: T) H F fp) : RelF K c σ ρ T H F fp := by
  obtain ⟨fc, fq, e, h, q⟩ := r.pop
  cases h
  rw [e]
  exact q
/-- a new tuple -/
theorem RelF.tupNew {xs : List V} {ds : List PyData} {p : Addr} (r : RelF K c σ ρ T H F fp) (hp : H p = none) (hx : Rps K F xs ds) : Rel K c σ ρ ((.ref p, .val (.tuple ds)) :: T) (upd H p (.tup xs)) := by
  have hF : F p = none := by
    cases q : F p with
    | none => rfl
    | some o =>
      have z := r.fh p o q
      rw [hp] at z
      cases z
  refine ⟨upd F p (.tup xs), fp, fun b u q => ?_, fun b u q => ?_, fun a q => ?_, fun a u q w => ?_, fun a q => ?_, .cons (.val (.tup (.inl (.inl upd_same)) (hx.mono fun b u q => ?_))) (r.sl.stay (fun b u q => ?_) fun a ha => upd_ne fun z => ?_), r.nd, fun a ha => ⟨?_, (r.own a ha).2⟩, r.len, r.pin⟩
  · have z := r.f0 b u q
    rw [upd_ne (ne_of_none z hF)]
    exact z
  · by_cases hb : b = p
    · rw [hb, upd_same] at q
      rw [hb, upd_same]
      exact q
    · rw [upd_ne hb] at q ⊢
      exact r.fh b u q
  · by_cases hb : a = p
    · right
      rw [hb]
      cases z : c.H0 p with
      | none => rfl
      | some o => exact absurd hp (r.trk p (by rw [z]; exact fun z => nomatch z))
    · rw [upd_ne hb] at q
      exact r.new a q
  · have z := r.keep a u q w
    rw [upd_ne (ne_of_none z hp)]
    exact z
  · intro y
    by_cases hb : a = p
    · rw [hb, upd_same] at y
      cases y
    · rw [upd_ne hb] at y
      exact r.trk a q y
  · rw [upd_ne (ne_of_none q hF)]
    exact q
  · rw [upd_ne (ne_of_none q hF)]
    exact q
  · rw [z] at ha
    exact r.sl.there p ha hp
  · rw [upd_ne fun z => r.sl.there p (by rw [← z]; exact ha) hp]
    exact (r.own a ha).1
/-- a new cell, owned -/
theorem RelF.cellNew {ce : Cell} {o : HO} {p : Addr} (r : RelF K c σ ρ T H F fp) (hp : H p = none) (hx : CellAt K F (upd H p o) (.ref p) ce [p]) : Rel K c σ ρ ((.ref p, .own true ce) :: T) (upd H p o) := by
  have h0 : c.H0 p = none := by
    cases z : c.H0 p with
    | none => rfl
    | some o => exact absurd hp (r.trk p (by rw [z]; exact fun z => nomatch z))
  have hF : F p = none := by
    cases q : F p with
    | none => rfl
    | some o =>
      have z := r.fh p o q
      rw [hp] at z
      cases z
  have hn : ∀ a ∈ fp, a ≠ p := fun a ha z => r.sl.there p (z ▸ ha) hp
  refine ⟨F, [p] ++ fp, r.f0, fun b u q => ?_, r.new, fun a u q w => ?_, fun a q => ?_, .cons (.own hx fun _ a ha => ?_) (r.sl.stay (fun _ _ z => z) fun a ha => upd_ne (hn a ha)), ?_, fun a ha => ?_, r.len, r.pin⟩
  · rw [upd_ne (ne_of_none (r.fh b u q) hp)]
    exact r.fh b u q
  · have z := r.keep a u q w
    rw [upd_ne (ne_of_none z hp)]
    exact z
  · intro y
    by_cases hb : a = p
    · rw [hb, upd_same] at y
      cases y
    · rw [upd_ne hb] at y
      exact r.trk a q y
  · rw [List.mem_singleton.mp ha]
    exact h0
  · exact List.nodup_cons.mpr ⟨fun z => hn p z rfl, r.nd⟩
  · rcases List.mem_cons.mp ha with z | z
    · rw [z]
      exact ⟨hF, .inr h0⟩
    · exact r.own a z
theorem RelF.lstNew {xs : List V} {ds : List PyData} {p : Addr} (r : RelF K c σ ρ T H F fp) (hp : H p = none) (hx : Rps K F xs ds) : Rel K c σ ρ ((.ref p, .own true (.lst ds)) :: T) (upd H p (.lst xs)) := r.cellNew hp (.lst upd_same hx)
theorem RelF.dctNew {p : Addr} (r : RelF K c σ ρ T H F fp) (hp : H p = none) : Rel K c σ ρ ((.ref p, .own true (.dct [])) :: T) (upd H p (.dK [])) := r.cellNew hp (.dct upd_same rfl .nil)
/-- the top, an owned cell, opened -/
theorem RelF.opn {fr : Bool} {ce : Cell} (r : RelF K c σ ρ ((v, .own fr ce) :: T) H F fp) : ∃ fc fq, CellAt K F H v ce fc ∧ RelF K c σ ρ T H F fq ∧ (fr = true → ∀ a ∈ fc, c.H0 a = none) ∧ fp = fc ++ fq ∧
    ∀ (a : Addr) (o : HO) (ce' : Cell), a ∈ fc → CellAt K F (upd H a o) v ce' fc → Rel K c σ ρ ((v, .own fr ce') :: T) (upd H a o) := by
  obtain ⟨fc, fq, e, q, r1⟩ := r.pop
  cases q with
  | own rc hf =>
    refine ⟨fc, fq, rc, r1, hf, e, fun a o ce' ha hx => ?_⟩
    have hown := r.own a (by rw [e]; exact List.mem_append_left _ ha)
    have hnd := r.nd
    rw [e] at hnd
    have hn : ∀ b ∈ fq, b ≠ a := fun b hb z => (List.nodup_append.mp hnd).2.2 a ha b hb z.symm
    refine ⟨F, fc ++ fq, r1.f0, fun b u z => ?_, r1.new, fun b u z w => ?_, fun b z => ?_, .cons (.own hx hf) (r1.sl.stay (fun _ _ z => z) fun b hb => upd_ne (hn b hb)), hnd, fun b hb => r.own b (by rw [e]; exact hb), r1.len, r1.pin⟩
    · rw [upd_ne (ne_of_none z hown.1)]
      exact r1.fh b u z
    · have y := r1.keep b u z w
      by_cases hb : b = a
      · subst hb
        rcases hown.2 with k | k
        · exact absurd k w
        · rw [k] at z
          cases z
      · rw [upd_ne hb]
        exact y
    · intro y
      by_cases hb : b = a
      · rw [hb, upd_same] at y
        cases y
      · rw [upd_ne hb] at y
        exact r1.trk b z y
/-- an owned new list becomes data -/
theorem Rel.freeze {ds : List PyData} (r : Rel K c σ ρ ((v, .own true (.lst ds)) :: T) H) : Rel K c σ ρ ((v, .val (.list ds)) :: T) H := by
  obtain ⟨F, fp, r⟩ := r
  obtain ⟨fc, fq, e, h, q⟩ := r.pop
  cases h with
  | own rc hf =>
    cases rc with
    | @lst a vs _ ha rs =>
      have hFa : F a = none := (r.own a (by rw [e]; exact List.mem_append_left _ (List.mem_singleton.mpr rfl))).1
      have hnd := r.nd
      rw [e] at hnd
      have hn : ∀ b ∈ fq, b ≠ a := fun b hb z => (List.nodup_cons.mp hnd).1 (z ▸ hb)
      have sm : Same F (upd F a (.lst vs)) := fun b u z => by
        rw [upd_ne (ne_of_none z hFa)]
        exact z
      refine ⟨upd F a (.lst vs), fq, q.f0.trans sm, fun b u z => ?_, fun b z => ?_, q.keep, q.trk, .cons (.val (.lst upd_same (rs.mono sm))) (q.sl.stay sm fun _ _ => rfl), q.nd, fun b hb => ⟨?_, (q.own b hb).2⟩, q.len, q.pin⟩
      · by_cases hb : b = a
        · rw [hb, upd_same] at z
          rw [hb, ha]
          exact z
        · rw [upd_ne hb] at z
          exact q.fh b u z
      · by_cases hb : b = a
        · rw [hb]
          exact .inr (hf rfl a (List.mem_singleton.mpr rfl))
        · rw [upd_ne hb] at z
          exact q.new b z
      · rw [upd_ne (hn b hb)]
        exact (q.own b hb).1
/-- the top two temporaries change places -/
theorem Rel.swap {p q : V × Ent} (r : Rel K c σ ρ (p :: q :: T) H) : Rel K c σ ρ (q :: p :: T) H := by
  obtain ⟨F, fp, r⟩ := r
  obtain ⟨f1, fr, e1, h1, r1⟩ := RelF.pop (v := p.1) (e := p.2) r
  obtain ⟨f2, fs, e2, h2, r2⟩ := RelF.pop (v := q.1) (e := q.2) r1
  subst e1 e2
  have pm : (f2 ++ (f1 ++ fs)).Perm (f1 ++ (f2 ++ fs)) := by
    rw [← List.append_assoc, ← List.append_assoc]
    exact List.Perm.append_right _ List.perm_append_comm
  exact ⟨F, f2 ++ (f1 ++ fs), r.f0, r.fh, r.new, r.keep, r.trk, .cons h2 (.cons h1 r2.sl), pm.nodup_iff.mpr r.nd, fun a ha => r.own a (pm.mem_iff.mp ha), r.len, r.pin⟩
/-- a slot is written -/
theorem RelF.putG {i : Nat} (r : RelF K c σ ρ ((v, e) :: T) H F fp) (hp : ∀ w, c.pins[i]? = some (some w) → w = v ∧ pinE e = true) : Rel K c (σ.set i (some v)) (ρ.set i e) T H := by
  obtain ⟨fc, fq, e1, h, q⟩ := r.pop
  subst e1
  have hpin : ∀ (j : Nat) (w : V), c.pins[j]? = some (some w) → (σ.set i (some v))[j]? = some (some w) ∧ ∃ e0 : Ent, (ρ.set i e)[j]? = some e0 ∧ pinE e0 = true := fun j w z => by
    obtain ⟨z1, e0, z2, z3⟩ := r.pin j w z
    by_cases hj : i = j
    · subst hj
      obtain ⟨y1, y2⟩ := hp w z
      rw [List.getElem?_set_self (List.getElem?_eq_some_iff.mp z1).1, List.getElem?_set_self (List.getElem?_eq_some_iff.mp z2).1, y1]
      exact ⟨rfl, e, rfl, y2⟩
    · rw [List.getElem?_set_ne hj, List.getElem?_set_ne hj]
      exact ⟨z1, e0, z2, z3⟩
  by_cases hi : i < σ.length
  · obtain ⟨f1, fo, f2, e2, f3, f4⟩ := Slots.place (i := T.length + i) q.sl (x := (σ[i], ρ[i]'(q.len ▸ hi))) (by
      rw [List.getElem?_append_right (by simp [tmp])]
      simp only [tmp, List.length_map, Nat.add_sub_cancel_left]
      exact zip_at (List.getElem?_eq_getElem hi) (List.getElem?_eq_getElem _))
    subst e2
    have z := f4 F H (some v, e) fc (fun _ _ z => z) (fun _ _ => rfl) h
    rw [List.set_append_right _ _ (by simp [tmp])] at z
    simp only [tmp, List.length_map, Nat.add_sub_cancel_left, ← zip_set'] at z
    have sub : (f1 ++ (fc ++ f2)).Nodup ∧ ∀ a ∈ f1 ++ (fc ++ f2), a ∈ fc ++ (f1 ++ (fo ++ f2)) := by
      have nd := r.nd
      refine ⟨?_, fun a ha => ?_⟩
      · have p1 : (f1 ++ (fc ++ f2)).Perm (fc ++ (f1 ++ f2)) := by
          rw [← List.append_assoc, ← List.append_assoc]
          exact List.Perm.append_right _ List.perm_append_comm
        refine p1.nodup_iff.mpr (nd.sublist ?_)
        exact List.Sublist.append_left (List.Sublist.append_left (List.sublist_append_right _ _) _) _
      · simp only [List.mem_append] at ha ⊢
        rcases ha with z | z | z
        · exact .inr (.inl z)
        · exact .inl z
        · exact .inr (.inr (.inr z))
    exact ⟨F, f1 ++ (fc ++ f2), q.f0, q.fh, q.new, q.keep, q.trk, z, sub.1, fun a ha => r.own a (sub.2 a ha), by rw [List.length_set, List.length_set]; exact q.len, hpin⟩
  · have hρ : ¬ i < ρ.length := by rw [← q.len]; exact hi
    rw [List.set_eq_of_length_le (by omega), List.set_eq_of_length_le (by omega)]
    exact ⟨F, fq, q⟩
/-- may the slot be written? -/
def freeE (ρ : List Ent) (i : Nat) : Bool := match ρ[i]? with
  | some e => !pinE e
  | none => true
theorem Rel.put {i : Nat} (r : Rel K c σ ρ ((v, e) :: T) H) (hp : freeE ρ i = true) : Rel K c (σ.set i (some v)) (ρ.set i e) T H := by
  obtain ⟨F, fp, r⟩ := r
  refine r.putG fun w z => ?_
  obtain ⟨_, e0, z2, z3⟩ := r.pin i w z
  unfold freeE at hp
  rw [z2] at hp
  simp only [z3, Bool.not_true] at hp
  cases hp
theorem set_id {i : Nat} (hv : σ[i]? = some (some v)) : σ.set i (some v) = σ := by
  refine List.ext_getElem? fun j => ?_
  by_cases hj : i = j
  · subst hj
    rw [List.getElem?_set_self (List.getElem?_eq_some_iff.mp hv).1, hv]
  · rw [List.getElem?_set_ne hj]
/-- a slot becomes a temporary -/
theorem Rel.take {i : Nat} (r : Rel K c σ ρ T H) (hv : σ[i]? = some (some v)) (he : ρ[i]? = some e) : Rel K c σ (ρ.set i .lent) ((v, e) :: T) H := by
  obtain ⟨F, fp, r⟩ := r
  obtain ⟨f1, fc, f2, e2, f3, f4⟩ := Slots.place (i := T.length + i) r.sl (x := (some v, e)) (by
    rw [List.getElem?_append_right (by simp [tmp])]
    simp only [tmp, List.length_map, Nat.add_sub_cancel_left]
    exact zip_at hv he)
  subst e2
  have z := f4 F H (some v, .lent) [] (fun _ _ z => z) (fun _ _ => rfl) (.lent _)
  rw [List.set_append_right _ _ (by simp [tmp])] at z
  simp only [tmp, List.length_map, Nat.add_sub_cancel_left, ← zip_set', List.nil_append] at z
  rw [set_id hv] at z
  have pm : (fc ++ (f1 ++ f2)).Perm (f1 ++ (fc ++ f2)) := by
    rw [← List.append_assoc, ← List.append_assoc]
    exact List.Perm.append_right _ List.perm_append_comm
  refine ⟨F, fc ++ (f1 ++ f2), r.f0, r.fh, r.new, r.keep, r.trk, .cons f3 z, pm.nodup_iff.mpr r.nd, fun a ha => r.own a (pm.mem_iff.mp ha), by rw [List.length_set]; exact r.len, fun j w y => ?_⟩
  obtain ⟨z1, e0, z2, z3⟩ := r.pin j w y
  refine ⟨z1, ?_⟩
  by_cases hj : i = j
  · subst hj
    exact ⟨.lent, List.getElem?_set_self (List.getElem?_eq_some_iff.mp z2).1, rfl⟩
  · exact ⟨e0, by rw [List.getElem?_set_ne hj]; exact z2, z3⟩
/-- and back -/
theorem Rel.back {i : Nat} (r : Rel K c σ ρ ((v, e) :: T) H) (hv : σ[i]? = some (some v)) (hp : ∀ w, c.pins[i]? = some (some w) → pinE e = true) : Rel K c σ (ρ.set i e) T H := by
  obtain ⟨F, fp, r⟩ := r
  have q := r.putG (i := i) fun w z => ⟨by
    have := (r.pin i w z).1
    rw [hv] at this
    cases this
    rfl, hp w z⟩
  rw [set_id hv] at q
  exact q
theorem Rel.pinned {i : Nat} {w : V} (r : Rel K c σ ρ T H) (z : c.pins[i]? = some (some w)) (he : ρ[i]? = some e) : pinE e = true := by
  obtain ⟨F, fp, r⟩ := r
  obtain ⟨_, e0, z2, z3⟩ := r.pin i w z
  rw [he] at z2
  cases z2
  exact z3
/-- what a slot says -/
theorem Rel.slot {i : Nat} (r : Rel K c σ ρ T H) (he : ρ[i]? = some (.val d)) : ∃ v, σ[i]? = some (some v) ∧ Rel K c σ ρ ((v, .val d) :: T) H := by
  obtain ⟨F, fp, r⟩ := r
  have hi : i < σ.length := by
    rw [r.len]
    exact (List.getElem?_eq_some_iff.mp he).1
  obtain ⟨f1, fc, f2, e2, f3, f4⟩ := Slots.place (i := T.length + i) r.sl (x := (σ[i], .val d)) (by
    rw [List.getElem?_append_right (by simp [tmp])]
    simp only [tmp, List.length_map, Nat.add_sub_cancel_left]
    exact zip_at (List.getElem?_eq_getElem hi) he)
  generalize hs : σ[i] = s at f3
  cases f3 with
  | @val v _ q => exact ⟨v, by rw [List.getElem?_eq_getElem hi, hs], F, fp, r.push q⟩
/-- an owned slot has a value -/
theorem Rel.ownv {i : Nat} {fr : Bool} {ce : Cell} (r : Rel K c σ ρ T H) (he : ρ[i]? = some (.own fr ce)) : ∃ v, σ[i]? = some (some v) := by
  obtain ⟨F, fp, r⟩ := r
  have hi : i < σ.length := by
    rw [r.len]
    exact (List.getElem?_eq_some_iff.mp he).1
  obtain ⟨f1, fc, f2, e2, f3, f4⟩ := Slots.place (i := T.length + i) r.sl (x := (σ[i], .own fr ce)) (by
    rw [List.getElem?_append_right (by simp [tmp])]
    simp only [tmp, List.length_map, Nat.add_sub_cancel_left]
    exact zip_at (List.getElem?_eq_getElem hi) he)
  generalize hs : σ[i] = s at f3
  cases f3 with
  | @own v _ _ _ q _ => exact ⟨v, by rw [List.getElem?_eq_getElem hi, hs]⟩
/-- the top, an owned list, is written -/
theorem Rel.write {fr : Bool} {ds ds' : List PyData} (g : List V → List V) (r : Rel K c σ ρ ((v, .own fr (.lst ds)) :: T) H) (h : ∀ F fp vs, RelF K c σ ρ T H F fp → Rps K F vs ds → Rps K F (g vs) ds') :
    ∃ a vs, v = .ref a ∧ H a = some (.lst vs) ∧ vs.length = ds.length ∧ Rel K c σ ρ ((v, .own fr (.lst ds')) :: T) (upd H a (.lst (g vs))) := by
  obtain ⟨F, fp, r⟩ := r
  obtain ⟨fc, fq, e, q, r1⟩ := r.pop
  cases q with
  | own rc hf =>
    cases rc with
    | @lst a vs _ ha rs =>
      have hown := r.own a (by rw [e]; exact List.mem_append_left _ (List.mem_singleton.mpr rfl))
      have hnd := r.nd
      rw [e] at hnd
      have hn : ∀ b ∈ fq, b ≠ a := fun b hb z => (List.nodup_cons.mp hnd).1 (z ▸ hb)
      refine ⟨a, vs, rfl, ha, rs.length, F, [a] ++ fq, r1.f0, fun b u z => ?_, r1.new, fun b u z w => ?_, fun b z => ?_, .cons (.own (.lst upd_same (h F fq vs r1 rs)) hf) (r1.sl.stay (fun _ _ z => z) fun b hb => upd_ne (hn b hb)), hnd, fun b hb => r.own b (by rw [e]; exact hb), r1.len, r1.pin⟩
      · rw [upd_ne (ne_of_none z hown.1)]
        exact r1.fh b u z
      · have y := r1.keep b u z w
        by_cases hb : b = a
        · subst hb
          rcases hown.2 with k | k
          · exact absurd k w
          · rw [k] at z
            cases z
        · rw [upd_ne hb]
          exact y
      · intro y
        by_cases hb : b = a
        · rw [hb, upd_same] at y
          cases y
        · rw [upd_ne hb] at y
          exact r1.trk b z y
theorem Slots.permute {l l' : List (Option V × Ent)} (hp : l.Perm l') : ∀ {fp : List Addr}, Slots K c F H l fp → ∃ fq, fq.Perm fp ∧ Slots K c F H l' fq := by
  induction hp with
  | nil => exact fun h => ⟨_, .refl _, h⟩
  | cons x _ ih =>
    intro fp h
    cases h with
    | cons h t =>
      obtain ⟨fq, pm, q⟩ := ih t
      exact ⟨_, pm.append_left _, .cons h q⟩
  | swap x y l =>
    intro fp h
    cases h with
    | @cons _ f1 _ _ h1 t1 =>
      cases t1 with
      | @cons _ f2 f3 _ h2 t2 =>
        refine ⟨f2 ++ (f1 ++ f3), ?_, .cons h2 (.cons h1 t2)⟩
        rw [← List.append_assoc, ← List.append_assoc]
        exact List.Perm.append_right _ List.perm_append_comm
  | trans _ _ ih1 ih2 =>
    intro fp h
    obtain ⟨fq, pm, q⟩ := ih1 h
    obtain ⟨fr, pm2, q2⟩ := ih2 q
    exact ⟨fr, pm2.trans pm, q2⟩
/-- temporaries in another order -/
theorem Rel.perm {T' : Tm} (r : Rel K c σ ρ T H) (hp : T.Perm T') : Rel K c σ ρ T' H := by
  obtain ⟨F, fp, r⟩ := r
  obtain ⟨fq, pm, q⟩ := Slots.permute ((hp.map fun p => (some p.1, p.2)).append_right (σ.zip ρ)) r.sl
  exact ⟨F, fq, r.f0, r.fh, r.new, r.keep, r.trk, q, pm.nodup_iff.mpr r.nd, fun a ha => r.own a (pm.mem_iff.mp ha), r.len, r.pin⟩
/-- what the top, an owned list, says -/
theorem RelF.lstTop {fr : Bool} {ds : List PyData} (r : RelF K c σ ρ ((v, .own fr (.lst ds)) :: T) H F fp) : ∃ a vs, v = .ref a ∧ H a = some (.lst vs) ∧ Rps K F vs ds := by
  obtain ⟨fc, fq, e, q, r1⟩ := r.pop
  cases q with
  | own rc hf =>
    cases rc with
    | @lst a vs _ ha rs => exact ⟨a, vs, rfl, ha, rs⟩
end
end Fj

set_option Elab.async false
set_option linter.all false
set_option maxRecDepth 100000
set_option maxHeartbeats 4000000
set_option autoImplicit false
/-! Judgements over a family of contexts: what an expression's mirror says. -/
namespace Fj
open PySem PySem.Spec PyProof.Rows L2

/-- contexts that differ in what the text does not say -/
structure Fam where
  I : Type
  X : I → Cx
  P : Program
  w : World
  K : PySem.W.Frag
  mg : Str → Option Value
  base : Heap
  k : Nat
  hP : ∀ i, (X i).prog = P
  hw : ∀ i, (X i).w = w
  hK : ∀ i, (X i).K = K
  hmg : ∀ i, (X i).mg = mg
  hbase : ∀ i, (X i).base = base
  calm : ∀ i, (X i).calm = true
  gd : ∀ i, (X i).A.guards = some []
  room : ∀ i, Room k (X i).A
/-- a comprehension's block -/
def Fam.blk (Y : Fam) (scope : Scope) : Fam where
  I := Y.I × Shared × Hp × Addr × List (Str × Addr) × List Addr
  X := fun i => (Y.X i.1).blk i.2.1 i.2.2.1 scope (compEnvC scope i.2.2.2.2.1 i.2.2.2.1 (Y.X i.1).env) i.2.2.2.2.2
  P := Y.P
  w := Y.w
  K := Y.K
  mg := Y.mg
  base := Y.base
  k := Y.k
  hP := fun i => Y.hP i.1
  hw := fun i => Y.hw i.1
  hK := fun i => Y.hK i.1
  hmg := fun i => Y.hmg i.1
  hbase := fun i => Y.hbase i.1
  calm := fun i => Y.calm i.1
  gd := fun i => Y.gd i.1
  room := fun i => Y.room i.1

abbrev En := List Ent
abbrev MV := En → Option (PyData × En)
abbrev MO := En → Option (Ent × En)
abbrev MT := En → Option (Bool × En)
def PostV (K : PySem.W.Frag) (c : Ct) (σ : L2.St) (T : Tm) (r : Option (PyData × En)) (Q : VK) : Prop := match r with
  | none => False
  | some (d, ρ) => ∀ v H, Rel K c σ ρ ((v, .val d) :: T) H → Q v H
def PostO (K : PySem.W.Frag) (c : Ct) (σ : L2.St) (T : Tm) (r : Option (Ent × En)) (Q : VK) : Prop := match r with
  | none => False
  | some (e, ρ) => ∀ v H, Rel K c σ ρ ((v, e) :: T) H → Q v H
def PostT (K : PySem.W.Frag) (c : Ct) (σ : L2.St) (T : Tm) (r : Option (Bool × En)) (Q : Bool → Hp → Prop) : Prop := match r with
  | none => False
  | some (b, ρ) => ∀ H, Rel K c σ ρ T H → Q b H
def SemV (K : PySem.W.Frag) (t : TE) (m : MV) : Prop := ∀ (c : Ct) (σ : L2.St) (ρ : En) (T : Tm) (H : Hp) (Q : VK), Rel K c σ ρ T H → PostV K c σ T (m ρ) Q → t σ H Q
def SemO (K : PySem.W.Frag) (t : TE) (m : MO) : Prop := ∀ (c : Ct) (σ : L2.St) (ρ : En) (T : Tm) (H : Hp) (Q : VK), Rel K c σ ρ T H → PostO K c σ T (m ρ) Q → t σ H Q
def SemT (K : PySem.W.Frag) (t : TT) (m : MT) : Prop := ∀ (c : Ct) (σ : L2.St) (ρ : En) (T : Tm) (H : Hp) (Q : Bool → Hp → Prop), Rel K c σ ρ T H → PostT K c σ T (m ρ) Q → t σ H Q
def JV (Y : Fam) (e : Expr) (m : MV) : Prop := ∃ t, (∀ i, PE (Y.X i) e t) ∧ SemV Y.K t m
def JO (Y : Fam) (e : Expr) (m : MO) : Prop := ∃ t, (∀ i, PE (Y.X i) e t) ∧ SemO Y.K t m
def JT (Y : Fam) (e : Expr) (m : MT) : Prop := ∃ t, (∀ i, PT (Y.X i) e t) ∧ SemT Y.K t m

/-! ### plain expressions -/
def mC (d : PyData) : MV := fun ρ => some (d, ρ)
def mVar (i : Nat) : MV := fun ρ => match ρ[i]? with
  | some (.val d) => some (d, ρ)
  | _ => none
/-- an owned list is given up to the data -/
def fz : Ent → Option PyData
  | .val d => some d
  | .own true (.lst ds) => some (.list ds)
  | _ => none
def mFz (m : MO) : MV := fun ρ => match m ρ with
  | some (e, ρ) => (fz e).map fun d => (d, ρ)
  | none => none
def mVal (m : MV) : MO := fun ρ => (m ρ).map fun p => (.val p.1, p.2)
section
variable {Y : Fam} {e a b c0 : Expr} {pos : Pos}
theorem Rel.fz {K : PySem.W.Frag} {c : Ct} {σ : L2.St} {ρ : En} {T : Tm} {H : Hp} {v : V} {e : Ent} {d : PyData} (h : fz e = some d) (r : Rel K c σ ρ ((v, e) :: T) H) : Rel K c σ ρ ((v, .val d) :: T) H := by
  unfold Fj.fz at h
  split at h
  · cases h
    exact r
  · cases h
    exact r.freeze
  · cases h
theorem j_fz {m : MO} (h : JO Y e m) : JV Y e (mFz m) := by
  obtain ⟨t, p, s⟩ := h
  refine ⟨t, p, fun c σ ρ T H Q r q => s c σ ρ T H Q r ?_⟩
  unfold mFz at q
  cases hm : m ρ with
  | none =>
    rw [hm] at q
    exact q
  | some z =>
    obtain ⟨e0, ρ1⟩ := z
    rw [hm] at q
    simp only at q
    cases hf : fz e0 with
    | none =>
      rw [hf] at q
      exact False.elim q
    | some d =>
      rw [hf] at q
      exact fun v H1 r1 => q v H1 (r1.fz hf)
theorem j_val {m : MV} (h : JV Y e m) : JO Y e (mVal m) := by
  obtain ⟨t, p, s⟩ := h
  refine ⟨t, p, fun c σ ρ T H Q r q => s c σ ρ T H Q r ?_⟩
  unfold mVal at q
  cases hm : m ρ with
  | none =>
    rw [hm] at q
    exact q
  | some z =>
    rw [hm] at q
    exact q
theorem j_var (i : Nat) {x : Str} (hN : ∀ j, (Y.X j).N[i]? = some x := by intro _; rfl) (hv : ∀ j, Vis (Y.X j).env.scope x := by first | exact fun _ => Or.inl rfl | exact fun _ => Or.inr (Or.inl rfl) | exact fun _ => Or.inr (Or.inr rfl)) (hd : (x == ("__debug__" : Str)) = false := by decide)
    (hcd : (x == ("__classdict__" : Str)) = false := by decide) : JV Y (.Name x pos) (mVar i) := by
  refine ⟨tVar i, fun j => pe_var (hN j) (hv j) hd hcd, fun c σ ρ T H Q r q => ?_⟩
  unfold mVar at q
  split at q
  · rename_i d he
    obtain ⟨v, hv, r1⟩ := r.slot he
    exact ⟨v, hv, q v H r1⟩
  · exact q.elim
theorem j_int {i : Int} {j : Nat} : JV Y (.Constant (.int i) j pos) (mC (.int i)) := ⟨tC (.int i), fun _ => pe_int, fun _ _ _ _ H _ r q => q _ H (r.pushI i)⟩
theorem j_bool {b : Bool} {j : Nat} : JV Y (.Constant (.bool b) j pos) (mC (.bool b)) := ⟨tC (.bl b), fun _ => pe_bl, fun _ _ _ _ H _ r q => q _ H (r.pushB b)⟩
theorem j_str {x : Str} {j : Nat} : JV Y (.Constant (.str x) j pos) (mC (.str x)) := ⟨tC (.str x), fun _ => pe_str, fun _ _ _ _ H _ r q => q _ H (r.pushS x)⟩
theorem j_none {j : Nat} : JV Y (.Constant .none j pos) (mC .none) := ⟨tC .non, fun _ => pe_non, fun _ _ _ _ H _ r q => q _ H r.pushN⟩
/-- a constant of the module -/
theorem j_glob {x : Str} {v : V} {u : Value} {d : PyData} (hm : Y.mg x = some u) (rv : RelV v u) (hr : ∀ F, Rp Y.K F v d) (hg : ∀ j, Gl (Y.X j) x := by intro _; rfl) (hd : (x == ("__debug__" : Str)) = false := by decide) : JV Y (.Name x pos) (mC d) :=
  ⟨tC v, fun j => pe_glob (hg j) (by rw [Y.hmg j]; exact hm) rv hd, fun _ _ _ _ H _ r q => q _ H (r.push hr)⟩

/-! ### operations of two values -/
def OpJ (Y : Fam) (f : Value → Value → Sem Value) (g : PyData → PyData → Option PyData) : Prop := ∃ r : R2, (∀ j, OpR (Y.X j) f r) ∧
  ∀ (c : Ct) (σ : L2.St) (ρ : En) (T : Tm) (H : Hp) (x y : V) (dx dy z : PyData) (Q : VK), Rel Y.K c σ ρ ((y, .val dy) :: (x, .val dx) :: T) H → g dx dy = some z → (∀ v H', Rel Y.K c σ ρ ((v, .val z) :: T) H' → Q v H') → r x y H Q
def mBin (g : PyData → PyData → Option PyData) (ma mb : MV) : MV := fun ρ => match ma ρ with
  | none => none
  | some (x, ρ) => match mb ρ with
    | none => none
    | some (y, ρ) => (g x y).map fun z => (z, ρ)
theorem OpJ.or {f : Value → Value → Sem Value} {g g' : PyData → PyData → Option PyData} (h : OpJ Y f g) (h' : OpJ Y f g') : OpJ Y f (fun x y => (g x y).or (g' x y)) := by
  obtain ⟨r, o, s⟩ := h
  obtain ⟨r', o', s'⟩ := h'
  refine ⟨_, fun j => OpR.or (o j) (o' j), fun c σ ρ T H x y dx dy z Q re e q => ?_⟩
  cases hg : g dx dy with
  | some w =>
    simp only [hg, Option.or] at e
    cases e
    exact .inl (s c σ ρ T H x y dx dy _ Q re hg q)
  | none =>
    simp only [hg, Option.or] at e
    exact .inr (s' c σ ρ T H x y dx dy z Q re e q)
/-- the common reading of two operands -/
theorem sem_bin {K : PySem.W.Frag} {ta tb : TE} {ma mb : MV} (sa : SemV K ta ma) (sb : SemV K tb mb) {c : Ct} {σ : L2.St} {ρ : En} {T : Tm} {H : Hp} {R : V → V → Hp → Prop} (r : Rel K c σ ρ T H)
    (q : ∃ x ρ1 y ρ2, ma ρ = some (x, ρ1) ∧ mb ρ1 = some (y, ρ2) ∧ ∀ vx vy H2, Rel K c σ ρ2 ((vy, .val y) :: (vx, .val x) :: T) H2 → R vx vy H2) : ta σ H fun vx H1 => tb σ H1 fun vy H2 => R vx vy H2 := by
  obtain ⟨x, ρ1, y, ρ2, e1, e2, q⟩ := q
  refine sa c σ ρ T H _ r ?_
  rw [e1]
  intro vx H1 r1
  refine sb c σ ρ1 _ H1 _ r1 ?_
  rw [e2]
  exact fun vy H2 r2 => q vx vy H2 r2
theorem bin_inv {g : PyData → PyData → Option PyData} {ma mb : MV} {K : PySem.W.Frag} {c : Ct} {σ : L2.St} {ρ : En} {T : Tm} {Q : VK} (q : PostV K c σ T (mBin g ma mb ρ) Q) :
    ∃ x ρ1 y ρ2 z, ma ρ = some (x, ρ1) ∧ mb ρ1 = some (y, ρ2) ∧ g x y = some z ∧ ∀ v H, Rel K c σ ρ2 ((v, .val z) :: T) H → Q v H := by
  unfold mBin at q
  split at q
  · exact q.elim
  · rename_i x ρ1 e1
    split at q
    · exact q.elim
    · rename_i y ρ2 e2
      cases hg : g x y with
      | none =>
        rw [hg] at q
        exact q.elim
      | some z =>
        rw [hg] at q
        exact ⟨x, ρ1, y, ρ2, z, e1, e2, hg, q⟩
theorem j_bin {op : Operator} {g : PyData → PyData → Option PyData} {ma mb : MV} (ho : OpJ Y (binaryOp op) g) (ha : JV Y a ma) (hb : JV Y b mb) : JV Y (.BinOp a op b pos) (mBin g ma mb) := by
  obtain ⟨r, o, s⟩ := ho
  obtain ⟨ta, pa, sa⟩ := ha
  obtain ⟨tb, pb, sb⟩ := hb
  refine ⟨tOp r ta tb, fun j => pe_op (o j) (pa j) (pb j), fun c σ ρ T H Q re q => ?_⟩
  obtain ⟨x, ρ1, y, ρ2, z, e1, e2, hg, q⟩ := bin_inv q
  exact sem_bin sa sb re ⟨x, ρ1, y, ρ2, e1, e2, fun vx vy H2 r2 => s c σ ρ2 T H2 vx vy x y z Q r2 hg q⟩
theorem j_cmp {op : CmpOp} {g : PyData → PyData → Option PyData} {ma mb : MV} (ho : OpJ Y (compareOp op) g) (ha : JV Y a ma) (hb : JV Y b mb) (hm : behindInMarks op b = false := by first | exact nomark _ | rfl) : JV Y (.Compare a [op] [b] pos) (mBin g ma mb) := by
  obtain ⟨r, o, s⟩ := ho
  obtain ⟨ta, pa, sa⟩ := ha
  obtain ⟨tb, pb, sb⟩ := hb
  refine ⟨tOp r ta tb, fun j => pe_cmpR (o j) (pa j) (pb j) hm, fun c σ ρ T H Q re q => ?_⟩
  obtain ⟨x, ρ1, y, ρ2, z, e1, e2, hg, q⟩ := bin_inv q
  exact sem_bin sa sb re ⟨x, ρ1, y, ρ2, e1, e2, fun vx vy H2 r2 => s c σ ρ2 T H2 vx vy x y z Q r2 hg q⟩
/-- a value that is a truth value, as a test -/
def mTest (m : MV) : MT := fun ρ => match m ρ with
  | some (.bool b, ρ) => some (b, ρ)
  | _ => none
theorem test_inv {m : MV} {K : PySem.W.Frag} {c : Ct} {σ : L2.St} {ρ : En} {T : Tm} {Q : Bool → Hp → Prop} (q : PostT K c σ T (mTest m ρ) Q) : ∃ b ρ1, m ρ = some (.bool b, ρ1) ∧ ∀ H, Rel K c σ ρ1 T H → Q b H := by
  unfold mTest at q
  split at q
  · rename_i b ρ1 e
    exact ⟨b, ρ1, e, q⟩
  · exact q.elim
theorem Rel.boolTop {K : PySem.W.Frag} {c : Ct} {σ : L2.St} {ρ : En} {T : Tm} {H : Hp} {v : V} {b : Bool} (r : Rel K c σ ρ ((v, .val (.bool b)) :: T) H) : v = .bl b := by
  obtain ⟨F, fp, r⟩ := r
  cases r.top
  rfl
theorem Rel.intTop {K : PySem.W.Frag} {c : Ct} {σ : L2.St} {ρ : En} {T : Tm} {H : Hp} {v : V} {b : Int} (r : Rel K c σ ρ ((v, .val (.int b)) :: T) H) : v = .int b := by
  obtain ⟨F, fp, r⟩ := r
  cases r.top
  rfl
theorem Rel.strTop {K : PySem.W.Frag} {c : Ct} {σ : L2.St} {ρ : En} {T : Tm} {H : Hp} {v : V} {b : Str} (r : Rel K c σ ρ ((v, .val (.str b)) :: T) H) : v = .str b := by
  obtain ⟨F, fp, r⟩ := r
  cases r.top
  rfl
theorem Rel.nonTop {K : PySem.W.Frag} {c : Ct} {σ : L2.St} {ρ : En} {T : Tm} {H : Hp} {v : V} (r : Rel K c σ ρ ((v, .val .none) :: T) H) : v = .non := by
  obtain ⟨F, fp, r⟩ := r
  cases r.top
  rfl
theorem t_cmp {op : CmpOp} {g : PyData → PyData → Option PyData} {ma mb : MV} (ho : OpJ Y (compareOp op) g) (ha : JV Y a ma) (hb : JV Y b mb) (hm : behindInMarks op b = false := by first | exact nomark _ | rfl) : JT Y (.Compare a [op] [b] pos) (mTest (mBin g ma mb)) := by
  obtain ⟨r, o, s⟩ := ho
  obtain ⟨ta, pa, sa⟩ := ha
  obtain ⟨tb, pb, sb⟩ := hb
  refine ⟨_, fun j => pt_cmpR (o j) (pa j) (pb j) hm, fun c σ ρ T H Q re q => ?_⟩
  obtain ⟨b0, ρ2, e, q⟩ := test_inv q
  have q' : PostV Y.K c σ T (mBin g ma mb ρ) (fun x H' => ∃ k, x = .bl k ∧ Q k H') := by
    rw [e]
    exact fun v H1 r1 => ⟨b0, r1.boolTop, q H1 r1.pop⟩
  obtain ⟨x, ρ1, y, ρ2, z, e1, e2, hg, q⟩ := bin_inv q'
  exact sem_bin sa sb re ⟨x, ρ1, y, ρ2, e1, e2, fun vx vy H2 r2 => s c σ ρ2 T H2 vx vy x y z _ r2 hg q⟩
theorem t_val {m : MV} (h : JV Y e m) (he : ∀ j whole, isTrue e (Y.X j).env whole = (do let v ← whole; standAt e.pos; holding [v] (truthy v)) := by intro _ _; rfl) : JT Y e (mTest m) := by
  obtain ⟨t, p, s⟩ := h
  refine ⟨tB t, fun j => pt_val (p j) (he j), fun c σ ρ T H Q re q => ?_⟩
  obtain ⟨b0, ρ2, e, q⟩ := test_inv q
  refine s c σ ρ T H _ re ?_
  rw [e]
  exact fun v H1 r1 => ⟨b0, r1.boolTop, q H1 r1.pop⟩

/-! ### not, and, or, if else -/
def mTNot (m : MT) : MT := fun ρ => (m ρ).map fun p => (!p.1, p.2)
def mTAnd (m n : MT) : MT := fun ρ => match m ρ with
  | none => none
  | some (true, ρ) => n ρ
  | some (false, ρ) => some (false, ρ)
def mTOr (m n : MT) : MT := fun ρ => match m ρ with
  | none => none
  | some (true, ρ) => some (true, ρ)
  | some (false, ρ) => n ρ
theorem t_not {m : MT} (h : JT Y a m) : JT Y (.UnaryOp .Not a pos) (mTNot m) := by
  obtain ⟨t, p, s⟩ := h
  refine ⟨tNot t, fun j => pt_not (p j), fun c σ ρ T H Q re q => s c σ ρ T H _ re ?_⟩
  unfold mTNot at q
  cases hm : m ρ with
  | none =>
    rw [hm] at q
    exact q
  | some z =>
    rw [hm] at q
    exact q
/-- chains of and, or: PW -/
def JW (Y : Fam) (e : Expr) (m : MT) : Prop := ∃ t, (∀ i, PW (Y.X i) e t) ∧ SemT Y.K t m
theorem JW.jt {m : MT} (h : JW Y e m) : JT Y e m := by
  obtain ⟨t, p, s⟩ := h
  exact ⟨t, fun i => (p i).pt, s⟩
theorem w_and1 {m : MT} (h : JT Y a m) : JW Y (.BoolOp .And [a] pos) m := by
  obtain ⟨t, p, s⟩ := h
  exact ⟨t, fun i => pw_and1 (p i), s⟩
theorem w_or1 {m : MT} (h : JT Y a m) : JW Y (.BoolOp .Or [a] pos) m := by
  obtain ⟨t, p, s⟩ := h
  exact ⟨t, fun i => pw_or1 (p i), s⟩
theorem sem_and {K : PySem.W.Frag} {t u : TT} {m n : MT} (s : SemT K t m) (s' : SemT K u n) : SemT K (tAnd t u) (mTAnd m n) := fun c σ ρ T H Q re q => by
  refine s c σ ρ T H _ re ?_
  unfold mTAnd at q
  cases hm : m ρ with
  | none =>
    rw [hm] at q
    exact q
  | some z =>
    obtain ⟨k, ρ1⟩ := z
    rw [hm] at q
    cases k with
    | true =>
      intro H1 r1
      rw [if_pos rfl]
      exact s' c σ ρ1 T H1 Q r1 q
    | false =>
      intro H1 r1
      rw [if_neg Bool.false_ne_true]
      exact q H1 r1
theorem sem_or {K : PySem.W.Frag} {t u : TT} {m n : MT} (s : SemT K t m) (s' : SemT K u n) : SemT K (tOr t u) (mTOr m n) := fun c σ ρ T H Q re q => by
  refine s c σ ρ T H _ re ?_
  unfold mTOr at q
  cases hm : m ρ with
  | none =>
    rw [hm] at q
    exact q
  | some z =>
    obtain ⟨k, ρ1⟩ := z
    rw [hm] at q
    cases k with
    | true =>
      intro H1 r1
      rw [if_pos rfl]
      exact q H1 r1
    | false =>
      intro H1 r1
      rw [if_neg Bool.false_ne_true]
      exact s' c σ ρ1 T H1 Q r1 q
theorem w_and {rest : List Expr} {m n : MT} (h : JT Y a m) (g : JW Y (.BoolOp .And (b :: rest) pos) n) : JW Y (.BoolOp .And (a :: b :: rest) pos) (mTAnd m n) := by
  obtain ⟨t, p, s⟩ := h
  obtain ⟨u, p', s'⟩ := g
  exact ⟨tAnd t u, fun i => pw_and (p i) (p' i), sem_and s s'⟩
theorem w_or {rest : List Expr} {m n : MT} (h : JT Y a m) (g : JW Y (.BoolOp .Or (b :: rest) pos) n) : JW Y (.BoolOp .Or (a :: b :: rest) pos) (mTOr m n) := by
  obtain ⟨t, p, s⟩ := h
  obtain ⟨u, p', s'⟩ := g
  exact ⟨tOr t u, fun i => pw_or (p i) (p' i), sem_or s s'⟩
/-- as values: all but the last are truth values -/
def mNot (m : MV) : MV := fun ρ => match m ρ with
  | some (.bool b, ρ) => some (.bool (!b), ρ)
  | _ => none
def mAnd (m n : MV) : MV := fun ρ => match m ρ with
  | some (.bool true, ρ) => n ρ
  | some (.bool false, ρ) => some (.bool false, ρ)
  | _ => none
def mOr (m n : MV) : MV := fun ρ => match m ρ with
  | some (.bool true, ρ) => some (.bool true, ρ)
  | some (.bool false, ρ) => n ρ
  | _ => none
theorem j_not {m : MV} (h : JV Y a m) : JV Y (.UnaryOp .Not a pos) (mNot m) := by
  obtain ⟨t, p, s⟩ := h
  refine ⟨tNotV t, fun j => pe_not (p j), fun c σ ρ T H Q re q => s c σ ρ T H _ re ?_⟩
  unfold mNot at q
  split at q
  · rename_i b ρ1 e
    rw [e]
    intro v H1 r1
    have r1 : Rel Y.K c σ ρ1 ((v, .val (.bool b)) :: T) H1 := r1
    exact ⟨b, r1.boolTop, q _ H1 (r1.pop.pushB _)⟩
  · exact q.elim
theorem j_one {op : BoolOp} {m : MV} (h : JV Y a m) : JV Y (.BoolOp op [a] pos) m := by
  obtain ⟨t, p, s⟩ := h
  exact ⟨t, fun j => pe_one (p j), s⟩
theorem j_and {rest : List Expr} {m n : MV} (h : JV Y a m) (g : JV Y (.BoolOp .And (b :: rest) pos) n) : JV Y (.BoolOp .And (a :: b :: rest) pos) (mAnd m n) := by
  obtain ⟨t, p, s⟩ := h
  obtain ⟨u, p', s'⟩ := g
  refine ⟨tAndV t u, fun i => pe_and (p i) (p' i), fun c σ ρ T H Q re q => s c σ ρ T H _ re ?_⟩
  unfold mAnd at q
  split at q
  · rename_i ρ1 e
    rw [e]
    intro v H1 r1
    have r1 : Rel Y.K c σ ρ1 ((v, .val (.bool true)) :: T) H1 := r1
    refine ⟨true, r1.boolTop, ?_⟩
    rw [if_pos rfl]
    exact s' c σ ρ1 T H1 Q r1.pop q
  · rename_i ρ1 e
    rw [e]
    intro v H1 r1
    have r1 : Rel Y.K c σ ρ1 ((v, .val (.bool false)) :: T) H1 := r1
    refine ⟨false, r1.boolTop, ?_⟩
    rw [if_neg Bool.false_ne_true]
    exact q _ H1 (r1.pop.pushB _)
  · exact q.elim
theorem j_or {rest : List Expr} {m n : MV} (h : JV Y a m) (g : JV Y (.BoolOp .Or (b :: rest) pos) n) : JV Y (.BoolOp .Or (a :: b :: rest) pos) (mOr m n) := by
  obtain ⟨t, p, s⟩ := h
  obtain ⟨u, p', s'⟩ := g
  refine ⟨tOrV t u, fun i => pe_or (p i) (p' i), fun c σ ρ T H Q re q => s c σ ρ T H _ re ?_⟩
  unfold mOr at q
  split at q
  · rename_i ρ1 e
    rw [e]
    intro v H1 r1
    have r1 : Rel Y.K c σ ρ1 ((v, .val (.bool true)) :: T) H1 := r1
    refine ⟨true, r1.boolTop, ?_⟩
    rw [if_pos rfl]
    exact q _ H1 (r1.pop.pushB _)
  · rename_i ρ1 e
    rw [e]
    intro v H1 r1
    have r1 : Rel Y.K c σ ρ1 ((v, .val (.bool false)) :: T) H1 := r1
    refine ⟨false, r1.boolTop, ?_⟩
    rw [if_neg Bool.false_ne_true]
    exact s' c σ ρ1 T H1 Q r1.pop q
  · exact q.elim
def mIf {α : Type} (t : MT) (m n : En → Option α) : En → Option α := fun ρ => match t ρ with
  | none => none
  | some (true, ρ) => m ρ
  | some (false, ρ) => n ρ
theorem j_ifO {t : MT} {m n : MO} (hc : JT Y c0 t) (ha : JO Y a m) (hb : JO Y b n) : JO Y (.IfExp c0 a b pos) (mIf t m n) := by
  obtain ⟨tt, p, s⟩ := hc
  obtain ⟨ta, pa, sa⟩ := ha
  obtain ⟨tb, pb, sb⟩ := hb
  refine ⟨tIf tt ta tb, fun i => pe_ifExp (p i) (pa i) (pb i), fun c σ ρ T H Q re q => s c σ ρ T H _ re ?_⟩
  unfold mIf at q
  cases hm : t ρ with
  | none =>
    rw [hm] at q
    exact q
  | some z =>
    obtain ⟨k, ρ1⟩ := z
    rw [hm] at q
    cases k with
    | true =>
      intro H1 r1
      rw [if_pos rfl]
      exact sa c σ ρ1 T H1 Q r1 q
    | false =>
      intro H1 r1
      rw [if_neg Bool.false_ne_true]
      exact sb c σ ρ1 T H1 Q r1 q
theorem j_if {t : MT} {m n : MV} (hc : JT Y c0 t) (ha : JV Y a m) (hb : JV Y b n) : JV Y (.IfExp c0 a b pos) (mIf t m n) := by
  obtain ⟨tt, p, s⟩ := hc
  obtain ⟨ta, pa, sa⟩ := ha
  obtain ⟨tb, pb, sb⟩ := hb
  refine ⟨tIf tt ta tb, fun i => pe_ifExp (p i) (pa i) (pb i), fun c σ ρ T H Q re q => s c σ ρ T H _ re ?_⟩
  unfold mIf at q
  cases hm : t ρ with
  | none =>
    rw [hm] at q
    exact q
  | some z =>
    obtain ⟨k, ρ1⟩ := z
    rw [hm] at q
    cases k with
    | true =>
      intro H1 r1
      rw [if_pos rfl]
      exact sa c σ ρ1 T H1 Q r1 q
    | false =>
      intro H1 r1
      rw [if_neg Bool.false_ne_true]
      exact sb c σ ρ1 T H1 Q r1 q
/-! ### a < b < c -/
def mChain (g g' : PyData → PyData → Option PyData) (ma mb mc : MV) : MV := fun ρ => match ma ρ with
  | none => none
  | some (x, ρ) => match mb ρ with
    | none => none
    | some (y, ρ) => match g x y with
      | some (.bool false) => some (.bool false, ρ)
      | some (.bool true) => match mc ρ with
        | none => none
        | some (z, ρ) => (g' y z).map fun r => (r, ρ)
      | _ => none
theorem sem_chain {op op' : CmpOp} {g g' : PyData → PyData → Option PyData} {r r' : R2} {ta tb tc : TE} {ma mb mc : MV}
    (s : ∀ (c : Ct) (σ : L2.St) (ρ : En) (T : Tm) (H : Hp) (x y : V) (dx dy z : PyData) (Q : VK), Rel Y.K c σ ρ ((y, .val dy) :: (x, .val dx) :: T) H → g dx dy = some z → (∀ v H', Rel Y.K c σ ρ ((v, .val z) :: T) H' → Q v H') → r x y H Q)
    (s' : ∀ (c : Ct) (σ : L2.St) (ρ : En) (T : Tm) (H : Hp) (x y : V) (dx dy z : PyData) (Q : VK), Rel Y.K c σ ρ ((y, .val dy) :: (x, .val dx) :: T) H → g' dx dy = some z → (∀ v H', Rel Y.K c σ ρ ((v, .val z) :: T) H' → Q v H') → r' x y H Q)
    (sa : SemV Y.K ta ma) (sb : SemV Y.K tb mb) (sc : SemV Y.K tc mc) : SemV Y.K (tChain r r' ta tb tc) (mChain g g' ma mb mc) := fun c σ ρ T H Q re q => by
  unfold mChain at q
  split at q
  · exact q.elim
  · rename_i x ρ1 e1
    split at q
    · exact q.elim
    · rename_i y ρ2 e2
      split at q
      · rename_i e3
        refine sem_bin sa sb re ⟨x, ρ1, y, ρ2, e1, e2, fun vx vy H2 r2 => s c σ ρ2 T H2 vx vy x y _ _ r2 e3 fun v H3 r3 => ?_⟩
        refine ⟨false, r3.boolTop, ?_⟩
        rw [if_neg Bool.false_ne_true]
        exact q _ H3 (r3.pop.pushB _)
      · rename_i e3
        split at q
        · exact q.elim
        · rename_i z ρ3 e4
          cases hg : g' y z with
          | none =>
            rw [hg] at q
            exact q.elim
          | some w =>
            rw [hg] at q
            refine sem_bin sa sb re ⟨x, ρ1, y, ρ2, e1, e2, fun vx vy H2 r2 => ?_⟩
            have r2' : Rel Y.K c σ ρ2 ((vy, .val y) :: (vx, .val x) :: (vy, .val y) :: T) H2 := by
              obtain ⟨F, fp, f⟩ := r2
              have hy := f.top
              have f1 := f.popV
              have hx := f1.top
              exact ⟨F, fp, ((f1.popV.push hy).push hx).push hy⟩
            refine s c σ ρ2 _ H2 vx vy x y _ _ r2' e3 fun v H3 r3 => ⟨true, r3.boolTop, ?_⟩
            rw [if_pos rfl]
            refine sc c σ ρ2 _ H3 _ r3.pop ?_
            rw [e4]
            exact fun vz H4 r4 => s' c σ ρ3 T H4 vy vz y z w Q r4 hg q
      · exact q.elim
theorem j_chain {op op' : CmpOp} {g g' : PyData → PyData → Option PyData} {ma mb mc : MV} (ho : OpJ Y (compareOp op) g) (ho' : OpJ Y (compareOp op') g') (ha : JV Y a ma) (hb : JV Y b mb) (hc : JV Y c0 mc)
    (hm : lastMarks [op, op'] [b, c0] = false := by with_unfolding_all rfl) : JV Y (.Compare a [op, op'] [b, c0] pos) (mChain g g' ma mb mc) := by
  obtain ⟨r, o, s⟩ := ho
  obtain ⟨r', o', s'⟩ := ho'
  obtain ⟨ta, pa, sa⟩ := ha
  obtain ⟨tb, pb, sb⟩ := hb
  obtain ⟨tc, pc, sc⟩ := hc
  exact ⟨tChain r r' ta tb tc, fun j => pe_chain (o j) (o' j) (pa j) (pb j) (pc j) hm, sem_chain (op := op) (op' := op') s s' sa sb sc⟩
theorem t_chain {op op' : CmpOp} {g g' : PyData → PyData → Option PyData} {ma mb mc : MV} (ho : OpJ Y (compareOp op) g) (ho' : OpJ Y (compareOp op') g') (ha : JV Y a ma) (hb : JV Y b mb) (hc : JV Y c0 mc)
    (hm : lastMarks [op, op'] [b, c0] = false := by with_unfolding_all rfl) : JT Y (.Compare a [op, op'] [b, c0] pos) (mTest (mChain g g' ma mb mc)) := by
  obtain ⟨r, o, s⟩ := ho
  obtain ⟨r', o', s'⟩ := ho'
  obtain ⟨ta, pa, sa⟩ := ha
  obtain ⟨tb, pb, sb⟩ := hb
  obtain ⟨tc, pc, sc⟩ := hc
  refine ⟨_, fun j => pt_chain (o j) (o' j) (pa j) (pb j) (pc j) hm, fun c σ ρ T H Q re q => ?_⟩
  obtain ⟨b0, ρ2, e, q⟩ := test_inv q
  refine sem_chain (op := op) (op' := op') s s' sa sb sc c σ ρ T H _ re ?_
  rw [e]
  exact fun v H1 r1 => ⟨b0, r1.boolTop, q H1 r1.pop⟩
end
end Fj

set_option Elab.async false
set_option linter.all false
set_option maxRecDepth 100000
set_option maxHeartbeats 4000000
set_option autoImplicit false
/-! Operators on data, displays, places and parts of sequences, calls of built-ins. -/
namespace Fj
open PySem PySem.Spec PyProof.Rows L2

/-! ### values of temporaries -/
section
variable {K : PySem.W.Frag} {c : Ct} {σ : L2.St} {ρ : En} {T : Tm} {H F : Hp} {fp : List Addr} {v : V} {x y : V} {dx dy : PyData}
theorem RelF.two (r : RelF K c σ ρ ((y, .val dy) :: (x, .val dx) :: T) H F fp) : Rp K H x dx ∧ Rp K H y dy := ⟨r.popV.top.mono r.fh, r.top.mono r.fh⟩
theorem Rel.two (r : Rel K c σ ρ ((y, .val dy) :: (x, .val dx) :: T) H) : Rp K H x dx ∧ Rp K H y dy := let ⟨_, _, f⟩ := r; f.two
theorem Rel.top (r : Rel K c σ ρ ((x, .val dx) :: T) H) : Rp K H x dx := let ⟨_, _, f⟩ := r; f.top.mono f.fh
theorem Rel.pop2 {p q : V × Ent} (r : Rel K c σ ρ (p :: q :: T) H) : Rel K c σ ρ T H := Rel.pop (v := q.1) (e := q.2) (Rel.pop (v := p.1) (e := p.2) r)
/-- the whole numbers of a row of data -/
def intsD : List PyData → Option (List Int)
  | [] => some []
  | .int i :: r => (intsD r).map fun l => i :: l
  | _ => none
theorem intsD_eq : ∀ {ds : List PyData} {ns : List Int}, intsD ds = some ns → ds = ns.map PyData.int
  | [], ns, h => by
    cases h
    rfl
  | d :: r, ns, h => by
    cases d with
    | int i =>
      simp only [intsD, Option.map_eq_some_iff] at h
      obtain ⟨l, h1, rfl⟩ := h
      rw [intsD_eq h1]
      rfl
    | _ => simp [intsD] at h
theorem intsD_map : ∀ ns : List Int, intsD (ns.map PyData.int) = some ns
  | [] => rfl
  | n :: ns => by simp only [List.map_cons, intsD, intsD_map ns, Option.map_some]
theorem Rps.nums {vs : List V} : ∀ {ns : List Int}, Rps K F vs (ns.map PyData.int) → vs = ns.map V.int := by
  intro ns
  induction ns generalizing vs with
  | nil =>
    intro h
    cases h
    rfl
  | cons n ns ih =>
    intro h
    cases h with
    | cons r t =>
      cases r
      rw [ih t]
      rfl
theorem Rps.ofInts : ∀ {ns : List Int}, Rps K F (ns.map V.int) (ns.map PyData.int)
  | [] => .nil
  | n :: ns => .cons (.int n) Rps.ofInts
/-- the texts of a row of data -/
def strsD : List PyData → Option (List Str)
  | [] => some []
  | .str i :: r => (strsD r).map fun l => i :: l
  | _ => none
theorem strsD_eq : ∀ {ds : List PyData} {ns : List Str}, strsD ds = some ns → ds = ns.map PyData.str
  | [], ns, h => by
    cases h
    rfl
  | d :: r, ns, h => by
    cases d with
    | str i =>
      simp only [strsD, Option.map_eq_some_iff] at h
      obtain ⟨l, h1, rfl⟩ := h
      rw [strsD_eq h1]
      rfl
    | _ => simp [strsD] at h
theorem strsD_map : ∀ ns : List Str, strsD (ns.map PyData.str) = some ns
  | [] => rfl
  | n :: ns => by simp only [List.map_cons, strsD, strsD_map ns, Option.map_some]
theorem Rps.texts {vs : List V} : ∀ {ns : List Str}, Rps K F vs (ns.map PyData.str) → vs = ns.map V.str := by
  intro ns
  induction ns generalizing vs with
  | nil =>
    intro h
    cases h
    rfl
  | cons n ns ih =>
    intro h
    cases h with
    | cons r t =>
      cases r
      rw [ih t]
      rfl
theorem Rps.ofTexts : ∀ {ns : List Str}, Rps K F (ns.map V.str) (ns.map PyData.str)
  | [] => .nil
  | n :: ns => .cons (.str n) Rps.ofTexts
def boolsD : List PyData → Option (List Bool)
  | [] => some []
  | .bool i :: r => (boolsD r).map fun l => i :: l
  | _ => none
theorem boolsD_eq : ∀ {ds : List PyData} {ns : List Bool}, boolsD ds = some ns → ds = ns.map PyData.bool
  | [], ns, h => by
    cases h
    rfl
  | d :: r, ns, h => by
    cases d with
    | bool i =>
      simp only [boolsD, Option.map_eq_some_iff] at h
      obtain ⟨l, h1, rfl⟩ := h
      rw [boolsD_eq h1]
      rfl
    | _ => simp [boolsD] at h
theorem boolsD_map : ∀ ns : List Bool, boolsD (ns.map PyData.bool) = some ns
  | [] => rfl
  | n :: ns => by simp only [List.map_cons, boolsD, boolsD_map ns, Option.map_some]
theorem Rps.bools {vs : List V} : ∀ {ns : List Bool}, Rps K F vs (ns.map PyData.bool) → vs = ns.map V.bl := by
  intro ns
  induction ns generalizing vs with
  | nil =>
    intro h
    cases h
    rfl
  | cons n ns ih =>
    intro h
    cases h with
    | cons r t =>
      cases r
      rw [ih t]
      rfl
end

theorem sz5 {n : Nat} (h : n ≤ 100000) : n ≤ sizeLine := Nat.le_trans h (by decide)
theorem sz5l {n : Nat} (h : n < 100000) : n < sizeLine := Nat.lt_of_lt_of_le h (by decide)
/-! ### arithmetic -/
section
variable {Y : Fam}
def gI (C : Int → Int → Bool) (g : Int → Int → Int) : PyData → PyData → Option PyData
  | .int i, .int j => if C i j = true then some (.int (g i j)) else none
  | _, _ => none
theorem opj_I {f : Value → Value → Sem Value} {D : Int → Int → Prop} {C : Int → Int → Bool} {g : Int → Int → Int} (h : ∀ j, OpR (Y.X j) f (rI D fun i j => .int (g i j))) (hc : ∀ i j, C i j = true → D i j) : OpJ Y f (gI C g) := by
  refine ⟨_, h, fun c σ ρ T H x y dx dy z Q r e q => ?_⟩
  unfold gI at e
  split at e
  · rename_i i j
    split at e
    · rename_i hC
      cases e
      have hy := r.intTop
      have hx := r.pop.intTop
      subst hx hy
      exact ⟨i, j, rfl, rfl, hc i j hC, q _ H (r.pop2.pushI _)⟩
    · cases e
  · cases e
theorem opj_I0 {f : Value → Value → Sem Value} {g : Int → Int → Int} (h : ∀ j, OpR (Y.X j) f (rI0 fun i j => .int (g i j))) : OpJ Y f (gI (fun _ _ => true) g) := by
  refine ⟨_, h, fun c σ ρ T H x y dx dy z Q r e q => ?_⟩
  unfold gI at e
  split at e
  · rename_i i j
    rw [if_pos rfl] at e
    cases e
    have hy := r.intTop
    have hx := r.pop.intTop
    subst hx hy
    exact ⟨i, j, rfl, rfl, q _ H (r.pop2.pushI _)⟩
  · cases e
def gB (g : Int → Int → Bool) : PyData → PyData → Option PyData
  | .int i, .int j => some (.bool (g i j))
  | _, _ => none
theorem opj_B {f : Value → Value → Sem Value} {g : Int → Int → Bool} (h : ∀ j, OpR (Y.X j) f (rI0 fun i j => .bl (g i j))) : OpJ Y f (gB g) := by
  refine ⟨_, h, fun c σ ρ T H x y dx dy z Q r e q => ?_⟩
  unfold gB at e
  split at e
  · rename_i i j
    cases e
    have hy := r.intTop
    have hx := r.pop.intTop
    subst hx hy
    exact ⟨i, j, rfl, rfl, q _ H (r.pop2.pushB _)⟩
  · cases e
/-- texts together -/
def gAddS : PyData → PyData → Option PyData
  | .str x, .str y => if x.length + y.length ≤ 100000 then some (.str (x ++ y)) else none
  | _, _ => none
theorem opj_addS : OpJ Y (binaryOp .Add) gAddS := by
  refine ⟨_, fun j => op_add_str, fun c σ ρ T H x y dx dy z Q r e q => ?_⟩
  unfold gAddS at e
  split at e
  · rename_i i j
    split at e
    · rename_i hC
      cases e
      have hy := r.strTop
      have hx := r.pop.strTop
      subst hx hy
      exact ⟨i, j, rfl, rfl, sz5 hC, q _ H (r.pop2.pushS _)⟩
    · cases e
  · cases e
/-- tuples together -/
def gAddT : PyData → PyData → Option PyData
  | .tuple xs, .tuple ys => if xs.length + ys.length ≤ 100000 then some (.tuple (xs ++ ys)) else none
  | _, _ => none
theorem opj_addT : OpJ Y (binaryOp .Add) gAddT := by
  refine ⟨rCatA Y.K, fun j => by rw [← Y.hK j]; exact op_catA, fun c σ ρ T H x y dx dy z Q r e q => ?_⟩
  unfold gAddT at e
  split at e
  · rename_i xs ys
    split at e
    · rename_i hC
      cases e
      obtain ⟨F, fp, f⟩ := r
      have hy := f.top
      have hx := f.popV.top
      cases hx with
      | @tup a vs _ ha ra =>
        cases hy with
        | @tup b ws _ hb rb =>
          have la := ra.length
          have lb := rb.length
          have r0 : Rel Y.K c σ ρ T H := ⟨F, fp, f.popV.popV⟩
          refine ⟨a, b, vs, ws, rfl, rfl, same_tup f.fh ha, same_tup f.fh hb, sz5 (by omega), fun z => ?_, fun z1 z2 => ?_, fun z1 z2 p hp => ?_⟩
          · have : xs = [] := List.eq_nil_of_length_eq_zero (by rw [← la, z]; rfl)
            subst this
            exact q _ H ⟨F, fp, f.popV.popV.push (.tup hb rb)⟩
          · have : ys = [] := List.eq_nil_of_length_eq_zero (by rw [← lb, z2]; rfl)
            subst this
            rw [List.append_nil] at q
            exact q _ H ⟨F, fp, f.popV.popV.push (.tup ha ra)⟩
          · exact q _ _ (f.popV.popV.tupNew hp (ra.app rb))
    · cases e
  · cases e

/-! ### comparisons -/
def gAddL : PyData → PyData → Option PyData
  | .list xs, .list ys => if xs.length + ys.length ≤ 100000 then some (.list (xs ++ ys)) else none
  | _, _ => none
theorem opj_addL : OpJ Y (binaryOp .Add) gAddL := by
  refine ⟨rCat, fun j => op_cat, fun c σ ρ T H x y dx dy z Q r e q => ?_⟩
  unfold gAddL at e
  split at e
  · rename_i xs ys
    split at e
    · rename_i hC
      cases e
      obtain ⟨F, fp, f⟩ := r
      have hy := f.top
      have hx := f.popV.top
      cases hx with
      | @lst a vs _ ha ra =>
        cases hy with
        | @lst b ws _ hb rb =>
          have la := ra.length
          have lb := rb.length
          exact ⟨a, b, vs, ws, rfl, rfl, f.fh _ _ ha, f.fh _ _ hb, sz5 (by omega), fun p hp => q _ _ (f.popV.popV.lstNew hp (ra.app rb)).freeze⟩
    · cases e
  · cases e
def repD (n : Nat) (ds : List PyData) : List PyData := (List.replicate n ds).flatten
theorem rps_rep {K : PySem.W.Frag} {F : Hp} {vs : List V} {ds : List PyData} (r : Rps K F vs ds) : ∀ n : Nat, Rps K F (List.replicate n vs).flatten (repD n ds)
  | 0 => .nil
  | n + 1 => by
    unfold repD
    rw [List.replicate_succ, List.replicate_succ, List.flatten_cons, List.flatten_cons]
    exact r.app (rps_rep r n)
def gMulL : PyData → PyData → Option PyData
  | .list xs, .int k => if -1000000 ≤ k ∧ k ≤ 100000 ∧ xs.length * k.toNat ≤ 100000 then some (.list (repD k.toNat xs)) else none
  | .tuple xs, .int k => if 2 ≤ k ∧ k ≤ 1000 ∧ xs.length ≤ 1000 ∧ 1 ≤ xs.length then some (.tuple (repD k.toNat xs)) else none
  | _, _ => none
theorem opj_mulL : OpJ Y (binaryOp .Mult) gMulL := by
  refine ⟨fun x y H Q => rRep x y H Q ∨ rRepT Y.K x y H Q, fun j => by rw [← Y.hK j]; exact OpR.or op_rep op_repT, fun c σ ρ T H x y dx dy z Q r e q => ?_⟩
  unfold gMulL at e
  split at e
  · rename_i xs k
    split at e
    · rename_i hC
      cases e
      obtain ⟨F, fp, f⟩ := r
      have hy := f.top
      have hx := f.popV.top
      cases hy
      cases hx with
      | @lst a vs _ ha ra =>
        have la := ra.length
        refine .inl ⟨a, k, vs, rfl, rfl, f.fh _ _ ha, by omega, by omega, sz5 (by rw [la]; exact hC.2.2), fun p hp => q _ _ (f.popV.popV.lstNew hp (rps_rep ra _)).freeze⟩
    · cases e
  · rename_i xs k
    split at e
    · rename_i hC
      cases e
      obtain ⟨F, fp, f⟩ := r
      have hy := f.top
      have hx := f.popV.top
      cases hy
      cases hx with
      | @tup a vs _ ha ra =>
        have la := ra.length
        have hne : vs ≠ [] := by
          intro z
          rw [z] at la
          have := hC.2.2.2
          rw [← la] at this
          cases this
        refine .inr ⟨a, k, vs, rfl, rfl, same_tup f.fh ha, hne, hC.1, hC.2.1, by rw [la]; exact hC.2.2.1, fun p hp => q _ _ (f.popV.popV.tupNew hp (rps_rep ra _))⟩
    · cases e
  · cases e
def isND : PyData → Bool
  | .none => true
  | _ => false
theorem Rp.shape {K : PySem.W.Frag} {F : Hp} {v : V} {d : PyData} (h : Rp K F v d) : (decide (v = .non)) = isND d := by
  cases h <;> rfl
def gEqD : PyData → PyData → Option PyData := fun x y => if SeqAt.shaped x && SeqAt.shaped y then some (.bool (PyData.eqv x y)) else none
def gNeD : PyData → PyData → Option PyData := fun x y => if SeqAt.shaped x && SeqAt.shaped y then some (.bool (!PyData.eqv x y)) else none
def gEqS : PyData → PyData → Option PyData
  | .str x, .str y => some (.bool (decide (x = y)))
  | _, _ => none
def gNeS : PyData → PyData → Option PyData
  | .str x, .str y => some (.bool (!decide (x = y)))
  | _, _ => none
theorem dec_strs {x y : Str} : decide (V.str x = V.str y) = decide (x = y) := by
  by_cases h : x = y
  · rw [decide_eq_true h, decide_eq_true (congrArg V.str h)]
  · rw [decide_eq_false h, decide_eq_false fun z => h (V.str.inj z)]
theorem opj_eqS : OpJ Y (compareOp .Eq) gEqS := by
  refine ⟨rEq, fun j => op_eq, fun c σ ρ T H x y dx dy z Q r e q => ?_⟩
  unfold gEqS at e
  split at e
  · cases e
    obtain ⟨h1, h2⟩ := r.two
    cases h1
    cases h2
    refine ⟨rfl, ?_⟩
    rw [dec_strs]
    exact q _ H (r.pop2.pushB _)
  · cases e
theorem opj_neS : OpJ Y (compareOp .NotEq) gNeS := by
  refine ⟨rNe, fun j => op_ne, fun c σ ρ T H x y dx dy z Q r e q => ?_⟩
  unfold gNeS at e
  split at e
  · cases e
    obtain ⟨h1, h2⟩ := r.two
    cases h1
    cases h2
    refine ⟨rfl, ?_⟩
    rw [dec_strs]
    exact q _ H (r.pop2.pushB _)
  · cases e
theorem opj_eq : OpJ Y (compareOp .Eq) gEqD := by
  refine ⟨rEqD Y.K, fun j => by rw [← Y.hK j]; exact op_eqD (Y.room j).units, fun c σ ρ T H x y dx dy z Q r e q => ?_⟩
  unfold gEqD at e
  split at e
  · rename_i hs
    cases e
    obtain ⟨s1, s2⟩ := Bool.and_eq_true_iff.mp hs
    obtain ⟨h1, h2⟩ := r.two
    exact ⟨dx, dy, h1.dp, h2.dp, s1, s2, q _ H (r.pop2.pushB _)⟩
  · cases e
theorem opj_ne : OpJ Y (compareOp .NotEq) gNeD := by
  refine ⟨rNeD Y.K, fun j => by rw [← Y.hK j]; exact op_neD (Y.room j).units, fun c σ ρ T H x y dx dy z Q r e q => ?_⟩
  unfold gNeD at e
  split at e
  · rename_i hs
    cases e
    obtain ⟨s1, s2⟩ := Bool.and_eq_true_iff.mp hs
    obtain ⟨h1, h2⟩ := r.two
    exact ⟨dx, dy, h1.dp, h2.dp, s1, s2, q _ H (r.pop2.pushB _)⟩
  · cases e
def gIsN : PyData → PyData → Option PyData
  | d, .none => some (.bool (isND d))
  | _, _ => none
def gNotN : PyData → PyData → Option PyData
  | d, .none => some (.bool (!(isND d)))
  | _, _ => none
theorem opj_isN : OpJ Y (compareOp .Is) gIsN := by
  refine ⟨_, fun j => op_isN, fun c σ ρ T H x y dx dy z Q r e q => ?_⟩
  unfold gIsN at e
  split at e
  · cases e
    refine ⟨r.nonTop, ?_⟩
    rw [r.two.1.shape]
    exact q _ H (r.pop2.pushB _)
  · cases e
theorem opj_notN : OpJ Y (compareOp .IsNot) gNotN := by
  refine ⟨_, fun j => op_notN, fun c σ ρ T H x y dx dy z Q r e q => ?_⟩
  unfold gNotN at e
  split at e
  · cases e
    refine ⟨r.nonTop, ?_⟩
    rw [r.two.1.shape]
    exact q _ H (r.pop2.pushB _)
  · cases e
def gIsB : PyData → PyData → Option PyData
  | .bool a, .bool b => some (.bool (decide (a = b)))
  | _, _ => none
def gNotB : PyData → PyData → Option PyData
  | .bool a, .bool b => some (.bool (!decide (a = b)))
  | _, _ => none
theorem opj_isB : OpJ Y (compareOp .Is) gIsB := by
  refine ⟨_, fun j => op_is_bl, fun c σ ρ T H x y dx dy z Q r e q => ?_⟩
  unfold gIsB at e
  split at e
  · cases e
    have hy := r.boolTop
    have hx := r.pop.boolTop
    subst hx hy
    exact ⟨_, _, rfl, rfl, q _ H (r.pop2.pushB _)⟩
  · cases e
theorem opj_notB : OpJ Y (compareOp .IsNot) gNotB := by
  refine ⟨_, fun j => op_isnot_bl, fun c σ ρ T H x y dx dy z Q r e q => ?_⟩
  unfold gNotB at e
  split at e
  · cases e
    have hy := r.boolTop
    have hx := r.pop.boolTop
    subst hx hy
    exact ⟨_, _, rfl, rfl, q _ H (r.pop2.pushB _)⟩
  · cases e
/-- is True, is False of what is no bool -/
def gIsX : PyData → PyData → Option PyData
  | .none, .bool _ => some (.bool false)
  | .int _, .bool _ => some (.bool false)
  | .str _, .bool _ => some (.bool false)
  | .list _, .bool _ => some (.bool false)
  | .tuple _, .bool _ => some (.bool false)
  | _, _ => none
def gNotX : PyData → PyData → Option PyData
  | .none, .bool _ => some (.bool true)
  | .int _, .bool _ => some (.bool true)
  | .str _, .bool _ => some (.bool true)
  | .list _, .bool _ => some (.bool true)
  | .tuple _, .bool _ => some (.bool true)
  | _, _ => none
def noB (x : V) : Prop := x = .non ∨ (∃ i, x = .int i) ∨ (∃ z, x = .str z) ∨ ∃ a, x = .ref a
theorem op_isX {X : Cx} : OpR X (compareOp .Is) (fun x y H Q => ∃ b, y = .bl b ∧ noB x ∧ Q (.bl false) H) := by
  intro pins s σ H x y v u Q I rx ry h
  obtain ⟨b, rfl, hx, q⟩ := h
  cases (show u = Value.bool b from ry)
  rcases hx with rfl | ⟨i, rfl⟩ | ⟨z, rfl⟩ | ⟨a, rfl⟩
  · cases (show v = Value.none from rx)
    exact wpAny_is_other rfl (fun z => by cases z) ⟨.bl false, H, I, rfl, q⟩
  · obtain ⟨t, rfl⟩ := (show ∃ t, v = Value.int i t from rx)
    exact wpAny_is_other rfl (fun z => by cases z) ⟨.bl false, H, I, rfl, q⟩
  · obtain ⟨t, rfl⟩ := (show ∃ t, v = Value.str z t from rx)
    exact wpAny_is_other rfl (fun z => by cases z) ⟨.bl false, H, I, rfl, q⟩
  · cases (show v = Value.ref a from rx)
    exact wpAny_is_other rfl (fun z => by cases z) ⟨.bl false, H, I, rfl, q⟩
theorem op_notX {X : Cx} : OpR X (compareOp .IsNot) (fun x y H Q => ∃ b, y = .bl b ∧ noB x ∧ Q (.bl true) H) := by
  intro pins s σ H x y v u Q I rx ry h
  obtain ⟨b, rfl, hx, q⟩ := h
  cases (show u = Value.bool b from ry)
  rcases hx with rfl | ⟨i, rfl⟩ | ⟨z, rfl⟩ | ⟨a, rfl⟩
  · cases (show v = Value.none from rx)
    exact wpAny_isNot_other rfl (fun z => by cases z) ⟨.bl true, H, I, rfl, q⟩
  · obtain ⟨t, rfl⟩ := (show ∃ t, v = Value.int i t from rx)
    exact wpAny_isNot_other rfl (fun z => by cases z) ⟨.bl true, H, I, rfl, q⟩
  · obtain ⟨t, rfl⟩ := (show ∃ t, v = Value.str z t from rx)
    exact wpAny_isNot_other rfl (fun z => by cases z) ⟨.bl true, H, I, rfl, q⟩
  · cases (show v = Value.ref a from rx)
    exact wpAny_isNot_other rfl (fun z => by cases z) ⟨.bl true, H, I, rfl, q⟩
theorem opj_isX : OpJ Y (compareOp .Is) gIsX := by
  refine ⟨_, fun j => op_isX, fun c σ ρ T H x y dx dy z Q r e q => ?_⟩
  have two := r.two
  unfold gIsX at e
  split at e <;> first | (cases e; done) | skip
  all_goals
    cases e
    have hy := r.boolTop
    subst hy
    refine ⟨_, rfl, ?_, q _ H (r.pop2.pushB _)⟩
    cases two.1 <;> first | exact .inl rfl | exact .inr (.inl ⟨_, rfl⟩) | exact .inr (.inr (.inl ⟨_, rfl⟩)) | exact .inr (.inr (.inr ⟨_, rfl⟩))
theorem opj_notX : OpJ Y (compareOp .IsNot) gNotX := by
  refine ⟨_, fun j => op_notX, fun c σ ρ T H x y dx dy z Q r e q => ?_⟩
  have two := r.two
  unfold gNotX at e
  split at e <;> first | (cases e; done) | skip
  all_goals
    cases e
    have hy := r.boolTop
    subst hy
    refine ⟨_, rfl, ?_, q _ H (r.pop2.pushB _)⟩
    cases two.1 <;> first | exact .inl rfl | exact .inr (.inl ⟨_, rfl⟩) | exact .inr (.inr (.inl ⟨_, rfl⟩)) | exact .inr (.inr (.inr ⟨_, rfl⟩))
/-- the order of tuples of whole numbers -/
def gLtT : PyData → PyData → Option PyData
  | .tuple xs, .tuple ys => match intsD xs, intsD ys with
    | some ns, some ms => some (.bool (HT.lexLt ns ms))
    | _, _ => none
  | _, _ => none
def leL (ns ms : List Int) : Bool := Ob.lexAt (fun j => decide (ns.getD j 0 = ms.getD j 0)) (fun j => decide (ns.getD j 0 ≤ ms.getD j 0)) (decide (ns.length ≤ ms.length)) 0 (min ns.length ms.length)
def gLeT : PyData → PyData → Option PyData
  | .tuple xs, .tuple ys => match intsD xs, intsD ys with
    | some ns, some ms => some (.bool (leL ns ms))
    | _, _ => none
  | _, _ => none
theorem Rp.tupInts {K : PySem.W.Frag} {F : Hp} {v : V} {xs : List PyData} {ns : List Int} (h : Rp K F v (.tuple xs)) (e : intsD xs = some ns) : ∃ a, v = .ref a ∧ SqT K F a (ns.map V.int) := by
  have e2 := intsD_eq e
  subst e2
  cases h with
  | @tup a vs _ h r =>
    have e3 := r.nums
    subst e3
    exact ⟨a, rfl, h⟩
theorem opj_ltT : OpJ Y (compareOp .Lt) gLtT := by
  refine ⟨rLtT Y.K, fun j => by rw [← Y.hK j]; exact op_ltT (Y.room j).units0, fun c σ ρ T H x y dx dy z Q r e q => ?_⟩
  unfold gLtT at e
  split at e
  · split at e
    · rename_i e1 e2
      cases e
      obtain ⟨h1, h2⟩ := r.two
      obtain ⟨a, rfl, ha⟩ := h1.tupInts e1
      obtain ⟨b, rfl, hb⟩ := h2.tupInts e2
      exact ⟨a, b, _, _, rfl, rfl, ha, hb, q _ H (r.pop2.pushB _)⟩
    · cases e
  · cases e
theorem opj_leT : OpJ Y (compareOp .LtE) gLeT := by
  refine ⟨rLeT Y.K, fun j => by rw [← Y.hK j]; exact op_leT (Y.room j).units0, fun c σ ρ T H x y dx dy z Q r e q => ?_⟩
  unfold gLeT at e
  split at e
  · split at e
    · rename_i e1 e2
      cases e
      obtain ⟨h1, h2⟩ := r.two
      obtain ⟨a, rfl, ha⟩ := h1.tupInts e1
      obtain ⟨b, rfl, hb⟩ := h2.tupInts e2
      exact ⟨a, b, _, _, rfl, rfl, ha, hb, q _ H (r.pop2.pushB _)⟩
    · cases e
  · cases e
def gLtS : PyData → PyData → Option PyData
  | .str x, .str y => some (.bool (decide (x.cps.toList < y.cps.toList)))
  | _, _ => none
theorem opj_ltS : OpJ Y (compareOp .Lt) gLtS := by
  refine ⟨_, fun j => op_lt_str, fun c σ ρ T H x y dx dy z Q r e q => ?_⟩
  unfold gLtS at e
  split at e
  · cases e
    have hy := r.strTop
    have hx := r.pop.strTop
    subst hx hy
    exact ⟨_, _, rfl, rfl, q _ H (r.pop2.pushB _)⟩
  · cases e
/-- one sign in a text -/
def gInS : PyData → PyData → Option PyData
  | .str x, .str y => match x.cps.toList with
    | [k] => some (.bool (decide (k ∈ y.cps.toList)))
    | _ => none
  | _, _ => none
theorem opj_inS : OpJ Y (compareOp .In) gInS := by
  refine ⟨_, fun j => op_in_sign, fun c σ ρ T H x y dx dy z Q r e q => ?_⟩
  unfold gInS at e
  split at e
  · rename_i x0 y0
    split at e
    · rename_i k hk
      cases e
      have hy := r.strTop
      have hx := r.pop.strTop
      subst hx hy
      refine ⟨k, _, ?_, rfl, q _ H (r.pop2.pushB _)⟩
      obtain ⟨⟨l⟩⟩ := x0
      simp only at hk
      subst hk
      rfl
    · cases e
  · cases e
/-- in a row of data -/
def gInD : PyData → PyData → Option PyData
  | d, .list ds => if SeqAt.shaped d && SeqAt.shaped (.list ds) then some (.bool (ds.any fun z => PyData.eqv z d)) else none
  | d, .tuple ds => if SeqAt.shaped d && SeqAt.shaped (.tuple ds) then some (.bool (ds.any fun z => PyData.eqv z d)) else none
  | _, _ => none
def gNotInD : PyData → PyData → Option PyData
  | d, .list ds => if SeqAt.shaped d && SeqAt.shaped (.list ds) then some (.bool (!ds.any fun z => PyData.eqv z d)) else none
  | d, .tuple ds => if SeqAt.shaped d && SeqAt.shaped (.tuple ds) then some (.bool (!ds.any fun z => PyData.eqv z d)) else none
  | _, _ => none
def rInTup (K : PySem.W.Frag) (neg : Bool) : R2 := fun x y H Q => ∃ d ds, Dp K H x d ∧ Dp K H y (.tuple ds) ∧ SeqAt.shaped d = true ∧ SeqAt.shaped (.tuple ds) = true ∧ Q (.bl (if neg = true then !ds.any fun z => PyData.eqv z d else ds.any fun z => PyData.eqv z d)) H
theorem or_inTup {X : Cx} (hu : X.A.units + 65 < cLine) : OpR X (compareOp .In) (rInTup X.K false) := fun pins s σ H x y v u Q I rx ry h => by
  obtain ⟨d, ds, h1, h2, s1, s2, q⟩ := h
  obtain ⟨_, g1⟩ := Dp.reads I d x v h1 rx
  obtain ⟨_, g2⟩ := Dp.reads I (.tuple ds) y u h2 ry
  refine SeqAt.in_tuple_reads g2 g1 ?_ (SeqAt.canLay_of_shaped s1) (room_in_shaped s1 hu) ⟨.bl _, H, I, rfl, q⟩
  simpa only [PyData.canLay0] using SeqAt.canLay_of_shaped s2
theorem or_notInTup {X : Cx} (hu : X.A.units + 65 < cLine) : OpR X (compareOp .NotIn) (rInTup X.K true) := fun pins s σ H x y v u Q I rx ry h => by
  obtain ⟨d, ds, h1, h2, s1, s2, q⟩ := h
  obtain ⟨_, g1⟩ := Dp.reads I d x v h1 rx
  obtain ⟨_, g2⟩ := Dp.reads I (.tuple ds) y u h2 ry
  refine SeqAt.notIn_tuple_reads g2 g1 ?_ (SeqAt.canLay_of_shaped s1) (room_in_shaped s1 hu) ⟨.bl _, H, I, rfl, q⟩
  simpa only [PyData.canLay0] using SeqAt.canLay_of_shaped s2
theorem units65 {k : Nat} {A : Around} (r : Room k A) : A.units + 65 < cLine := by
  have := r.un
  omega
theorem opj_inD : OpJ Y (compareOp .In) gInD := by
  refine ⟨_, fun j => OpR.or (r := rInD Y.K) (r' := rInTup Y.K false) (by rw [← Y.hK j]; exact op_inD (units65 (Y.room j))) (by rw [← Y.hK j]; exact or_inTup (units65 (Y.room j))), fun c σ ρ T H x y dx dy z Q r e q => ?_⟩
  unfold gInD at e
  obtain ⟨h1, h2⟩ := r.two
  split at e
  · split at e
    · rename_i hs
      cases e
      obtain ⟨s1, s2⟩ := Bool.and_eq_true_iff.mp hs
      exact .inl ⟨_, _, h1.dp, h2.dp, s1, s2, q _ H (r.pop2.pushB _)⟩
    · cases e
  · split at e
    · rename_i hs
      cases e
      obtain ⟨s1, s2⟩ := Bool.and_eq_true_iff.mp hs
      exact .inr ⟨_, _, h1.dp, h2.dp, s1, s2, q _ H (r.pop2.pushB _)⟩
    · cases e
  · cases e
theorem opj_notInD : OpJ Y (compareOp .NotIn) gNotInD := by
  refine ⟨_, fun j => OpR.or (r := rNotInD Y.K) (r' := rInTup Y.K true) (by rw [← Y.hK j]; exact op_notInD (units65 (Y.room j))) (by rw [← Y.hK j]; exact or_notInTup (units65 (Y.room j))), fun c σ ρ T H x y dx dy z Q r e q => ?_⟩
  unfold gNotInD at e
  obtain ⟨h1, h2⟩ := r.two
  split at e
  · split at e
    · rename_i hs
      cases e
      obtain ⟨s1, s2⟩ := Bool.and_eq_true_iff.mp hs
      exact .inl ⟨_, _, h1.dp, h2.dp, s1, s2, q _ H (r.pop2.pushB _)⟩
    · cases e
  · split at e
    · rename_i hs
      cases e
      obtain ⟨s1, s2⟩ := Bool.and_eq_true_iff.mp hs
      exact .inr ⟨_, _, h1.dp, h2.dp, s1, s2, q _ H (r.pop2.pushB _)⟩
    · cases e
  · cases e
/-! ### the operators of the programs, each with all the kinds it takes -/
def gEq (x y : PyData) : Option PyData := (gEqS x y).or (gEqD x y)
def gNe (x y : PyData) : Option PyData := (gNeS x y).or (gNeD x y)
def gMulC (i j : Int) : Bool := decide (i.natAbs.log2 + j.natAbs.log2 < 1000000)
def gDivC (_ j : Int) : Bool := decide (0 < j) && decide (j.natAbs.log2 < 9000)
def gModC (_ j : Int) : Bool := decide (0 < j)
def gPowC (i j : Int) : Bool := decide (0 ≤ j) && decide (j ≤ 1000000) && decide (i.natAbs < 2 ^ 64)
def gAdd (x y : PyData) : Option PyData := (gI (fun _ _ => true) (fun i j => i + j) x y).or ((gAddS x y).or ((gAddT x y).or (gAddL x y)))
def gSub := gI (fun _ _ => true) (fun i j => i - j)
def gMulI := gI gMulC (fun i j => i * j)
def gMul (x y : PyData) : Option PyData := (gMulI x y).or (gMulL x y)
def gDiv := gI gDivC (fun i j => i / j)
def gMod := gI gModC (fun i j => i % j)
def gPow := gI gPowC (fun i j => i ^ j.toNat)
def gLt (x y : PyData) : Option PyData := (gB (fun i j => decide (i < j)) x y).or ((gLtS x y).or (gLtT x y))
def gLe (x y : PyData) : Option PyData := (gB (fun i j => decide (i ≤ j)) x y).or (gLeT x y)
def gGt := gB (fun i j => decide (j < i))
def gGe := gB (fun i j => decide (j ≤ i))
def gIn (x y : PyData) : Option PyData := (gInD x y).or (gInS x y)
def gIs (x y : PyData) : Option PyData := (gIsN x y).or ((gIsB x y).or (gIsX x y))
def gNot (x y : PyData) : Option PyData := (gNotN x y).or ((gNotB x y).or (gNotX x y))
theorem o_add : OpJ Y (binaryOp .Add) gAdd := (opj_I0 fun _ => op_add).or (opj_addS.or (opj_addT.or opj_addL))
theorem o_sub : OpJ Y (binaryOp .Sub) gSub := opj_I0 fun _ => op_sub
theorem o_mul : OpJ Y (binaryOp .Mult) gMul := OpJ.or (opj_I (fun _ => op_mulW) fun i j h => (of_decide_eq_true h : i.natAbs.log2 + j.natAbs.log2 < 1000000)) opj_mulL
theorem o_div : OpJ Y (binaryOp .FloorDiv) gDiv := opj_I (fun _ => op_fdivW) fun i j h => by
  obtain ⟨a, b⟩ := Bool.and_eq_true_iff.mp h
  exact ⟨of_decide_eq_true a, of_decide_eq_true b⟩
theorem o_mod : OpJ Y (binaryOp .Mod) gMod := opj_I (fun _ => op_mod) fun i j h => of_decide_eq_true h
theorem o_pow : OpJ Y (binaryOp .Pow) gPow := opj_I (fun _ => op_pow) fun i j h => by
  obtain ⟨ab, c⟩ := Bool.and_eq_true_iff.mp h
  obtain ⟨a, b⟩ := Bool.and_eq_true_iff.mp ab
  exact ⟨of_decide_eq_true a, of_decide_eq_true b, of_decide_eq_true c⟩
theorem o_lt : OpJ Y (compareOp .Lt) gLt := (opj_B fun _ => op_lt).or (opj_ltS.or opj_ltT)
theorem o_le : OpJ Y (compareOp .LtE) gLe := (opj_B fun _ => op_le).or opj_leT
theorem o_gt : OpJ Y (compareOp .Gt) gGt := opj_B fun _ => op_gt
theorem o_ge : OpJ Y (compareOp .GtE) gGe := opj_B fun _ => op_ge
theorem o_eq : OpJ Y (compareOp .Eq) gEq := opj_eqS.or opj_eq
theorem o_ne : OpJ Y (compareOp .NotEq) gNe := opj_neS.or opj_ne
theorem o_in : OpJ Y (compareOp .In) gIn := opj_inD.or opj_inS
theorem o_notIn : OpJ Y (compareOp .NotIn) gNotInD := opj_notInD
theorem o_is : OpJ Y (compareOp .Is) gIs := opj_isN.or (opj_isB.or opj_isX)
theorem o_isNot : OpJ Y (compareOp .IsNot) gNot := opj_notN.or (opj_notB.or opj_notX)
end
end Fj

set_option Elab.async false
set_option linter.all false
set_option maxRecDepth 100000
set_option maxHeartbeats 4000000
set_option autoImplicit false
/-! Rows of arguments, displays, places, parts, built-ins. -/
namespace Fj
open PySem PySem.Spec PyProof.Rows L2

def tms : List V → List PyData → Tm
  | v :: vs, d :: ds => tms vs ds ++ [(v, .val d)]
  | _, _ => []
abbrev MA := En → Option (List PyData × En)
def PostA (K : PySem.W.Frag) (c : Ct) (σ : L2.St) (T : Tm) (r : Option (List PyData × En)) (Q : List V → Hp → Prop) : Prop := match r with
  | none => False
  | some (ds, ρ) => ∀ vs H, vs.length = ds.length → Rel K c σ ρ (tms vs ds ++ T) H → Q vs H
def SemA (K : PySem.W.Frag) (t : TA) (m : MA) : Prop := ∀ (c : Ct) (σ : L2.St) (ρ : En) (T : Tm) (H : Hp) (Q : List V → Hp → Prop), Rel K c σ ρ T H → PostA K c σ T (m ρ) Q → t σ H Q
def JA (Y : Fam) (es : List Expr) (m : MA) : Prop := ∃ t, (∀ i, PA (Y.X i) es t) ∧ SemA Y.K t m
def mNil : MA := fun ρ => some ([], ρ)
def mCons (m : MV) (n : MA) : MA := fun ρ => match m ρ with
  | none => none
  | some (d, ρ) => match n ρ with
    | none => none
    | some (ds, ρ) => some (d :: ds, ρ)
section
variable {K : PySem.W.Frag} {c : Ct} {σ : L2.St} {ρ : En} {T : Tm} {H F : Hp} {fp : List Addr}
theorem RelF.tms {vs : List V} {ds : List PyData} (r : RelF K c σ ρ (Fj.tms vs ds ++ T) H F fp) (h : vs.length = ds.length) : Rps K F vs ds ∧ RelF K c σ ρ T H F fp := by
  induction ds generalizing vs T with
  | nil =>
    have : vs = [] := List.eq_nil_of_length_eq_zero h
    subst this
    exact ⟨.nil, r⟩
  | cons d ds ih =>
    cases vs with
    | nil => cases h
    | cons v vs =>
      have r' : RelF K c σ ρ (Fj.tms vs ds ++ ((v, .val d) :: T)) H F fp := by
        have e : Fj.tms (v :: vs) (d :: ds) ++ T = Fj.tms vs ds ++ ((v, .val d) :: T) := by
          show (Fj.tms vs ds ++ [(v, .val d)]) ++ T = _
          rw [List.append_assoc]
          rfl
        rw [← e]
        exact r
      obtain ⟨a, b⟩ := ih r' (Nat.succ.inj h)
      exact ⟨.cons b.top a, b.popV⟩
theorem Rel.tms {vs : List V} {ds : List PyData} (r : Rel K c σ ρ (Fj.tms vs ds ++ T) H) (h : vs.length = ds.length) : Rps K H vs ds ∧ Rel K c σ ρ T H := by
  obtain ⟨F, fp, f⟩ := r
  obtain ⟨a, b⟩ := f.tms h
  exact ⟨a.mono b.fh, F, fp, b⟩
end
section
variable {Y : Fam} {e a b : Expr} {es : List Expr} {pos : Pos}
theorem a_nil : JA Y [] mNil := ⟨tNil, fun _ => pa_nil, fun _ _ _ _ H _ r q => q [] H rfl r⟩
theorem a_cons {m : MV} {n : MA} (h : JV Y e m) (g : JA Y es n) (hs : ∀ j, starEach (e :: es) (Y.X j).env = (false, eval e (Y.X j).env) :: starEach es (Y.X j).env := by intro _; rfl) : JA Y (e :: es) (mCons m n) := by
  obtain ⟨t, p, s⟩ := h
  obtain ⟨u, p', s'⟩ := g
  refine ⟨tCons t u, fun j => pa_cons (p j) (p' j) (hs j), fun c σ ρ T H Q r q => s c σ ρ T H _ r ?_⟩
  unfold mCons at q
  cases hm : m ρ with
  | none =>
    rw [hm] at q
    exact q
  | some z =>
    obtain ⟨d, ρ1⟩ := z
    rw [hm] at q
    simp only at q
    intro v H1 r1
    refine s' c σ ρ1 _ H1 _ r1 ?_
    cases hn : n ρ1 with
    | none =>
      rw [hn] at q
      exact q
    | some z =>
      obtain ⟨ds, ρ2⟩ := z
      rw [hn] at q
      intro vs H2 hl r2
      refine q (v :: vs) H2 (congrArg Nat.succ hl) ?_
      show Rel Y.K c σ ρ2 ((tms vs ds ++ [(v, .val d)]) ++ T) H2
      rw [List.append_assoc]
      exact r2
/-! ### displays -/
def mTup (n : MA) : MV := fun ρ => match n ρ with
  | none => none
  | some (ds, ρ) => if ds.length ≤ 100000 then some (.tuple ds, ρ) else none
def mLst (n : MA) : MO := fun ρ => match n ρ with
  | none => none
  | some (ds, ρ) => if ds.length ≤ 100000 then some (.own true (.lst ds), ρ) else none
theorem j_tup {n : MA} {x1 : Nat} (h : JA Y es n) : JV Y (.Tuple es x1 pos) (mTup n) := by
  obtain ⟨t, p, s⟩ := h
  refine ⟨tTup t, fun j => pe_tup (p j), fun c σ ρ T H Q r q => s c σ ρ T H _ r ?_⟩
  unfold mTup at q
  cases hn : n ρ with
  | none =>
    rw [hn] at q
    exact q
  | some z =>
    obtain ⟨ds, ρ1⟩ := z
    rw [hn] at q
    simp only at q
    split at q
    · rename_i hl
      intro vs H1 hv r1
      refine ⟨sz5 (by omega), fun p hp => q _ _ ?_⟩
      obtain ⟨F, fp, f⟩ := r1
      obtain ⟨x, y⟩ := f.tms hv
      exact y.tupNew hp x
    · exact q.elim
theorem j_lst {n : MA} (h : JA Y es n) : JO Y (.List es pos) (mLst n) := by
  obtain ⟨t, p, s⟩ := h
  refine ⟨tLst t, fun j => pe_lst (p j), fun c σ ρ T H Q r q => s c σ ρ T H _ r ?_⟩
  unfold mLst at q
  cases hn : n ρ with
  | none =>
    rw [hn] at q
    exact q
  | some z =>
    obtain ⟨ds, ρ1⟩ := z
    rw [hn] at q
    simp only at q
    split at q
    · rename_i hl
      intro vs H1 hv r1
      refine ⟨sz5 (by omega), fun p hp => q _ _ ?_⟩
      obtain ⟨F, fp, f⟩ := r1
      obtain ⟨x, y⟩ := f.tms hv
      exact y.lstNew hp x
    · exact q.elim
/-- lists together: a new list -/
def mCat (ma mb : MV) : MO := fun ρ => match ma ρ with
  | none => none
  | some (x, ρ) => match mb ρ with
    | none => none
    | some (y, ρ) => match x, y with
      | .list xs, .list ys => if xs.length + ys.length ≤ 100000 then some (.own true (.lst (xs ++ ys)), ρ) else none
      | _, _ => none
theorem Rp.lstAt {K : PySem.W.Frag} {F : Hp} {v : V} {xs : List PyData} (h : Rp K F v (.list xs)) : ∃ a vs, v = .ref a ∧ F a = some (.lst vs) ∧ Rps K F vs xs := by
  cases h with
  | lst h r => exact ⟨_, _, rfl, h, r⟩
theorem Rp.tupAt {K : PySem.W.Frag} {F : Hp} {v : V} {xs : List PyData} (h : Rp K F v (.tuple xs)) : ∃ a vs, v = .ref a ∧ SqT K F a vs ∧ Rps K F vs xs := by
  cases h with
  | tup h r => exact ⟨_, _, rfl, h, r⟩
theorem j_cat {ma mb : MV} (ha : JV Y a ma) (hb : JV Y b mb) : JO Y (.BinOp a .Add b pos) (mCat ma mb) := by
  obtain ⟨ta, pa, sa⟩ := ha
  obtain ⟨tb, pb, sb⟩ := hb
  refine ⟨tOp rCat ta tb, fun j => pe_op op_cat (pa j) (pb j), fun c σ ρ T H Q re q => ?_⟩
  unfold mCat at q
  split at q
  · exact q.elim
  · rename_i x ρ1 e1
    split at q
    · exact q.elim
    · rename_i y ρ2 e2
      split at q
      · rename_i xs ys
        split at q
        · rename_i hl
          refine sem_bin sa sb re ⟨_, ρ1, _, ρ2, e1, e2, fun vx vy H2 r2 => ?_⟩
          obtain ⟨F, fp, f⟩ := r2
          obtain ⟨b', ws, rfl, hb', rb⟩ := f.top.lstAt
          obtain ⟨a', us, rfl, ha', ra⟩ := f.popV.top.lstAt
          have la := ra.length
          have lb := rb.length
          exact ⟨a', b', us, ws, rfl, rfl, f.fh _ _ ha', f.fh _ _ hb', sz5 (by omega), fun p hp => q _ _ (f.popV.popV.lstNew hp (ra.app rb))⟩
        · exact q.elim
      · exact q.elim
/-! ### places -/
theorem Rps.atI {K : PySem.W.Frag} {F : Hp} {vs : List V} {ds : List PyData} {i : Int} {d : PyData} (h : Rps K F vs ds) (e : L2.atI ds i = some d) : ∃ v, L2.atI vs i = some v ∧ Rp K F v d := by
  unfold L2.atI at e ⊢
  rw [h.length]
  cases hn : ixN ds.length i with
  | none =>
    rw [hn] at e
    cases e
  | some j =>
    rw [hn] at e
    exact h.get (i := j) e
def gIx : PyData → PyData → Option PyData
  | .list ds, .int i => L2.atI ds i
  | .tuple ds, .int i => L2.atI ds i
  | .str z, .int i => if z.length ≤ 100000 then (L2.atI z.cps.toList i).map fun k => .str ⟨#[k]⟩ else none
  | _, _ => none
theorem j_ix {ma mb : MV} (ha : JV Y a ma) (hb : JV Y b mb) (hs : PlainIx b := by intro _ _; rfl) : JV Y (.Subscript a b pos) (mBin gIx ma mb) := by
  obtain ⟨ta, pa, sa⟩ := ha
  obtain ⟨tb, pb, sb⟩ := hb
  refine ⟨tOp (rIx Y.K) ta tb, fun j => by rw [← Y.hK j]; exact pe_ix ix_seq (pa j) (pb j) hs, fun c σ ρ T H Q re q => ?_⟩
  obtain ⟨x, ρ1, y, ρ2, z, e1, e2, hg, q⟩ := bin_inv q
  refine sem_bin sa sb re ⟨x, ρ1, y, ρ2, e1, e2, fun vx vy H2 r2 => ?_⟩
  unfold gIx at hg
  split at hg
  · rename_i ds i
    have hy := r2.intTop
    obtain ⟨F, fp, f⟩ := r2
    obtain ⟨p, us, rfl, h1, h2⟩ := f.popV.top.lstAt
    obtain ⟨v, hv, rv⟩ := h2.atI hg
    subst hy
    exact .inl ⟨p, us, i, v, rfl, rfl, .inl (.inl (f.fh _ _ h1)), hv, q _ _ ⟨F, fp, f.popV.popV.push rv⟩⟩
  · rename_i ds i
    have hy := r2.intTop
    obtain ⟨F, fp, f⟩ := r2
    obtain ⟨p, us, rfl, h1, h2⟩ := f.popV.top.tupAt
    obtain ⟨v, hv, rv⟩ := h2.atI hg
    subst hy
    exact .inr (.inl ⟨p, us, i, v, rfl, rfl, same_tup f.fh h1, hv, q _ _ ⟨F, fp, f.popV.popV.push rv⟩⟩)
  · rename_i s i
    split at hg
    · rename_i hl
      have hy := r2.intTop
      have hx := r2.pop.strTop
      subst hx hy
      obtain ⟨k, hk, rfl⟩ := Option.map_eq_some_iff.mp hg
      exact .inr (.inr ⟨s, i, k, rfl, rfl, sz5 hl, hk, q _ _ (r2.pop2.pushS _)⟩)
    · cases hg
  · cases hg
/-! ### parts -/
abbrev MP := En → Option (Option Int × En)
def PostP (K : PySem.W.Frag) (c : Ct) (σ : L2.St) (T : Tm) (r : Option (Option Int × En)) (Q : Option Int → Hp → Prop) : Prop := match r with
  | none => False
  | some (o, ρ) => ∀ H', Rel K c σ ρ T H' → Q o H'
def SemP (K : PySem.W.Frag) (t : TO) (m : MP) : Prop := ∀ (c : Ct) (σ : L2.St) (ρ : En) (T : Tm) (H : Hp) (Q : Option Int → Hp → Prop), Rel K c σ ρ T H → PostP K c σ T (m ρ) Q → t σ H Q
def JP (Y : Fam) (e : Option Expr) (m : MP) : Prop := ∃ t, (∀ i, PO (Y.X i) e t) ∧ SemP Y.K t m
def mP0 : MP := fun ρ => some (none, ρ)
def mP1 (m : MV) : MP := fun ρ => match m ρ with
  | some (.int i, ρ) => some (some i, ρ)
  | _ => none
theorem p_none : JP Y none mP0 := ⟨tNoPart, fun _ => po_none, fun _ _ _ _ H _ r q => q H r⟩
theorem p_some {m : MV} (h : JV Y e m) : JP Y (some e) (mP1 m) := by
  obtain ⟨t, p, s⟩ := h
  refine ⟨tPart t, fun j => po_some (p j), fun c σ ρ T H Q r q => s c σ ρ T H _ r ?_⟩
  unfold mP1 at q
  split at q
  · rename_i i ρ1 e
    rw [e]
    intro v H1 r1
    have r1 : Rel Y.K c σ ρ1 ((v, .val (.int i)) :: T) H1 := r1
    exact ⟨i, r1.intTop, q H1 r1.pop⟩
  · exact q.elim
def cutD (xs : List PyData) (lo hi : Option Int) : List PyData := (xs.drop (HT.sIx xs.length 0 lo)).take (HT.sIx xs.length xs.length hi - HT.sIx xs.length 0 lo)
theorem Rps.cut {K : PySem.W.Frag} {F : Hp} {vs : List V} {ds : List PyData} (lo hi : Option Int) (h : Rps K F vs ds) : Rps K F (cutV vs lo hi) (cutD ds lo hi) := by
  unfold cutV cutD
  rw [h.length]
  exact (h.dropN _).takeN _
def gSl (d : PyData) (lo hi : Option Int) : Option Ent := match d with
  | .list ds => some (.own true (.lst (cutD ds lo hi)))
  | .tuple ds => some (.val (.tuple (cutD ds lo hi)))
  | .str z => if z.length ≤ 100000 then some (.val (.str (cutS z lo hi))) else none
  | _ => none
def mSl (m : MV) (l h : MP) : MO := fun ρ => match m ρ with
  | none => none
  | some (d, ρ) => match l ρ with
    | none => none
    | some (lo, ρ) => match h ρ with
      | none => none
      | some (hi, ρ) => (gSl d lo hi).map fun z => (z, ρ)
theorem cut_whole {ds : List PyData} {lo hi : Option Int} (h : HT.sIx ds.length 0 lo = 0 ∧ HT.sIx ds.length ds.length hi = ds.length) : cutD ds lo hi = ds := by
  unfold cutD
  rw [h.1, h.2]
  simp
theorem j_sl {m : MV} {l h : MP} {o1 o2 : Option Expr} {p2 : Pos} (he : JV Y e m) (hl : JP Y o1 l) (hh : JP Y o2 h) : JO Y (.Subscript e (.Slice o1 o2 none p2) pos) (mSl m l h) := by
  obtain ⟨t, p, s⟩ := he
  obtain ⟨tl, pl, s1⟩ := hl
  obtain ⟨th, ph, s2⟩ := hh
  refine ⟨tSl (fun x lo hi H Q => (rSlL Y.K x lo hi H Q ∨ rSlA Y.K x lo hi H Q) ∨ rSlS x lo hi H Q) t tl th, fun j => by rw [← Y.hK j]; exact pe_slice (SlR.or (SlR.or sl_list sl_tupA) sl_str) (p j) (pl j) (ph j), fun c σ ρ T H Q re q => s c σ ρ T H _ re ?_⟩
  unfold mSl at q
  cases hm : m ρ with
  | none =>
    rw [hm] at q
    exact q
  | some z =>
    obtain ⟨d, ρ1⟩ := z
    rw [hm] at q
    simp only at q
    intro v H1 r1
    refine s1 c σ ρ1 _ H1 _ r1 ?_
    cases hl1 : l ρ1 with
    | none =>
      rw [hl1] at q
      exact q
    | some z =>
      obtain ⟨lo, ρ2⟩ := z
      rw [hl1] at q
      simp only at q
      intro H2 r2
      refine s2 c σ ρ2 _ H2 _ r2 ?_
      cases hh1 : h ρ2 with
      | none =>
        rw [hh1] at q
        exact q
      | some z =>
        obtain ⟨hi, ρ3⟩ := z
        rw [hh1] at q
        simp only at q
        intro H3 r3
        unfold gSl at q
        split at q
        · obtain ⟨F, fp, f⟩ := r3
          obtain ⟨p, us, rfl, h1, h2⟩ := f.top.lstAt
          exact .inl (.inl ⟨p, us, rfl, .inl (.inl (f.fh _ _ h1)), fun p' hp => q _ _ (f.popV.lstNew hp (h2.cut lo hi))⟩)
        · rename_i ds
          obtain ⟨F, fp, f⟩ := r3
          obtain ⟨p, us, rfl, h1, h2⟩ := f.top.tupAt
          refine .inl (.inr ⟨p, us, rfl, same_tup f.fh h1, fun hw => ?_, fun hw p' hp => q _ _ (f.popV.tupNew hp (h2.cut lo hi))⟩)
          rw [h2.length] at hw
          rw [cut_whole hw] at q
          exact q _ _ ⟨F, fp, f⟩
        · rename_i z
          split at q
          · rename_i hz
            have hx := r3.strTop
            subst hx
            exact .inr ⟨z, rfl, sz5 hz, q _ _ (r3.pop.pushS _)⟩
          · exact q.elim
        · exact q.elim
/-- xs[::-1] -/
def mRev (m : MV) : MO := fun ρ => match m ρ with
  | some (.list ds, ρ) => some (.own true (.lst ds.reverse), ρ)
  | _ => none
theorem j_rev {m : MV} {k : Nat} {p1 p2 p3 : Pos} (he : JV Y e m) : JO Y (.Subscript e (.Slice none none (some (.UnaryOp .USub (.Constant (.int 1) k p1) p2)) p3) pos) (mRev m) := by
  obtain ⟨t, p, s⟩ := he
  refine ⟨tRevL Y.K t, fun j => by rw [← Y.hK j]; exact pe_revL (p j), fun c σ ρ T H Q re q => s c σ ρ T H _ re ?_⟩
  unfold mRev at q
  split at q
  · rename_i ds ρ1 e
    rw [e]
    intro v H1 r1
    obtain ⟨F, fp, f⟩ := r1
    obtain ⟨p, us, rfl, h1, h2⟩ := f.top.lstAt
    exact ⟨p, us, rfl, .inl (.inl (f.fh _ _ h1)), fun p' hp => q _ _ (f.popV.lstNew hp h2.rev)⟩
  · exact q.elim
/-- -i -/
def mNeg (m : MV) : MV := fun ρ => match m ρ with
  | some (.int i, ρ) => some (.int (-i), ρ)
  | _ => none
theorem j_neg {m : MV} (he : JV Y e m) : JV Y (.UnaryOp .USub e pos) (mNeg m) := by
  obtain ⟨t, p, s⟩ := he
  refine ⟨_, fun j => pe_un un_neg (p j), fun c σ ρ T H Q re q => s c σ ρ T H _ re ?_⟩
  unfold mNeg at q
  split at q
  · rename_i i ρ1 e
    rw [e]
    intro v H1 r1
    have r1 : Rel Y.K c σ ρ1 ((v, .val (.int i)) :: T) H1 := r1
    exact ⟨i, r1.intTop, q _ _ (r1.pop.pushI _)⟩
  · exact q.elim
/-- a part of the script -/
def mScrSl (i : Nat) (l h : MP) : MO := fun ρ => match ρ[i]? with
  | some (.scr ns) => match l ρ with
    | none => none
    | some (lo, ρ) => match h ρ with
      | none => none
      | some (hi, ρ) => some (.own true (.lst (cutD (ns.map .int) lo hi)), ρ)
  | _ => none
theorem Rel.scrAt {K : PySem.W.Frag} {c : Ct} {σ : L2.St} {ρ : En} {T : Tm} {H : Hp} {i : Nat} {ns : List Int} (r : Rel K c σ ρ T H) (he : ρ[i]? = some (.scr ns)) : ∃ a, σ[i]? = some (some (.ref a)) ∧ SqL K c.H0 a (ns.map V.int) ∧ ¬ c.W a := by
  obtain ⟨F, fp, r⟩ := r
  have hi : i < σ.length := by
    rw [r.len]
    exact (List.getElem?_eq_some_iff.mp he).1
  obtain ⟨f1, fc, f2, e2, f3, f4⟩ := Slots.place (i := T.length + i) r.sl (x := (σ[i], .scr ns)) (by
    rw [List.getElem?_append_right (by simp [tmp])]
    simp only [tmp, List.length_map, Nat.add_sub_cancel_left]
    exact zip_at (List.getElem?_eq_getElem hi) he)
  generalize hs : σ[i] = s at f3
  cases f3 with
  | @scr a _ q w => exact ⟨a, by rw [List.getElem?_eq_getElem hi, hs], q, w⟩
theorem Rel.scrSq {K : PySem.W.Frag} {c : Ct} {σ : L2.St} {ρ : En} {T : Tm} {H : Hp} {a : Addr} {xs : List V} (r : Rel K c σ ρ T H) (h : SqL K c.H0 a xs) (w : ¬ c.W a) : SqL K H a xs := by
  obtain ⟨F, fp, r⟩ := r
  rcases h with (h | ⟨o, h⟩) | h
  · exact .inl (.inl (r.keep _ _ h w))
  · exact .inl (.inr ⟨o, r.keep _ _ h w⟩)
  · exact .inr h
theorem j_scrSl (i : Nat) {x : Str} {l h : MP} {o1 o2 : Option Expr} {p2 p3 : Pos} (hl : JP Y o1 l) (hh : JP Y o2 h) (hN : ∀ j, (Y.X j).N[i]? = some x := by intro _; rfl) (hv : ∀ j, Vis (Y.X j).env.scope x := by first | exact fun _ => Or.inl rfl | exact fun _ => Or.inr (Or.inl rfl) | exact fun _ => Or.inr (Or.inr rfl)) (hd : (x == ("__debug__" : Str)) = false := by decide)
    (hcd : (x == ("__classdict__" : Str)) = false := by decide) : JO Y (.Subscript (.Name x p3) (.Slice o1 o2 none p2) pos) (mScrSl i l h) := by
  obtain ⟨tl, pl, s1⟩ := hl
  obtain ⟨th, ph, s2⟩ := hh
  refine ⟨tSl (rSlL Y.K) (tVar i) tl th, fun j => by rw [← Y.hK j]; exact pe_slice sl_list (pe_var (hN j) (hv j) hd hcd) (pl j) (ph j), fun c σ ρ T H Q re q => ?_⟩
  unfold mScrSl at q
  split at q
  · rename_i ns he
    obtain ⟨a, hv, hq, w⟩ := re.scrAt he
    refine ⟨_, hv, s1 c σ ρ T H _ re ?_⟩
    cases hl1 : l ρ with
    | none =>
      rw [hl1] at q
      exact q
    | some z =>
      obtain ⟨lo, ρ2⟩ := z
      rw [hl1] at q
      simp only at q
      intro H2 r2
      refine s2 c σ ρ2 _ H2 _ r2 ?_
      cases hh1 : h ρ2 with
      | none =>
        rw [hh1] at q
        exact q
      | some z =>
        obtain ⟨hi, ρ3⟩ := z
        rw [hh1] at q
        simp only at q
        intro H3 r3
        refine ⟨a, _, rfl, r3.scrSq hq w, fun p hp => q _ _ ?_⟩
        obtain ⟨F, fp, f⟩ := r3
        exact f.lstNew hp (Rps.ofInts.cut lo hi)
  · exact q.elim
/-! ### calls of built-ins -/
def CallJ (Y : Fam) (f : Value) (g : List PyData → Option Ent) : Prop := ∃ r : List V → Hp → VK → Prop, (∀ j, CallR (Y.X j) f r) ∧
  ∀ (c : Ct) (σ : L2.St) (ρ : En) (T : Tm) (H : Hp) (vs : List V) (ds : List PyData) (z : Ent) (Q : VK), vs.length = ds.length → Rel Y.K c σ ρ (tms vs ds ++ T) H → g ds = some z → (∀ v H', Rel Y.K c σ ρ ((v, z) :: T) H' → Q v H') → r vs H Q
def mCB (g : List PyData → Option Ent) (n : MA) : MO := fun ρ => match n ρ with
  | none => none
  | some (ds, ρ) => (g ds).map fun z => (z, ρ)
theorem sem_cb {f : Value} {g : List PyData → Option Ent} {n : MA} {r : List V → Hp → VK → Prop} {t : TA} (s : SemA Y.K t n) (hs : ∀ (c : Ct) (σ : L2.St) (ρ : En) (T : Tm) (H : Hp) (vs : List V) (ds : List PyData) (z : Ent) (Q : VK), vs.length = ds.length → Rel Y.K c σ ρ (tms vs ds ++ T) H → g ds = some z → (∀ v H', Rel Y.K c σ ρ ((v, z) :: T) H' → Q v H') → r vs H Q) :
    SemO Y.K (tCB r t) (mCB g n) := fun c σ ρ T H Q re q => by
  refine s c σ ρ T H _ re ?_
  unfold mCB at q
  cases hn : n ρ with
  | none =>
    rw [hn] at q
    exact q
  | some z =>
    obtain ⟨ds, ρ1⟩ := z
    rw [hn] at q
    simp only at q
    intro vs H1 hl r1
    cases hg : g ds with
    | none =>
      rw [hg] at q
      exact q.elim
    | some w =>
      rw [hg] at q
      exact hs c σ ρ1 T H1 vs ds w Q hl r1 hg q
theorem j_callB {x : Str} {id : String} {g : List PyData → Option Ent} {n : MA} {p : Pos} (hc : CallJ Y (.builtin id) g) (hm : Y.mg x = none) (ha : JA Y (e :: es) n) (hv : bootBuiltins x = some (.builtin id) := by decide +kernel) (hg : ∀ j, Gl (Y.X j) x := by intro _; rfl) (hn : x ≠ "__name__" := by decide) (hdb : (x == ("__debug__" : Str)) = false := by decide)
    (he : ∀ j, starEach (e :: es) (Y.X j).env = (false, eval e (Y.X j).env) :: starEach es (Y.X j).env := by intro _; rfl) (hpl : ∀ j, (backTo pos (starEach es (Y.X j).env)).any (·.1) = false := by intro _; rfl) : JO Y (.Call (.Name x p) (e :: es) [] pos) (mCB g n) := by
  obtain ⟨r, o, hs⟩ := hc
  obtain ⟨t, pa, s⟩ := ha
  exact ⟨tCB r t, fun j => pe_callB (o j) (hg j) (by rw [Y.hmg j]; exact hm) hv (pa j) hn hdb (he j) (hpl j), sem_cb (f := .builtin id) s hs⟩
theorem j_callT {x : Str} {id : String} {g : List PyData → Option Ent} {n : MA} {p : Pos} (hc : CallJ Y (.type id) g) (hm : Y.mg x = none) (ha : JA Y (e :: es) n) (hv : bootBuiltins x = some (.type id) := by decide +kernel) (hg : ∀ j, Gl (Y.X j) x := by intro _; rfl) (hn : x ≠ "__name__" := by decide) (hdb : (x == ("__debug__" : Str)) = false := by decide)
    (he : ∀ j, starEach (e :: es) (Y.X j).env = (false, eval e (Y.X j).env) :: starEach es (Y.X j).env := by intro _; rfl) (hpl : ∀ j, (backTo pos (starEach es (Y.X j).env)).any (·.1) = false := by intro _; rfl) : JO Y (.Call (.Name x p) (e :: es) [] pos) (mCB g n) := by
  obtain ⟨r, o, hs⟩ := hc
  obtain ⟨t, pa, s⟩ := ha
  exact ⟨tCB r t, fun j => pe_callTy (o j) (hg j) (by rw [Y.hmg j]; exact hm) hv (pa j) hn hdb (he j) (hpl j), sem_cb (f := .type id) s hs⟩
theorem len1 {vs : List V} {d : PyData} (h : vs.length = [d].length) : ∃ v, vs = [v] := by
  cases vs with
  | nil => cases h
  | cons v vs =>
    cases vs with
    | nil => exact ⟨v, rfl⟩
    | cons w vs => cases h
theorem len2 {vs : List V} {d d' : PyData} (h : vs.length = [d, d'].length) : ∃ v w, vs = [v, w] := by
  cases vs with
  | nil => cases h
  | cons v vs =>
    cases vs with
    | nil => cases h
    | cons w vs =>
      cases vs with
      | nil => exact ⟨v, w, rfl⟩
      | cons u vs => cases h
def gLen : List PyData → Option Ent
  | [.list ds] => some (.val (.int ds.length))
  | [.tuple ds] => some (.val (.int ds.length))
  | [.str z] => if z.length ≤ 100000 then some (.val (.int z.length)) else none
  | _ => none
theorem c_len : CallJ Y (.builtin "len") gLen := by
  refine ⟨fun xs H Q => (∃ p ys, xs = [.ref p] ∧ (SqL Y.K H p ys ∨ SqT Y.K H p ys) ∧ Q (.int ys.length) H) ∨ (∃ z, xs = [.str z] ∧ z.length ≤ sizeLine ∧ Q (.int z.length) H), fun j => by rw [← Y.hK j]; exact CallR.or call_len_seq call_len_str, fun c σ ρ T H vs ds z Q hl r e q => ?_⟩
  · unfold gLen at e
    split at e
    · cases e
      obtain ⟨v, rfl⟩ := len1 hl
      obtain ⟨F, fp, f⟩ := r
      have f : RelF Y.K c σ ρ ((v, .val (.list _)) :: T) H F fp := f
      obtain ⟨p, us, rfl, h1, h2⟩ := f.top.lstAt
      refine .inl ⟨p, us, rfl, .inl (.inl (.inl (f.fh _ _ h1))), ?_⟩
      rw [h2.length]
      exact q _ _ (Rel.pushI ⟨F, fp, f.popV⟩ _)
    · cases e
      obtain ⟨v, rfl⟩ := len1 hl
      obtain ⟨F, fp, f⟩ := r
      have f : RelF Y.K c σ ρ ((v, .val (.tuple _)) :: T) H F fp := f
      obtain ⟨p, us, rfl, h1, h2⟩ := f.top.tupAt
      refine .inl ⟨p, us, rfl, .inr (same_tup f.fh h1), ?_⟩
      rw [h2.length]
      exact q _ _ (Rel.pushI ⟨F, fp, f.popV⟩ _)
    · split at e
      · rename_i hz
        cases e
        obtain ⟨v, rfl⟩ := len1 hl
        have r : Rel Y.K c σ ρ ((v, .val (.str _)) :: T) H := r
        have hx := r.strTop
        subst hx
        exact .inr ⟨_, rfl, sz5 hz, q _ _ (r.pop.pushI _)⟩
      · cases e
    · cases e
def gInt : List PyData → Option Ent
  | [.int i] => some (.val (.int i))
  | [.bool k] => some (.val (.int (if k then 1 else 0)))
  | _ => none
theorem c_int : CallJ Y (.type "int") gInt := by
  refine ⟨_, fun j => call_int1, fun c σ ρ T H vs ds z Q hl r e q => ?_⟩
  unfold gInt at e
  split at e
  · cases e
    obtain ⟨v, rfl⟩ := len1 hl
    have r : Rel Y.K c σ ρ ((v, .val (.int _)) :: T) H := r
    have hx := r.intTop
    subst hx
    exact .inl ⟨_, rfl, q _ _ r⟩
  · cases e
    obtain ⟨v, rfl⟩ := len1 hl
    have r : Rel Y.K c σ ρ ((v, .val (.bool _)) :: T) H := r
    have hx := r.boolTop
    subst hx
    exact .inr ⟨_, rfl, q _ _ (r.pop.pushI _)⟩
  · cases e
def gMax2 : List PyData → Option Ent
  | [.int i, .int j] => some (.val (.int (if j > i then j else i)))
  | _ => none
theorem c_max2 : CallJ Y (.builtin "max") gMax2 := by
  refine ⟨_, fun j => call_max2 (Y.calm j), fun c σ ρ T H vs ds z Q hl r e q => ?_⟩
  unfold gMax2 at e
  split at e
  · cases e
    obtain ⟨v, w, rfl⟩ := len2 hl
    have r : Rel Y.K c σ ρ ((w, .val (.int _)) :: (v, .val (.int _)) :: T) H := r
    have hx := r.intTop
    have hy := r.pop.intTop
    subst hx hy
    exact ⟨_, _, rfl, q _ _ (r.pop2.pushI _)⟩
  · cases e
def gMin2 : List PyData → Option Ent
  | [.int i, .int j] => some (.val (.int (if j < i then j else i)))
  | _ => none
theorem c_min2 : CallJ Y (.builtin "min") gMin2 := by
  refine ⟨_, fun j => call_min2 (Y.calm j), fun c σ ρ T H vs ds z Q hl r e q => ?_⟩
  unfold gMin2 at e
  split at e
  · cases e
    obtain ⟨v, w, rfl⟩ := len2 hl
    have r : Rel Y.K c σ ρ ((w, .val (.int _)) :: (v, .val (.int _)) :: T) H := r
    have hx := r.intTop
    have hy := r.pop.intTop
    subst hx hy
    exact ⟨_, _, rfl, q _ _ (r.pop2.pushI _)⟩
  · cases e
def gAll : List PyData → Option Ent
  | [.list ds] => (boolsD ds).map fun bs => .val (.bool (bs.all id))
  | _ => none
def gAny : List PyData → Option Ent
  | [.list ds] => (boolsD ds).map fun bs => .val (.bool (bs.any id))
  | _ => none
def gSum : List PyData → Option Ent
  | [.list ds] => (intsD ds).map fun bs => .val (.int bs.sum)
  | _ => none
theorem c_all : CallJ Y (.builtin "all") gAll := by
  refine ⟨rAll Y.K, fun j => by rw [← Y.hK j]; exact cr_all (Y.calm j), fun c σ ρ T H vs ds z Q hl r e q => ?_⟩
  unfold gAll at e
  split at e
  · obtain ⟨bs, hb, rfl⟩ := Option.map_eq_some_iff.mp e
    have := boolsD_eq hb
    subst this
    obtain ⟨v, rfl⟩ := len1 hl
    obtain ⟨F, fp, f⟩ := r
    have f : RelF Y.K c σ ρ ((v, .val (.list _)) :: T) H F fp := f
    obtain ⟨p, us, rfl, h1, h2⟩ := f.top.lstAt
    have := h2.bools
    subst this
    exact ⟨p, bs, rfl, .inl (.inl (f.fh _ _ h1)), q _ _ (Rel.pushB ⟨F, fp, f.popV⟩ _)⟩
  · cases e
theorem c_any : CallJ Y (.builtin "any") gAny := by
  refine ⟨rAny Y.K, fun j => by rw [← Y.hK j]; exact cr_any (Y.calm j), fun c σ ρ T H vs ds z Q hl r e q => ?_⟩
  unfold gAny at e
  split at e
  · obtain ⟨bs, hb, rfl⟩ := Option.map_eq_some_iff.mp e
    have := boolsD_eq hb
    subst this
    obtain ⟨v, rfl⟩ := len1 hl
    obtain ⟨F, fp, f⟩ := r
    have f : RelF Y.K c σ ρ ((v, .val (.list _)) :: T) H F fp := f
    obtain ⟨p, us, rfl, h1, h2⟩ := f.top.lstAt
    have := h2.bools
    subst this
    exact ⟨p, bs, rfl, .inl (.inl (f.fh _ _ h1)), q _ _ (Rel.pushB ⟨F, fp, f.popV⟩ _)⟩
  · cases e
theorem c_sum : CallJ Y (.builtin "sum") gSum := by
  refine ⟨rSum Y.K, fun j => by rw [← Y.hK j]; exact cr_sum (Y.calm j), fun c σ ρ T H vs ds z Q hl r e q => ?_⟩
  unfold gSum at e
  split at e
  · obtain ⟨bs, hb, rfl⟩ := Option.map_eq_some_iff.mp e
    have := intsD_eq hb
    subst this
    obtain ⟨v, rfl⟩ := len1 hl
    obtain ⟨F, fp, f⟩ := r
    have f : RelF Y.K c σ ρ ((v, .val (.list _)) :: T) H F fp := f
    obtain ⟨p, us, rfl, h1, h2⟩ := f.top.lstAt
    have := h2.nums
    subst this
    exact ⟨p, bs, rfl, .inl (.inl (f.fh _ _ h1)), q _ _ (Rel.pushI ⟨F, fp, f.popV⟩ _)⟩
  · cases e
def gList : List PyData → Option Ent
  | [.list ds] => some (.own true (.lst ds))
  | [.tuple ds] => some (.own true (.lst ds))
  | _ => none
def gTuple : List PyData → Option Ent
  | [.list ds] => some (.val (.tuple ds))
  | [.tuple ds] => some (.val (.tuple ds))
  | _ => none
theorem c_list : CallJ Y (.type "list") gList := by
  refine ⟨fun xs H Q => ∃ p ys, xs = [.ref p] ∧ (SqL Y.K H p ys ∨ SqT Y.K H p ys) ∧ ∀ l, H l = none → Q (.ref l) (upd H l (.lst ys)), fun j => by rw [← Y.hK j]; exact call_list_of, fun c σ ρ T H vs ds z Q hl r e q => ?_⟩
  unfold gList at e
  split at e
  · cases e
    obtain ⟨v, rfl⟩ := len1 hl
    obtain ⟨F, fp, f⟩ := r
    have f : RelF Y.K c σ ρ ((v, .val (.list _)) :: T) H F fp := f
    obtain ⟨p, us, rfl, h1, h2⟩ := f.top.lstAt
    exact ⟨p, us, rfl, .inl (.inl (.inl (f.fh _ _ h1))), fun l hl => q _ _ (f.popV.lstNew hl h2)⟩
  · cases e
    obtain ⟨v, rfl⟩ := len1 hl
    obtain ⟨F, fp, f⟩ := r
    have f : RelF Y.K c σ ρ ((v, .val (.tuple _)) :: T) H F fp := f
    obtain ⟨p, us, rfl, h1, h2⟩ := f.top.tupAt
    exact ⟨p, us, rfl, .inr (same_tup f.fh h1), fun l hl => q _ _ (f.popV.lstNew hl h2)⟩
  · cases e
theorem c_tuple : CallJ Y (.type "tuple") gTuple := by
  refine ⟨fun xs H Q => ∃ p ys, xs = [.ref p] ∧ ((SqL Y.K H p ys ∧ ∀ l, H l = none → Q (.ref l) (upd H l (.tup ys))) ∨ (SqT Y.K H p ys ∧ Q (.ref p) H)), fun j => by rw [← Y.hK j]; exact call_tuple_of, fun c σ ρ T H vs ds z Q hl r e q => ?_⟩
  unfold gTuple at e
  split at e
  · cases e
    obtain ⟨v, rfl⟩ := len1 hl
    obtain ⟨F, fp, f⟩ := r
    have f : RelF Y.K c σ ρ ((v, .val (.list _)) :: T) H F fp := f
    obtain ⟨p, us, rfl, h1, h2⟩ := f.top.lstAt
    exact ⟨p, us, rfl, .inl ⟨.inl (.inl (f.fh _ _ h1)), fun l hl => q _ _ (f.popV.tupNew hl h2)⟩⟩
  · cases e
    obtain ⟨v, rfl⟩ := len1 hl
    obtain ⟨F, fp, f⟩ := r
    have f : RelF Y.K c σ ρ ((v, .val (.tuple _)) :: T) H F fp := f
    obtain ⟨p, us, rfl, h1, h2⟩ := f.top.tupAt
    exact ⟨p, us, rfl, .inr ⟨same_tup f.fh h1, q _ _ ⟨F, fp, f⟩⟩⟩
  · cases e
/-- repr of data -/
def gRepr : List PyData → Option Ent
  | [d] => if d.showable && SeqAt.shaped d && decide (d.shown.length ≤ 100000) then some (.val (.str d.shown)) else none
  | _ => none
def rReprD (K : PySem.W.Frag) : List V → Hp → VK → Prop := fun xs H Q => ∃ x d, xs = [x] ∧ Dp K H x d ∧ d.showable = true ∧ SeqAt.shaped d = true ∧ d.shown.length ≤ sizeLine ∧ Q (.str d.shown) H
end
end Fj

set_option Elab.async false
set_option linter.all false
set_option maxRecDepth 100000
set_option maxHeartbeats 4000000
set_option autoImplicit false
/-! repr, isinstance; what is walked; targets; statements, loops, comprehensions; lists that a def owns. -/
namespace Fj
open PySem PySem.Spec PyProof.Rows L2

/-! ### repr -/
theorem cr_reprD {X : Cx} {k : Nat} (gd : X.A.guards = some []) (hr : Room k X.A) : CallR X (.builtin "repr") (rReprD X.K) := fun pins s σ H xs us Q I r h => by
  obtain ⟨x, d, rfl, hd, h1, h2, h3, q⟩ := h
  obtain ⟨u, rfl, ru⟩ := vals1 r
  obtain ⟨as, rd⟩ := Dp.reads I d x u hd ru
  have hu := units65 hr
  have hdep : d.depth ≤ 64 := of_decide_eq_true (Bool.and_eq_true_iff.mp h2).2
  cases d with
  | none =>
    cases hd
    cases (show u = Value.none from ru)
    exact PySem.P.repr_of_none ⟨.str _, H, I.tok _, ⟨_, rfl⟩, by simpa only [PyData.shown] using q⟩
  | bool b =>
    cases hd
    cases (show u = Value.bool b from ru)
    exact PySem.P.repr_of_bool ⟨.str _, H, I.tok _, ⟨_, rfl⟩, by simpa only [PyData.shown] using q⟩
  | int i =>
    cases hd
    obtain ⟨t, rfl⟩ := (show ∃ t, u = Value.int i t from ru)
    exact PySem.P.repr_of_int (by simpa only [PyData.showable, decide_eq_true_eq] using h1) ⟨.str _, H, I.tok _, ⟨_, rfl⟩, by simpa only [PyData.shown] using q⟩
  | str z =>
    cases hd
    obtain ⟨t, rfl⟩ := (show ∃ t, u = Value.str z t from ru)
    exact PySem.P.repr_of_str ⟨.str _, H, I.tok _, ⟨_, rfl⟩, by simpa only [PyData.shown] using q⟩ (by simpa only [PyData.shown] using h3)
  | list ds =>
    cases hd with
    | lst hs ha =>
      cases (show u = Value.ref _ from ru)
      exact repr_of_reads' rd h1 (PyData.noDict_hsm (PyData.hasDict_of_canLay _ (SeqAt.canLay_of_shaped h2))) gd (by omega) (fun _ _ z => z) (fun h' u tk hk => ⟨.str _, H, I.kept (h' := h') (t' := tk) hk, ⟨_, rfl⟩, q⟩) h3
  | tuple ds =>
    cases hd with
    | tup hs ha =>
      cases (show u = Value.ref _ from ru)
      exact repr_of_reads' rd h1 (PyData.noDict_hsm (PyData.hasDict_of_canLay _ (SeqAt.canLay_of_shaped h2))) gd (by omega) (fun _ _ z => z) (fun h' u tk hk => ⟨.str _, H, I.kept (h' := h') (t' := tk) hk, ⟨_, rfl⟩, q⟩) h3
  | dict _ => cases hd
section
variable {Y : Fam} {e a b : Expr} {es : List Expr} {pos : Pos}
theorem c_repr : CallJ Y (.builtin "repr") gRepr := by
  refine ⟨rReprD Y.K, fun j => by rw [← Y.hK j]; exact cr_reprD (Y.gd j) (Y.room j), fun c σ ρ T H vs ds z Q hl r e q => ?_⟩
  unfold gRepr at e
  split at e
  · rename_i d
    split at e
    · rename_i hs
      cases e
      obtain ⟨h12, h3⟩ := Bool.and_eq_true_iff.mp hs
      obtain ⟨h1, h2⟩ := Bool.and_eq_true_iff.mp h12
      obtain ⟨v, rfl⟩ := len1 hl
      have r : Rel Y.K c σ ρ ((v, .val d) :: T) H := r
      exact ⟨v, d, rfl, r.top.dp, h1, h2, sz5 (of_decide_eq_true h3), q _ _ (r.pop.pushS _)⟩
    · cases e
  · cases e
/-! ### isinstance(x, T), T a built-in type -/
def tyN : PyData → String
  | .none => "NoneType"
  | .bool _ => "bool"
  | .int _ => "int"
  | .str _ => "str"
  | .list _ => "list"
  | .tuple _ => "tuple"
  | .dict _ => "dict"
theorem Rp.ty {K : PySem.W.Frag} {H : Hp} {v : V} {d : PyData} (h : Rp K H v d) : TyX K H v (.type (tyN d)) := by
  cases h with
  | non => exact .base .non
  | bl b => exact .base (.bl b)
  | int i => exact .base (.int i)
  | str x => exact .base (.str x)
  | lst h r => exact .base (.lst h)
  | tup h r =>
    rcases h with (h | ⟨o, h⟩) | ⟨o, its, n, h1, h2, _⟩
    · exact .base (.tup h)
    · exact .fTuple h
    · exact .kTuple h1 h2
def mIsi (T : String) (m : MV) : MV := fun ρ => match m ρ with
  | none => none
  | some (d, ρ) => (kitB (tyN d) T).map fun b => (.bool b, ρ)
theorem j_isi {m : MV} {x : Str} {T : String} {p p2 : Pos} (h : JV Y e m) (hi : Y.mg "isinstance" = none) (hm : Y.mg x = none) (hv : bootBuiltins x = some (.type T) := by decide +kernel) (hg : ∀ j, Gl (Y.X j) "isinstance" := by intro _; rfl) (hg2 : ∀ j, Gl (Y.X j) x := by intro _; rfl)
    (hn : x ≠ "__name__" := by decide) (hdb : (x == ("__debug__" : Str)) = false := by decide) (hs1 : ∀ j, starEach [e, .Name x p2] (Y.X j).env = (false, eval e (Y.X j).env) :: starEach [.Name x p2] (Y.X j).env := by intro _; rfl)
    (hs2 : ∀ j, starEach [.Name x p2] (Y.X j).env = (false, eval (.Name x p2) (Y.X j).env) :: starEach [] (Y.X j).env := by intro _; rfl) (hpl : ∀ j, (backTo pos (starEach [.Name x p2] (Y.X j).env)).any (·.1) = false := by intro _; rfl) : JV Y (.Call (.Name "isinstance" p) [e, .Name x p2] [] pos) (mIsi T m) := by
  obtain ⟨t, pa, s⟩ := h
  refine ⟨tCB (rIsi Y.K) (tCons t (tCons (tC (.ty T)) tNil)), fun j => by
    rw [← Y.hK j]
    exact pe_callB call_isi (hg j) (by rw [Y.hmg j]; exact hi) (by decide +kernel) (pa_cons (pa j) (pa_cons (pe_bltn (hg2 j) (by rw [Y.hmg j]; exact hm) hv rfl hn hdb) pa_nil (hs2 j)) (hs1 j)) (by decide) (by decide) (hs1 j) (hpl j), fun c σ ρ T' H Q re q => s c σ ρ T' H _ re ?_⟩
  unfold mIsi at q
  cases hm : m ρ with
  | none =>
    rw [hm] at q
    exact q
  | some z =>
    obtain ⟨d, ρ1⟩ := z
    rw [hm] at q
    simp only at q
    intro v H1 r1
    cases hk : kitB (tyN d) T with
    | none =>
      rw [hk] at q
      exact q.elim
    | some b =>
      rw [hk] at q
      exact ⟨v, .ty T, _, .type T, b, rfl, .ty T, r1.top.ty, kit_ty hk, q _ _ (r1.pop.pushB b)⟩
end

/-! ### what is walked -/
def Walk (K : PySem.W.Frag) (c : Ct) (J : It) (Tk : Tm) (ds : List PyData) : Prop := ∀ (σ : L2.St) (ρ : En) (T : Tm) (H : Hp), Rel K c σ ρ (Tk ++ T) H → ∀ i : Nat,
  (∀ d, ds[i]? = some d → J.go i H ∧ ∀ x H', J.yld i H x H' → Rel K c σ ρ ((x, .val d) :: (Tk ++ T)) H') ∧ (ds.length ≤ i → J.stop i H)
abbrev MI := En → Option (List PyData × En)
def PostI (K : PySem.W.Frag) (c : Ct) (σ : L2.St) (T : Tm) (r : Option (List PyData × En)) (R : It → Hp → Prop) : Prop := match r with
  | none => False
  | some (ds, ρ) => ∀ J Tk H, Walk K c J Tk ds → Rel K c σ ρ (Tk ++ T) H → R J H
def SemI (K : PySem.W.Frag) (wi : TI) (m : MI) : Prop := ∀ (c : Ct) (σ : L2.St) (ρ : En) (T : Tm) (H : Hp) (R : It → Hp → Prop), Rel K c σ ρ T H → PostI K c σ T (m ρ) R → wi σ H R
def JI (Y : Fam) (tg e : Expr) (m : MI) : Prop := ∃ wi, (∀ i, PI (Y.X i) tg e wi) ∧ SemI Y.K wi m
theorem pi_or {X : Cx} {tg e : Expr} {w1 w2 : TI} (h : PI X tg e w1) (g : PI X tg e w2) : PI X tg e (fun σ H R => w1 σ H R ∨ w2 σ H R) := ⟨fun pins s σ H R I z => z.elim (h.run pins s σ H R I) (g.run pins s σ H R I)⟩
section
variable {K : PySem.W.Frag} {c : Ct}
theorem walk_lst {a : Addr} {ds : List PyData} : Walk K c (Itl K a) [(.ref a, .val (.list ds))] ds := fun σ ρ T H r i => by
  obtain ⟨F, fp, f⟩ := r
  have f : RelF K c σ ρ ((.ref a, .val (.list ds)) :: T) H F fp := f
  obtain ⟨p, us, e, h1, h2⟩ := f.top.lstAt
  cases e
  have hq : SqL K H a us := .inl (.inl (f.fh _ _ h1))
  refine ⟨fun d hd => ?_, fun hl => ⟨us, hq, by rw [h2.length]; exact hl⟩⟩
  obtain ⟨v, hv, rv⟩ := h2.get hd
  refine ⟨⟨us, v, hq, hv⟩, fun x H' y => ?_⟩
  obtain ⟨rfl, y⟩ := y
  have := y us hq
  rw [hv] at this
  cases this
  exact ⟨F, fp, f.push rv⟩
theorem walk_tup {a : Addr} {ds : List PyData} : Walk K c (Itt K a) [(.ref a, .val (.tuple ds))] ds := fun σ ρ T H r i => by
  obtain ⟨F, fp, f⟩ := r
  have f : RelF K c σ ρ ((.ref a, .val (.tuple ds)) :: T) H F fp := f
  obtain ⟨p, us, e, h1, h2⟩ := f.top.tupAt
  cases e
  have hq : SqT K H a us := same_tup f.fh h1
  refine ⟨fun d hd => ?_, fun hl => ⟨us, hq, by rw [h2.length]; exact hl⟩⟩
  obtain ⟨v, hv, rv⟩ := h2.get hd
  refine ⟨⟨us, v, hq, hv⟩, fun x H' y => ?_⟩
  obtain ⟨rfl, y⟩ := y
  have := y us hq
  rw [hv] at this
  cases this
  exact ⟨F, fp, f.push rv⟩
def signsD (x : Str) : List PyData := x.cps.toList.map fun k => .str ⟨#[k]⟩
theorem walk_str {x : Str} : Walk K c (Its x) [] (signsD x) := fun σ ρ T H r i => by
  refine ⟨fun d hd => ?_, fun hl => ?_⟩
  · unfold signsD at hd
    rw [List.getElem?_map] at hd
    obtain ⟨k, hk, rfl⟩ := Option.map_eq_some_iff.mp hd
    have hk' : x.cps[i]? = some k := by
      rw [← Array.getElem?_toList]
      exact hk
    refine ⟨(Array.getElem?_eq_some_iff.mp hk').1, fun v H' y => ?_⟩
    obtain ⟨rfl, k2, h2, rfl⟩ := y
    rw [hk'] at h2
    cases h2
    exact r.pushS _
  · unfold signsD at hl
    rw [List.length_map, Array.length_toList] at hl
    exact hl
def rngD (lo : Int) (n : Nat) : List PyData := (List.range n).map fun i => .int (lo + (i : Nat))
theorem walk_rng {lo : Int} {n : Nat} : Walk K c (Itr lo n) [] (rngD lo n) := fun σ ρ T H r i => by
  refine ⟨fun d hd => ?_, fun hl => ?_⟩
  · unfold rngD at hd
    rw [List.getElem?_map] at hd
    obtain ⟨k, hk, rfl⟩ := Option.map_eq_some_iff.mp hd
    have hi : i < n := by
      have := (List.getElem?_eq_some_iff.mp hk).1
      simpa using this
    have : k = i := by
      rw [List.getElem?_range hi] at hk
      cases hk
      rfl
    subst this
    refine ⟨hi, fun v H' y => ?_⟩
    obtain ⟨rfl, rfl⟩ := y
    exact r.pushI _
  · unfold rngD at hl
    rw [List.length_map, List.length_range] at hl
    exact hl
def rngCD (lo st : Int) (n : Nat) : List PyData := (List.range n).map fun i => .int (lo + (i : Nat) * st)
theorem walk_rngC {lo st : Int} {n : Nat} : Walk K c (Itc lo st n) [] (rngCD lo st n) := fun σ ρ T H r i => by
  refine ⟨fun d hd => ?_, fun hl => ?_⟩
  · unfold rngCD at hd
    rw [List.getElem?_map] at hd
    obtain ⟨k, hk, rfl⟩ := Option.map_eq_some_iff.mp hd
    have hi : i < n := by
      have := (List.getElem?_eq_some_iff.mp hk).1
      simpa using this
    have : k = i := by
      rw [List.getElem?_range hi] at hk
      cases hk
      rfl
    subst this
    refine ⟨hi, fun v H' y => ?_⟩
    obtain ⟨rfl, rfl⟩ := y
    exact r.pushI _
  · unfold rngCD at hl
    rw [List.length_map, List.length_range] at hl
    exact hl
def enumD : Nat → List PyData → List PyData
  | _, [] => []
  | n, d :: ds => .tuple [.int (n : Nat), d] :: enumD (n + 1) ds
theorem enumD_get : ∀ (ds : List PyData) (n i : Nat), (enumD n ds)[i]? = (ds[i]?).map fun d => .tuple [.int ((n + i : Nat) : Int), d]
  | [], n, i => by simp [enumD]
  | d :: ds, n, 0 => by simp [enumD]
  | d :: ds, n, i + 1 => by
    show (enumD (n + 1) ds)[i]? = _
    rw [enumD_get ds (n + 1) i, List.getElem?_cons_succ]
    have : n + 1 + i = n + (i + 1) := by omega
    rw [this]
theorem enumD_length : ∀ (ds : List PyData) (n : Nat), (enumD n ds).length = ds.length
  | [], n => rfl
  | d :: ds, n => congrArg Nat.succ (enumD_length ds (n + 1))
theorem walk_enum {a : Addr} {ds : List PyData} : Walk K c (Ite K a) [(.ref a, .val (.list ds))] (enumD 0 ds) := fun σ ρ T H r i => by
  obtain ⟨F, fp, f⟩ := r
  have f : RelF K c σ ρ ((.ref a, .val (.list ds)) :: T) H F fp := f
  obtain ⟨p, us, e, h1, h2⟩ := f.top.lstAt
  cases e
  have hq : SqL K H a us := .inl (.inl (f.fh _ _ h1))
  refine ⟨fun d hd => ?_, fun hl => ⟨us, hq, by rw [h2.length, ← enumD_length ds 0]; exact hl⟩⟩
  rw [enumD_get, Nat.zero_add] at hd
  obtain ⟨d0, hd0, rfl⟩ := Option.map_eq_some_iff.mp hd
  obtain ⟨v, hv, rv⟩ := h2.get hd0
  refine ⟨⟨us, v, hq, hv⟩, fun x H' y => ?_⟩
  obtain ⟨tt, x', rfl, ht, rfl, y⟩ := y
  have := y us hq
  rw [hv] at this
  cases this
  exact f.tupNew ht (.cons (.int _) (.cons rv .nil))
def zipD (xs ys : List PyData) : List PyData := (xs.zip ys).map fun p => .tuple [p.1, p.2]
theorem walk_zip {a b : Addr} {xs ys : List PyData} : Walk K c (Itz K a b) [(.ref b, .val (.list ys)), (.ref a, .val (.list xs))] (zipD xs ys) := fun σ ρ T H r i => by
  obtain ⟨F, fp, f⟩ := r
  have f : RelF K c σ ρ ((.ref b, .val (.list ys)) :: (.ref a, .val (.list xs)) :: T) H F fp := f
  obtain ⟨p, us, e, h1, h2⟩ := f.top.lstAt
  cases e
  obtain ⟨p, ws, e, g1, g2⟩ := f.popV.top.lstAt
  cases e
  have hq : SqL K H b us := .inl (.inl (f.fh _ _ h1))
  have gq : SqL K H a ws := .inl (.inl (f.fh _ _ g1))
  refine ⟨fun d hd => ?_, fun hl => ⟨ws, us, gq, hq, ?_⟩⟩
  · unfold zipD at hd
    rw [List.getElem?_map] at hd
    obtain ⟨⟨d1, d2⟩, hp, rfl⟩ := Option.map_eq_some_iff.mp hd
    obtain ⟨e1, e2⟩ := List.getElem?_zip_eq_some.mp hp
    obtain ⟨v2, hv2, rv2⟩ := h2.get e2
    obtain ⟨v1, hv1, rv1⟩ := g2.get e1
    refine ⟨⟨ws, us, v1, v2, gq, hq, hv1, hv2⟩, fun x H' y => ?_⟩
    obtain ⟨tt, x1, x2, rfl, ht, rfl, y1, y2⟩ := y
    have z1 := y1 ws gq
    have z2 := y2 us hq
    rw [hv1] at z1
    rw [hv2] at z2
    cases z1
    cases z2
    exact f.tupNew ht (.cons rv1 (.cons rv2 .nil))
  · unfold zipD at hl
    rw [List.length_map, List.length_zip] at hl
    rw [h2.length, g2.length]
    omega
theorem walk_zipT {a b : Addr} {xs ys : List PyData} : Walk K c (RZ.ItzT K a b) [(.ref b, .val (.tuple ys)), (.ref a, .val (.tuple xs))] (zipD xs ys) := fun σ ρ T H r i => by
  obtain ⟨F, fp, f⟩ := r
  have f : RelF K c σ ρ ((.ref b, .val (.tuple ys)) :: (.ref a, .val (.tuple xs)) :: T) H F fp := f
  obtain ⟨p, us, e, h1, h2⟩ := f.top.tupAt
  cases e
  obtain ⟨p, ws, e, g1, g2⟩ := f.popV.top.tupAt
  cases e
  have hq : SqT K H b us := same_tup f.fh h1
  have gq : SqT K H a ws := same_tup f.fh g1
  refine ⟨fun d hd => ?_, fun hl => ⟨ws, us, gq, hq, ?_⟩⟩
  · unfold zipD at hd
    rw [List.getElem?_map] at hd
    obtain ⟨⟨d1, d2⟩, hp, rfl⟩ := Option.map_eq_some_iff.mp hd
    obtain ⟨e1, e2⟩ := List.getElem?_zip_eq_some.mp hp
    obtain ⟨v2, hv2, rv2⟩ := h2.get e2
    obtain ⟨v1, hv1, rv1⟩ := g2.get e1
    refine ⟨⟨ws, us, v1, v2, gq, hq, hv1, hv2⟩, fun x H' y => ?_⟩
    obtain ⟨tt, x1, x2, rfl, ht, rfl, y1, y2⟩ := y
    have z1 := y1 ws gq
    have z2 := y2 us hq
    rw [hv1] at z1
    rw [hv2] at z2
    cases z1
    cases z2
    exact f.tupNew ht (.cons rv1 (.cons rv2 .nil))
  · unfold zipD at hl
    rw [List.length_map, List.length_zip] at hl
    rw [h2.length, g2.length]
    omega
end
section
variable {Y : Fam} {tg e e2 a b d0 : Expr} {p pos tpos : Pos}
/-- a list, a tuple, a text -/
def mIt (m : MV) : MI := fun ρ => match m ρ with
  | some (.list ds, ρ) => some (ds, ρ)
  | some (.tuple ds, ρ) => some (ds, ρ)
  | some (.str x, ρ) => some (signsD x, ρ)
  | _ => none
theorem i_any {m : MV} (h : JV Y e m) : JI Y tg e (mIt m) := by
  obtain ⟨t, p, s⟩ := h
  refine ⟨fun σ H R => (iList Y.K t σ H R ∨ iTup Y.K t σ H R) ∨ iStr t σ H R, fun j => by rw [← Y.hK j]; exact pi_or (pi_or (pi_list (p j)) (pi_tup (p j))) (pi_str (p j)), fun c σ ρ T H R re q => ?_⟩
  unfold mIt at q
  split at q
  · rename_i ds ρ1 hm
    refine .inl (.inl (s c σ ρ T H _ re ?_))
    rw [hm]
    intro v H1 r1
    obtain ⟨F, fp, f⟩ := r1
    obtain ⟨p, us, rfl, h1, h2⟩ := f.top.lstAt
    exact ⟨p, rfl, ⟨us, .inl (.inl (f.fh _ _ h1))⟩, q _ _ _ walk_lst ⟨F, fp, f⟩⟩
  · rename_i ds ρ1 hm
    refine .inl (.inr (s c σ ρ T H _ re ?_))
    rw [hm]
    intro v H1 r1
    obtain ⟨F, fp, f⟩ := r1
    obtain ⟨p, us, rfl, h1, h2⟩ := f.top.tupAt
    exact ⟨p, rfl, ⟨us, same_tup f.fh h1⟩, q _ _ _ walk_tup ⟨F, fp, f⟩⟩
  · rename_i x ρ1 hm
    refine .inr (s c σ ρ T H _ re ?_)
    rw [hm]
    intro v H1 r1
    have r1 : Rel Y.K c σ ρ1 ((v, .val (.str x)) :: T) H1 := r1
    exact ⟨x, r1.strTop, q _ [] _ walk_str r1.pop⟩
  · exact q.elim
def R1ok (j : Int) : Prop := -(2 ^ 62) ≤ j ∧ j < 2 ^ 62
noncomputable instance (j : Int) : Decidable (R1ok j) := Classical.propDecidable _
def R2ok (i j : Int) : Prop := -(2 ^ 62) ≤ i ∧ i < 2 ^ 62 ∧ -(2 ^ 62) ≤ j ∧ j < 2 ^ 62
noncomputable instance (i j : Int) : Decidable (R2ok i j) := Classical.propDecidable _
noncomputable def mR1 (n : MA) : MI := fun ρ => match n ρ with
  | some ([.int j], ρ) => if R1ok j then some (rngD 0 j.toNat, ρ) else none
  | _ => none
noncomputable def mR2 (n : MA) : MI := fun ρ => match n ρ with
  | some ([.int i, .int j], ρ) => if R2ok i j then some (rngD i (j - i).toNat, ρ) else none
  | _ => none
theorem i_range1 {n : MA} (ha : JA Y [a] n) (hm : Y.mg "range" = none) (hg : ∀ j, Gl (Y.X j) "range" := by intro _; rfl) (hs : ∀ j, starEach [a] (Y.X j).env = [(false, eval a (Y.X j).env)] := by intro _; rfl) : JI Y tg (.Call (.Name "range" p) [a] [] pos) (mR1 n) := by
  obtain ⟨t, pa, s⟩ := ha
  refine ⟨iRng1 t, fun j => pi_range1 (hg j) (by rw [Y.hmg j]; exact hm) (pa j) (hs j), fun c σ ρ T H R re q => s c σ ρ T H _ re ?_⟩
  unfold mR1 at q
  split at q
  · rename_i j ρ1 hn
    rw [hn]
    split at q
    · rename_i hb
      intro vs H1 hl r1
      obtain ⟨v, rfl⟩ := len1 hl
      have r1 : Rel Y.K c σ ρ1 ((v, .val (.int j)) :: T) H1 := r1
      have hv := r1.intTop
      subst hv
      exact ⟨j, rfl, hb.1, hb.2, q _ [] _ walk_rng r1.pop⟩
    · exact q.elim
  · exact q.elim
theorem i_range2 {n : MA} (ha : JA Y [a, b] n) (hm : Y.mg "range" = none) (hg : ∀ j, Gl (Y.X j) "range" := by intro _; rfl) (hs : ∀ j, starEach [a, b] (Y.X j).env = [(false, eval a (Y.X j).env), (false, eval b (Y.X j).env)] := by intro _; rfl)
    (hs2 : ∀ j, starEach [b] (Y.X j).env = [(false, eval b (Y.X j).env)] := by intro _; rfl) : JI Y tg (.Call (.Name "range" p) [a, b] [] pos) (mR2 n) := by
  obtain ⟨t, pa, s⟩ := ha
  refine ⟨iRng2 t, fun j => pi_range2 (hg j) (by rw [Y.hmg j]; exact hm) (pa j) (hs j) (hs2 j), fun c σ ρ T H R re q => s c σ ρ T H _ re ?_⟩
  unfold mR2 at q
  split at q
  · rename_i i j ρ1 hn
    rw [hn]
    split at q
    · rename_i hb
      intro vs H1 hl r1
      obtain ⟨v, w, rfl⟩ := len2 hl
      have r1 : Rel Y.K c σ ρ1 ((w, .val (.int j)) :: (v, .val (.int i)) :: T) H1 := r1
      have hw := r1.intTop
      have hv := r1.pop.intTop
      subst hv hw
      exact ⟨i, j, rfl, hb, q _ [] _ walk_rng r1.pop2⟩
    · exact q.elim
  · exact q.elim
/-- what range asks of three numbers -/
def R3ok (i j k : Int) : Prop := k ≠ 0 ∧ k.natAbs < 1073741824 ∧ Builtin.Range.small i j k = true ∧ 0 ≤ Builtin.Range.rangeSize i j k
noncomputable instance (i j k : Int) : Decidable (R3ok i j k) := Classical.propDecidable _
noncomputable def mR3 (n : MA) : MI := fun ρ => match n ρ with
  | some ([.int i, .int j, .int k], ρ) => if R3ok i j k then some (rngCD i k (Builtin.Range.rangeSize i j k).toNat, ρ) else none
  | _ => none
theorem i_range3 {n : MA} (ha : JA Y [a, b, d0] n) (hm : Y.mg "range" = none) (hg : ∀ j, Gl (Y.X j) "range" := by intro _; rfl) (hs : ∀ j, starEach [a, b, d0] (Y.X j).env = (false, eval a (Y.X j).env) :: starEach [b, d0] (Y.X j).env := by intro _; rfl)
    (hpl : ∀ j, (backTo pos (starEach [b, d0] (Y.X j).env)).any (·.1) = false := by intro _; rfl) : JI Y tg (.Call (.Name "range" p) [a, b, d0] [] pos) (mR3 n) := by
  obtain ⟨t, pa, s⟩ := ha
  refine ⟨iRng3 t, fun j => pi_range3 (hg j) (by rw [Y.hmg j]; exact hm) (pa j) (hs j) (hpl j), fun c σ ρ T H R re q => s c σ ρ T H _ re ?_⟩
  unfold mR3 at q
  split at q
  · rename_i i j k ρ1 hn
    rw [hn]
    split at q
    · rename_i hb
      intro vs H1 hl r1
      obtain ⟨h1, r0⟩ := r1.tms hl
      cases h1 with
      | cons x1 t1 =>
        cases t1 with
        | cons x2 t2 =>
          cases t2 with
          | cons x3 t3 =>
            cases t3
            cases x1
            cases x2
            cases x3
            exact ⟨i, j, k, _, rfl, ⟨hb.1, hb.2.1, hb.2.2.1, by rw [Int.toNat_of_nonneg hb.2.2.2]⟩, q _ [] _ walk_rngC r0⟩
    · exact q.elim
  · exact q.elim
def mEnum (n : MA) : MI := fun ρ => match n ρ with
  | some ([.list ds], ρ) => some (enumD 0 ds, ρ)
  | _ => none
theorem i_enum {n : MA} {elts : List Expr} {kk : Nat} (ha : JA Y [e] n) (hm : Y.mg "enumerate" = none) (hg : ∀ j, Gl (Y.X j) "enumerate" := by intro _; rfl) (hs : ∀ j, starEach [e] (Y.X j).env = [(false, eval e (Y.X j).env)] := by intro _; rfl) : JI Y (.Tuple elts kk tpos) (.Call (.Name "enumerate" p) [e] [] pos) (mEnum n) := by
  obtain ⟨t, pa, s⟩ := ha
  refine ⟨iEnum Y.K t, fun j => by rw [← Y.hK j]; exact pi_enum (hg j) (by rw [Y.hmg j]; exact hm) (pa j) (hs j), fun c σ ρ T H R re q => s c σ ρ T H _ re ?_⟩
  unfold mEnum at q
  split at q
  · rename_i ds ρ1 hn
    rw [hn]
    intro vs H1 hl r1
    obtain ⟨v, rfl⟩ := len1 hl
    obtain ⟨F, fp, f⟩ := r1
    have f : RelF Y.K c σ ρ1 ((v, .val (.list ds)) :: T) H1 F fp := f
    obtain ⟨p, us, rfl, h1, h2⟩ := f.top.lstAt
    exact ⟨p, us, rfl, .inl (.inl (f.fh _ _ h1)), q _ _ _ walk_enum ⟨F, fp, f⟩⟩
  · exact q.elim
def mZip (n : MA) : MI := fun ρ => match n ρ with
  | some ([.list xs, .list ys], ρ) => some (zipD xs ys, ρ)
  | some ([.tuple xs, .tuple ys], ρ) => some (zipD xs ys, ρ)
  | _ => none
theorem i_zip {n : MA} {elts : List Expr} {kk : Nat} (ha : JA Y [e, e2] n) (hm : Y.mg "zip" = none) (hg : ∀ j, Gl (Y.X j) "zip" := by intro _; rfl) (hs : ∀ j, starEach [e, e2] (Y.X j).env = (false, eval e (Y.X j).env) :: starEach [e2] (Y.X j).env := by intro _; rfl)
    (hpl : ∀ j, (backTo pos (starEach [e2] (Y.X j).env)).any (·.1) = false := by intro _; rfl) : JI Y (.Tuple elts kk tpos) (.Call (.Name "zip" p) [e, e2] [] pos) (mZip n) := by
  obtain ⟨t, pa, s⟩ := ha
  refine ⟨RZ.iZipA Y.K t, fun j => by rw [← Y.hK j]; exact RZ.pi_zipA (hg j) (by rw [Y.hmg j]; exact hm) (pa j) (hs j) (hpl j), fun c σ ρ T H R re q => s c σ ρ T H _ re ?_⟩
  unfold mZip at q
  split at q
  · rename_i xs ys ρ1 hn
    rw [hn]
    intro vs H1 hl r1
    obtain ⟨v, w, rfl⟩ := len2 hl
    obtain ⟨F, fp, f⟩ := r1
    have f : RelF Y.K c σ ρ1 ((w, .val (.list ys)) :: (v, .val (.list xs)) :: T) H1 F fp := f
    obtain ⟨p, us, rfl, h1, h2⟩ := f.top.lstAt
    obtain ⟨p', us', rfl, g1, g2⟩ := f.popV.top.lstAt
    exact ⟨p', p, us', us, rfl, .inl ⟨.inl (.inl (f.fh _ _ g1)), .inl (.inl (f.fh _ _ h1)), q _ _ _ walk_zip ⟨F, fp, f⟩⟩⟩
  · rename_i xs ys ρ1 hn
    rw [hn]
    intro vs H1 hl r1
    obtain ⟨v, w, rfl⟩ := len2 hl
    obtain ⟨F, fp, f⟩ := r1
    have f : RelF Y.K c σ ρ1 ((w, .val (.tuple ys)) :: (v, .val (.tuple xs)) :: T) H1 F fp := f
    obtain ⟨p, us, rfl, h1, h2⟩ := f.top.tupAt
    obtain ⟨p', us', rfl, g1, g2⟩ := f.popV.top.tupAt
    exact ⟨p', p, us', us, rfl, .inr ⟨same_tup f.fh g1, same_tup f.fh h1, q _ _ _ walk_zipT ⟨F, fp, f⟩⟩⟩
  · exact q.elim
end
end Fj

set_option Elab.async false
set_option linter.all false
set_option maxRecDepth 100000
set_option maxHeartbeats 4000000
set_option autoImplicit false
/-! Targets, statements, loops, comprehensions, cells. -/
namespace Fj
open PySem PySem.Spec PyProof.Rows L2

/-! ### targets -/
theorem wipe_get (σ : L2.St) : ∀ (vs : List Nat) (j : Nat), (L2.wipe σ vs)[j]? = if j ∈ vs then (σ[j]?).map (fun _ => none) else σ[j]?
  | [], j => by simp [L2.wipe]
  | v :: vs, j => by
    unfold L2.wipe
    by_cases h : v = j
    · subst h
      rw [if_pos (List.mem_cons_self ..)]
      by_cases hl : v < (L2.wipe σ vs).length
      · rw [List.getElem?_set_self hl]
        rw [wipe_length] at hl
        rw [List.getElem?_eq_getElem hl]
        rfl
      · rw [List.getElem?_eq_none (by rw [List.length_set]; omega)]
        rw [wipe_length] at hl
        rw [List.getElem?_eq_none (by omega)]
        rfl
    · rw [List.getElem?_set_ne h, wipe_get σ vs j]
      have e : (j ∈ v :: vs) ↔ j ∈ vs := by
        rw [List.mem_cons]
        exact ⟨fun z => z.elim (fun z => absurd z.symm h) id, .inr⟩
      by_cases hj : j ∈ vs
      · rw [if_pos hj, if_pos (e.mpr hj)]
      · rw [if_neg hj, if_neg fun z => hj (e.mp z)]
theorem wipe_set {σ : L2.St} {vs : List Nat} {i : Nat} {x : Option V} (h : i ∈ vs) : L2.wipe (σ.set i x) vs = L2.wipe σ vs := by
  refine List.ext_getElem? fun j => ?_
  rw [wipe_get, wipe_get]
  by_cases hj : j ∈ vs
  · rw [if_pos hj, if_pos hj]
    by_cases e : i = j
    · subst e
      by_cases hl : i < σ.length
      · rw [List.getElem?_set_self hl, List.getElem?_eq_getElem hl]
        rfl
      · rw [List.set_eq_of_length_le (by omega)]
    · rw [List.getElem?_set_ne e]
  · rw [if_neg hj, if_neg hj]
    rw [List.getElem?_set_ne fun e => hj (by rw [← e]; exact h)]
abbrev MG := PyData → En → Option En
def PostG (K : PySem.W.Frag) (c : Ct) (σ : L2.St) (T : Tm) (sl : List Nat) (r : Option En) (Q : L2.St → Hp → Prop) : Prop := match r with
  | none => False
  | some ρ => ∀ σ' H, Rel K c σ' ρ T H → (∀ vs : List Nat, (∀ i ∈ sl, i ∈ vs) → L2.wipe σ' vs = L2.wipe σ vs) → Q σ' H
def SemG (K : PySem.W.Frag) (g : TG) (m : MG) (sl : List Nat) : Prop := ∀ (c : Ct) (σ : L2.St) (ρ : En) (T : Tm) (H : Hp) (x : V) (d : PyData) (Q : L2.St → Hp → Prop), Rel K c σ ρ ((x, .val d) :: T) H → PostG K c σ T sl (m d ρ) Q → g x σ H Q
def JG (Y : Fam) (tg : Expr) (m : MG) (sl : List Nat) : Prop := ∃ g, (∀ i, PG (Y.X i) tg g) ∧ SemG Y.K g m sl
def mN (i : Nat) : MG := fun d ρ => if freeE ρ i = true then some (ρ.set i (.val d)) else none
def tmf (vs : List V) (ds : List PyData) : Tm := vs.zip (ds.map Ent.val)
def SemGs (K : PySem.W.Frag) (g : TGs) (m : List PyData → En → Option En) (sl : List Nat) : Prop := ∀ (c : Ct) (σ : L2.St) (ρ : En) (T : Tm) (H : Hp) (xs : List V) (ds : List PyData) (Q : L2.St → Hp → Prop), xs.length = ds.length → Rel K c σ ρ (tmf xs ds ++ T) H → PostG K c σ T sl (m ds ρ) Q → g xs σ H Q
def JGs (Y : Fam) (ts : List Expr) (m : List PyData → En → Option En) (sl : List Nat) : Prop := ∃ g, (∀ i, PGs (Y.X i) ts g) ∧ SemGs Y.K g m sl
def mN0 : List PyData → En → Option En := fun ds ρ => match ds with
  | [] => some ρ
  | _ => none
def mN1 (m : MG) (n : List PyData → En → Option En) : List PyData → En → Option En := fun ds ρ => match ds with
  | d :: ds => (m d ρ).bind fun ρ => n ds ρ
  | [] => none
def mTupG (k : Nat) (n : List PyData → En → Option En) : MG := fun d ρ => match d with
  | .tuple ds => if ds.length = k then n ds ρ else none
  | .list ds => if ds.length = k then n ds ρ else none
  | _ => none
section
variable {Y : Fam} {pos : Pos}
theorem g_name (i : Nat) {x : Str} (hi : ∀ j, (Y.X j).N[i]? = some x := by intro _; rfl) (hN : ∀ j, (Y.X j).N.Nodup := by assumption) (hx : ∀ j, Loc (Y.X j).env.scope x := by first | exact fun _ => Or.inl rfl | exact fun _ => Or.inr rfl)
    (hf : ∀ j, (Y.X j).fn x = true ∨ (Y.X j).env.scope.names.lookup x = some .local := by first | exact fun _ => .inl rfl | exact fun _ => .inr rfl) : JG Y (.Name x pos) (mN i) [i] := by
  refine ⟨gName i, fun j => pg_name (hN j) (hi j) (hx j) (hf j), fun c σ ρ T H x d Q r q => ?_⟩
  unfold mN at q
  split at q
  · rename_i h
    exact q _ _ (r.put h) fun vs hv => wipe_set (hv i (List.mem_singleton.mpr rfl))
  · exact q.elim
theorem gs_nil : JGs Y [] mN0 [] := by
  refine ⟨gNil, fun j => pgs_nil, fun c σ ρ T H xs ds Q hl r q => ?_⟩
  unfold mN0 at q
  split at q
  · have : xs = [] := List.eq_nil_of_length_eq_zero hl
    subst this
    exact ⟨rfl, q _ _ r fun _ _ => rfl⟩
  · exact q.elim
theorem gs_cons {t : Expr} {ts : List Expr} {m : MG} {n : List PyData → En → Option En} {s1 s2 : List Nat} (h : JG Y t m s1) (g : JGs Y ts n s2) (hq : ∀ j, (assignEach (t :: ts) (Y.X j).env).map (·.2) = assign t (Y.X j).env :: (assignEach ts (Y.X j).env).map (·.2) := by intro _; rfl) : JGs Y (t :: ts) (mN1 m n) (s1 ++ s2) := by
  obtain ⟨u, p, s⟩ := h
  obtain ⟨u', p', s'⟩ := g
  refine ⟨gCons u u', fun j => pgs_cons (p j) (p' j) (hq j), fun c σ ρ T H xs ds Q hl r q => ?_⟩
  unfold mN1 at q
  split at q
  · rename_i d ds
    cases xs with
    | nil => cases hl
    | cons x xs =>
      refine ⟨x, xs, rfl, s c σ ρ (tmf xs ds ++ T) H x d _ r ?_⟩
      cases hm : m d ρ with
      | none =>
        rw [hm] at q
        exact q
      | some ρ1 =>
        rw [hm] at q
        intro σ1 H1 r1 w1
        refine s' c σ1 ρ1 T H1 xs ds Q (Nat.succ.inj hl) r1 ?_
        have q : PostG Y.K c σ T (s1 ++ s2) (n ds ρ1) Q := q
        cases hn : n ds ρ1 with
        | none =>
          rw [hn] at q
          exact q
        | some ρ2 =>
          rw [hn] at q
          exact fun σ2 H2 r2 w2 => q σ2 H2 r2 fun vs hv => (w2 vs fun i hi => hv i (List.mem_append_right _ hi)).trans (w1 vs fun i hi => hv i (List.mem_append_left _ hi))
  · exact q.elim
theorem RelF.pushAll {K : PySem.W.Frag} {c : Ct} {σ : L2.St} {ρ : En} {T : Tm} {H F : Hp} {fp : List Addr} (r : RelF K c σ ρ T H F fp) : ∀ {vs : List V} {ds : List PyData}, Rps K F vs ds → RelF K c σ ρ (tmf vs ds ++ T) H F fp
  | [], [], .nil => r
  | v :: vs, d :: ds, .cons h t => (RelF.pushAll r t).push h
theorem pg_or {X : Cx} {t : Expr} {g g' : TG} (h : PG X t g) (k : PG X t g') : PG X t (fun v σ H Q => g v σ H Q ∨ g' v σ H Q) := ⟨fun pins s σ H v u Q I r z => z.elim (h.run pins s σ H v u Q I r) (k.run pins s σ H v u Q I r)⟩
theorem g_tup {es : List Expr} {k k0 : Nat} {n : List PyData → En → Option En} {sl : List Nat} (h : JGs Y es n sl) (hn : ∀ j, (assignEach es (Y.X j).env).length = k := by intro _; rfl) (hst : ∀ j, (assignEach es (Y.X j).env).findIdx? (·.1) = none := by intro _; rfl) : JG Y (.Tuple es k0 pos) (mTupG k n) sl := by
  obtain ⟨u, p, s⟩ := h
  refine ⟨fun v σ H Q => gTup Y.K k u v σ H Q ∨ gUnl Y.K k u v σ H Q, fun j => by rw [← Y.hK j]; exact pg_or (pg_tup (Y.calm j) (p j) (hn j) (hst j)) (pg_unl (Y.calm j) (p j) (hn j) (hst j)), fun c σ ρ T H x d Q r q => ?_⟩
  unfold mTupG at q
  split at q
  · split at q
    · rename_i hk
      obtain ⟨F, fp, f⟩ := r
      obtain ⟨a, us, rfl, h1, h2⟩ := f.top.tupAt
      exact .inl ⟨a, us, rfl, same_tup f.fh h1, by rw [h2.length]; exact hk, s c σ ρ T H us _ Q h2.length ⟨F, fp, f.popV.pushAll h2⟩ q⟩
    · exact q.elim
  · split at q
    · rename_i hk
      obtain ⟨F, fp, f⟩ := r
      obtain ⟨a, us, rfl, h1, h2⟩ := f.top.lstAt
      exact .inr ⟨a, us, rfl, .inl (.inl (f.fh _ _ h1)), by rw [h2.length]; exact hk, s c σ ρ T H us _ Q h2.length ⟨F, fp, f.popV.pushAll h2⟩ q⟩
    · exact q.elim
  · exact q.elim
end

/-! ### statements -/
inductive Fl where
  | nx (ρ : En)
  | rt (e : Ent) (ρ : En)
  | bk (ρ : En)
  | ct (ρ : En)
abbrev MS := En → Option Fl
def PostS (K : PySem.W.Frag) (c : Ct) (T : Tm) (D : Ends) (r : Option Fl) : Prop := match r with
  | none => False
  | some (.nx ρ) => ∀ σ H, Rel K c σ ρ T H → D.nx σ H
  | some (.rt e ρ) => ∀ σ v H, Rel K c σ ρ ((v, e) :: T) H → D.rt v H
  | some (.bk ρ) => ∀ σ H, Rel K c σ ρ T H → D.bk σ H
  | some (.ct ρ) => ∀ σ H, Rel K c σ ρ T H → D.ct σ H
def SemS (K : PySem.W.Frag) (t : TS) (m : MS) : Prop := ∀ (c : Ct) (σ : L2.St) (ρ : En) (T : Tm) (H : Hp) (D : Ends), Rel K c σ ρ T H → PostS K c T D (m ρ) → t D σ H
def JS (Y : Fam) (st : Stmt) (m : MS) : Prop := ∃ t, (∀ i, PS (Y.X i) st t) ∧ SemS Y.K t m
def JB (Y : Fam) (sts : List Stmt) (m : MS) : Prop := ∃ t, (∀ i, PSs (Y.X i) sts t) ∧ SemS Y.K t m
def mNx : MS := fun ρ => some (.nx ρ)
def mSeq (m n : MS) : MS := fun ρ => match m ρ with
  | some (.nx ρ) => n ρ
  | r => r
section
variable {Y : Fam} {pos : Pos} {e : Expr} {st : Stmt} {sts : List Stmt}
theorem b_nil : JB Y [] mNx := ⟨tNext, fun _ => pss_nil, fun _ σ _ _ H _ r q => q σ H r⟩
theorem b_cons {m n : MS} (h : JS Y st m) (g : JB Y sts n) : JB Y (st :: sts) (mSeq m n) := by
  obtain ⟨t, p, s⟩ := h
  obtain ⟨u, p', s'⟩ := g
  refine ⟨tSeq t u, fun j => pss_cons (p j) (p' j), fun c σ ρ T H D r q => s c σ ρ T H _ r ?_⟩
  unfold mSeq at q
  cases hm : m ρ with
  | none =>
    rw [hm] at q
    exact q
  | some f =>
    rw [hm] at q
    cases f with
    | nx ρ1 => exact fun σ1 H1 r1 => s' c σ1 ρ1 T H1 D r1 q
    | rt e ρ1 => exact q
    | bk ρ1 => exact q
    | ct ρ1 => exact q
theorem b_one {m : MS} (h : JS Y st m) : JB Y [st] m := by
  obtain ⟨t, p, s⟩ := h
  exact ⟨t, fun j => pss_one (p j), s⟩
/-- from here on a slot's list is data -/
def frz (i : Nat) (ρ : En) : En := match ρ[i]? with
  | some (.own true (.lst ds)) => ρ.set i (.val (.list ds))
  | _ => ρ
def mFrz (i : Nat) (m : MS) : MS := fun ρ => m (frz i ρ)
theorem Rel.frz {K : PySem.W.Frag} {c : Ct} {σ : L2.St} {ρ : En} {T : Tm} {H : Hp} {i : Nat} (r : Rel K c σ ρ T H) : Rel K c σ (Fj.frz i ρ) T H := by
  unfold Fj.frz
  split
  · rename_i ds he
    obtain ⟨v, hv⟩ := r.ownv he
    have r1 := (r.take hv he).freeze
    have r2 := r1.back hv fun w z => by
      have := r.pinned z he
      cases this
    rw [List.set_set] at r2
    exact r2
  · exact r
theorem b_frz (i : Nat) {m : MS} (h : JB Y sts m) : JB Y sts (mFrz i m) := by
  obtain ⟨t, p, s⟩ := h
  exact ⟨t, p, fun c σ ρ T H D r q => s c σ _ T H D r.frz q⟩
def mAsg (m : MV) (g : MG) : MS := fun ρ => match m ρ with
  | none => none
  | some (d, ρ) => (g d ρ).map .nx
theorem s_asg {tg : Expr} {m : MV} {g : MG} {sl : List Nat} (h : JV Y e m) (k : JG Y tg g sl) (hs : ∀ j, swapsWithSole [tg] e pos.line (Y.X j).env = pure false := by intro _; rfl) (hw : ∀ j, swappedStores [tg] e (Y.X j).env = pure none := by intro _; rfl) (h1 : ∀ j, (assignEach [tg] (Y.X j).env).map (·.2) = [assign tg (Y.X j).env] := by intro _; rfl) : JS Y (.Assign [tg] e pos) (mAsg m g) := by
  obtain ⟨t, p, s⟩ := h
  obtain ⟨u, p', s'⟩ := k
  refine ⟨tAsg t u, fun j => ps_asg (p j) (p' j) (hs j) (hw j) (h1 j), fun c σ ρ T H D r q => s c σ ρ T H _ r ?_⟩
  unfold mAsg at q
  cases hm : m ρ with
  | none =>
    rw [hm] at q
    exact q
  | some z =>
    obtain ⟨d, ρ1⟩ := z
    rw [hm] at q
    intro v H1 r1
    refine s' c σ ρ1 T H1 v d _ r1 ?_
    simp only at q
    cases hg : g d ρ1 with
    | none =>
      rw [hg] at q
      exact q
    | some ρ2 =>
      rw [hg] at q
      exact fun σ2 H2 r2 _ => q σ2 H2 r2
/-- a name becomes an owned cell -/
def mOwn (m : MO) (i : Nat) : MS := fun ρ => match m ρ with
  | none => none
  | some (e, ρ) => if freeE ρ i = true then some (.nx (ρ.set i e)) else none
theorem sem_own {K : PySem.W.Frag} {t : TE} {m : MO} {i : Nat} (s : SemO K t m) : SemS K (tAsg t (gName i)) (mOwn m i) := fun c σ ρ T H D r q => by
  refine s c σ ρ T H _ r ?_
  unfold mOwn at q
  cases hm : m ρ with
  | none =>
    rw [hm] at q
    exact q
  | some z =>
    obtain ⟨d, ρ1⟩ := z
    rw [hm] at q
    intro v H1 r1
    simp only at q
    split at q
    · rename_i hf
      exact q _ _ (r1.put hf)
    · exact q.elim
theorem s_own (i : Nat) {x : Str} {m : MO} {pos' : Pos} (h : JO Y e m) (hi : ∀ j, (Y.X j).N[i]? = some x := by intro _; rfl) (hN : ∀ j, (Y.X j).N.Nodup := by assumption) (hx : ∀ j, Loc (Y.X j).env.scope x := by first | exact fun _ => Or.inl rfl | exact fun _ => Or.inr rfl)
    (hf : ∀ j, (Y.X j).fn x = true ∨ (Y.X j).env.scope.names.lookup x = some .local := by first | exact fun _ => .inl rfl | exact fun _ => .inr rfl) (hs : ∀ j, swapsWith e (some (.Name x pos')) pos.line (Y.X j).env = pure false := by intro _; rfl) : JS Y (.Assign [.Name x pos'] e pos) (mOwn m i) := by
  obtain ⟨t, p, s⟩ := h
  exact ⟨_, fun j => ps_set (hN j) (hi j) (hx j) (p j) (hs j) (hf j), sem_own s⟩
def mRet (m : MO) : MS := fun ρ => (m ρ).map fun p => .rt p.1 p.2
theorem s_ret {m : MO} (h : JO Y e m) : JS Y (.Return (some e) pos) (mRet m) := by
  obtain ⟨t, p, s⟩ := h
  refine ⟨tRet t, fun j => ps_ret (p j), fun c σ ρ T H D r q => s c σ ρ T H _ r ?_⟩
  unfold mRet at q
  cases hm : m ρ with
  | none =>
    rw [hm] at q
    exact q
  | some z =>
    rw [hm] at q
    exact fun v H1 r1 => q σ v H1 r1
/-- a name given up: its cell is handed on -/
def mMove (i : Nat) : MO := fun ρ => match ρ[i]? with
  | some (.val d) => some (.val d, ρ)
  | some (.own true ce) => some (.own true ce, ρ.set i .lent)
  | _ => none
theorem j_move (i : Nat) {x : Str} (hN : ∀ j, (Y.X j).N[i]? = some x := by intro _; rfl) (hv : ∀ j, Vis (Y.X j).env.scope x := by first | exact fun _ => Or.inl rfl | exact fun _ => Or.inr (Or.inl rfl) | exact fun _ => Or.inr (Or.inr rfl)) (hd : (x == ("__debug__" : Str)) = false := by decide)
    (hcd : (x == ("__classdict__" : Str)) = false := by decide) : JO Y (.Name x pos) (mMove i) := by
  refine ⟨tVar i, fun j => pe_var (hN j) (hv j) hd hcd, fun c σ ρ T H Q r q => ?_⟩
  unfold mMove at q
  split at q
  · rename_i d he
    obtain ⟨v, hv, r1⟩ := r.slot he
    exact ⟨v, hv, q v H r1⟩
  · rename_i ce he
    obtain ⟨v, hv⟩ := r.ownv he
    exact ⟨v, hv, q v H (r.take hv he)⟩
  · exact q.elim
def mDrop (m : MO) : MS := fun ρ => (m ρ).map fun p => .nx p.2
theorem s_expr {m : MO} (h : JO Y e m) (hs : ∀ j, swapsWith e none pos.line (Y.X j).env = pure false := by intro _; rfl) : JS Y (.Expr e pos) (mDrop m) := by
  obtain ⟨t, p, s⟩ := h
  refine ⟨tDrop t, fun j => ps_expr (p j) (hs j), fun c σ ρ T H D r q => s c σ ρ T H _ r ?_⟩
  unfold mDrop at q
  cases hm : m ρ with
  | none =>
    rw [hm] at q
    exact q
  | some z =>
    rw [hm] at q
    exact fun v H1 r1 => q σ H1 r1.pop
theorem s_if {c0 : Expr} {t : MT} {m n : MS} {s1 s2 : List Stmt} (hc : JT Y c0 t) (ha : JB Y s1 m) (hb : JB Y s2 n) : JS Y (.If c0 s1 s2 pos) (mIf t m n) := by
  obtain ⟨tt, p, s⟩ := hc
  obtain ⟨ta, pa, sa⟩ := ha
  obtain ⟨tb, pb, sb⟩ := hb
  refine ⟨tIfS tt ta tb, fun i => ps_if (p i) (pa i) (pb i), fun c σ ρ T H D re q => s c σ ρ T H _ re ?_⟩
  unfold mIf at q
  cases hm : t ρ with
  | none =>
    rw [hm] at q
    exact q
  | some z =>
    obtain ⟨k, ρ1⟩ := z
    rw [hm] at q
    cases k with
    | true =>
      intro H1 r1
      rw [if_pos rfl]
      exact sa c σ ρ1 T H1 D r1 q
    | false =>
      intro H1 r1
      rw [if_neg Bool.false_ne_true]
      exact sb c σ ρ1 T H1 D r1 q
def mBad : MS := fun _ => none
theorem s_never : JS Y st mBad := ⟨tNever, fun _ => ps_never, fun _ _ _ _ _ _ _ q => q⟩
theorem b_never : JB Y sts mBad := ⟨tNever, fun _ => pss_never, fun _ _ _ _ _ _ _ q => q⟩
theorem s_pass : JS Y (.Pass pos) mNx := ⟨tNext, fun _ => ps_pass, fun _ σ _ _ H _ r q => q σ H r⟩
theorem s_brk : JS Y (.Break pos) (fun ρ => some (.bk ρ)) := ⟨tBreak, fun _ => ps_break, fun _ σ _ _ H _ r q => q σ H r⟩
theorem s_cont : JS Y (.Continue pos) (fun ρ => some (.ct ρ)) := ⟨tCont, fun _ => ps_continue, fun _ σ _ _ H _ r q => q σ H r⟩
/-! ### loops -/
def forL (g : MG) (m : MS) : List PyData → MS
  | [], ρ => some (.nx ρ)
  | d :: ds, ρ => match g d ρ with
    | none => none
    | some ρ => match m ρ with
      | some (.nx ρ) => forL g m ds ρ
      | some (.ct ρ) => forL g m ds ρ
      | some (.bk ρ) => some (.nx ρ)
      | some (.rt e ρ) => some (.rt e ρ)
      | none => none
def mFor (n : MI) (g : MG) (m : MS) : MS := fun ρ => match n ρ with
  | none => none
  | some (ds, ρ) => forL g m ds ρ
theorem PostS.drop {K : PySem.W.Frag} {c : Ct} {S T : Tm} {D : Ends} {r : Option Fl} (q : PostS K c T D r) (h : ∀ e ρ σ v H, r = some (.rt e ρ) → Rel K c σ ρ ((v, e) :: (S ++ T)) H → Rel K c σ ρ ((v, e) :: T) H) : PostS K c (S ++ T) D r := by
  cases r with
  | none => exact q
  | some f =>
    cases f with
    | nx ρ => exact fun σ H r => q σ H r.drop
    | rt e ρ => exact fun σ v H r => q σ v H (h e ρ σ v H rfl r)
    | bk ρ => exact fun σ H r => q σ H r.drop
    | ct ρ => exact fun σ H r => q σ H r.drop
theorem Rel.dropUnder {K : PySem.W.Frag} {c : Ct} {σ : L2.St} {ρ : En} {S T : Tm} {H : Hp} {p : V × Ent} (r : Rel K c σ ρ (p :: (S ++ T)) H) : Rel K c σ ρ (p :: T) H := by
  have q : Rel K c σ ρ (S ++ (p :: T)) H := r.perm List.perm_middle.symm
  exact q.drop
theorem sem_for {K : PySem.W.Frag} {wi : TI} {g : TG} {t : TS} {n : MI} {mg : MG} {m : MS} {sl : List Nat} (sI : SemI K wi n) (sG : SemG K g mg sl) (sB : SemS K t m) : SemS K (tFor wi g t) (mFor n mg m) := fun c σ ρ T H D r q => by
  refine sI c σ ρ T H _ r ?_
  unfold mFor at q
  cases hn : n ρ with
  | none =>
    rw [hn] at q
    exact q
  | some z =>
    obtain ⟨ds, ρ1⟩ := z
    rw [hn] at q
    simp only at q
    intro J Tk H1 W r1
    refine ⟨fun i k σ' H' => k = ds.length - i ∧ i ≤ ds.length ∧ ∃ ρ' : En, Rel K c σ' ρ' (Tk ++ T) H' ∧ PostS K c T D (forL mg m (ds.drop i) ρ'), ⟨ds.length, by simp, Nat.zero_le _, ρ1, r1, by simpa using q⟩, ?_⟩
    rintro i k σ' H' ⟨rfl, hi, ρ', r', q'⟩
    by_cases hlt : i < ds.length
    · obtain ⟨hgo, hy⟩ := (W σ' ρ' T H' r' i).1 ds[i] (List.getElem?_eq_getElem hlt)
      refine .inr ⟨hgo, fun σ2 H2 => ∃ ρ2 : En, Rel K c σ2 ρ2 (Tk ++ T) H2 ∧ PostS K c T D (forL mg m (ds.drop (i + 1)) ρ2), fun σ2 H2 ⟨ρ2, r2, q2⟩ => ⟨ds.length - (i + 1), by omega, rfl, hlt, ρ2, r2, q2⟩, fun x H2 y => ?_⟩
      have r2 := hy x H2 y
      refine sG c σ' ρ' (Tk ++ T) H2 x ds[i] _ r2 ?_
      rw [List.drop_eq_getElem_cons hlt] at q'
      unfold forL at q'
      cases hg : mg ds[i] ρ' with
      | none =>
        rw [hg] at q'
        exact q'
      | some ρ3 =>
        rw [hg] at q'
        simp only at q'
        intro σ3 H3 r3 _
        refine sB c σ3 ρ3 (Tk ++ T) H3 _ r3 ?_
        cases hm : m ρ3 with
        | none =>
          rw [hm] at q'
          exact q'
        | some f =>
          rw [hm] at q'
          cases f with
          | nx ρ4 => exact fun σ4 H4 r4 => ⟨ρ4, r4, q'⟩
          | ct ρ4 => exact fun σ4 H4 r4 => ⟨ρ4, r4, q'⟩
          | bk ρ4 => exact fun σ4 H4 r4 => q' σ4 H4 r4.drop
          | rt e ρ4 => exact fun σ4 v H4 r4 => q' σ4 v H4 r4.dropUnder
    · have e : i = ds.length := by omega
      subst e
      rw [List.drop_length] at q'
      exact .inl ⟨(W σ' ρ' T H' r' ds.length).2 (Nat.le_refl _), q' σ' H' r'.drop⟩
theorem s_for {tg iter : Expr} {body : List Stmt} {n : MI} {g : MG} {m : MS} {sl : List Nat} (hi : JI Y tg iter n) (hg : JG Y tg g sl) (hb : JB Y body m) (hp : ∀ j, PassesOwn (model (Y.X j).prog (Y.X j).w) (Y.X j).A (Y.X j).env (Y.X j).xe := by exact fun _ => PassesOwn.never) (hfs : ∀ j x, foldedSetIterable iter (Y.X j).env x = pure x := by intro _ _; rfl) : JS Y (.For tg iter body [] pos) (mFor n g m) := by
  obtain ⟨wi, p1, s1⟩ := hi
  obtain ⟨u, p2, s2⟩ := hg
  obtain ⟨t, p3, s3⟩ := hb
  exact ⟨tFor wi u t, fun j => ps_for (hp j) (Y.calm j) (p1 j) (p2 j) (p3 j) (hfs j), sem_for s1 s2 s3⟩
def whileL (t : MT) (m : MS) : Nat → MS
  | 0, _ => none
  | k + 1, ρ => match t ρ with
    | none => none
    | some (false, ρ) => some (.nx ρ)
    | some (true, ρ) => match m ρ with
      | some (.nx ρ) => whileL t m k ρ
      | some (.ct ρ) => whileL t m k ρ
      | some (.bk ρ) => some (.nx ρ)
      | some (.rt e ρ) => some (.rt e ρ)
      | none => none
theorem s_while (N : Nat) {c0 : Expr} {body : List Stmt} {t : MT} {m : MS} (hc : JT Y c0 t) (hb : JB Y body m) (hp : ∀ j, PassesOwn (model (Y.X j).prog (Y.X j).w) (Y.X j).A (Y.X j).env (Y.X j).xe := by exact fun _ => PassesOwn.never) : JS Y (.While c0 body [] pos) (whileL t m N) := by
  obtain ⟨tc, p1, s1⟩ := hc
  obtain ⟨tb, p2, s2⟩ := hb
  refine ⟨tWhile tc tb, fun j => ps_while (hp j) (p1 j) (p2 j), fun c σ ρ T H D r q => ?_⟩
  refine ⟨fun k σ' H' => ∃ ρ' : En, Rel Y.K c σ' ρ' T H' ∧ PostS Y.K c T D (whileL t m k ρ'), ⟨N, ρ, r, q⟩, ?_⟩
  rintro k σ' H' ⟨ρ', r', q'⟩
  cases k with
  | zero => exact q'.elim
  | succ k =>
    refine s1 c σ' ρ' T H' _ r' ?_
    unfold whileL at q'
    cases hm : t ρ' with
    | none =>
      rw [hm] at q'
      exact q'
    | some z =>
      obtain ⟨b, ρ1⟩ := z
      rw [hm] at q'
      cases b with
      | false =>
        intro H1 r1
        rw [if_neg Bool.false_ne_true]
        exact q' σ' H1 r1
      | true =>
        intro H1 r1
        rw [if_pos rfl]
        refine ⟨fun σ2 H2 => ∃ ρ2 : En, Rel Y.K c σ2 ρ2 T H2 ∧ PostS Y.K c T D (whileL t m k ρ2), fun σ2 H2 ⟨ρ2, r2, q2⟩ => ⟨k, by omega, ρ2, r2, q2⟩, ?_⟩
        refine s2 c σ' ρ1 T H1 _ r1 ?_
        simp only at q'
        cases hb : m ρ1 with
        | none =>
          rw [hb] at q'
          exact q'
        | some f =>
          rw [hb] at q'
          cases f with
          | nx ρ4 => exact fun σ4 H4 r4 => ⟨ρ4, r4, q'⟩
          | ct ρ4 => exact fun σ4 H4 r4 => ⟨ρ4, r4, q'⟩
          | bk ρ4 => exact fun σ4 H4 r4 => q' σ4 H4 r4
          | rt e ρ4 => exact fun σ4 v H4 r4 => q' σ4 v H4 r4
end
end Fj

set_option Elab.async false
set_option linter.all false
set_option maxRecDepth 100000
set_option maxHeartbeats 4000000
set_option autoImplicit false
/-! Comprehensions; lists and decks that a def owns; stores of several names. -/
namespace Fj
open PySem PySem.Spec PyProof.Rows L2

def wipeE (ρ : En) : List Nat → En
  | [] => ρ
  | v :: vs => (wipeE ρ vs).set v .no
theorem wipeE_get (ρ : En) : ∀ (vs : List Nat) (j : Nat), (wipeE ρ vs)[j]? = if j ∈ vs then (ρ[j]?).map (fun _ => .no) else ρ[j]?
  | [], j => by simp [wipeE]
  | v :: vs, j => by
    have hlen : ∀ vs : List Nat, (wipeE ρ vs).length = ρ.length := fun vs => by
      induction vs with
      | nil => rfl
      | cons v vs ih => rw [wipeE, List.length_set, ih]
    unfold wipeE
    by_cases h : v = j
    · subst h
      rw [if_pos (List.mem_cons_self ..)]
      by_cases hl : v < (wipeE ρ vs).length
      · rw [List.getElem?_set_self hl]
        rw [hlen] at hl
        rw [List.getElem?_eq_getElem hl]
        rfl
      · rw [List.getElem?_eq_none (by rw [List.length_set]; omega)]
        rw [hlen] at hl
        rw [List.getElem?_eq_none (by omega)]
        rfl
    · rw [List.getElem?_set_ne h, wipeE_get ρ vs j]
      have e : (j ∈ v :: vs) ↔ j ∈ vs := by
        rw [List.mem_cons]
        exact ⟨fun z => z.elim (fun z => absurd z.symm h) id, .inr⟩
      by_cases hj : j ∈ vs
      · rw [if_pos hj, if_pos (e.mpr hj)]
      · rw [if_neg hj, if_neg fun z => hj (e.mp z)]
section
variable {K : PySem.W.Frag} {c : Ct} {σ : L2.St} {ρ : En} {T : Tm} {H : Hp}
theorem Rel.clear {i : Nat} (r : Rel K c σ ρ T H) (hf : freeE ρ i = true) : Rel K c (σ.set i none) (ρ.set i .no) T H := by
  obtain ⟨F, fp, r⟩ := r
  have hpin : ∀ (j : Nat) (w : V), c.pins[j]? = some (some w) → (σ.set i none)[j]? = some (some w) ∧ ∃ e0 : Ent, (ρ.set i .no)[j]? = some e0 ∧ pinE e0 = true := fun j w z => by
    obtain ⟨z1, e0, z2, z3⟩ := r.pin j w z
    by_cases hj : i = j
    · subst hj
      unfold freeE at hf
      rw [z2] at hf
      simp only [z3, Bool.not_true] at hf
      cases hf
    · rw [List.getElem?_set_ne hj, List.getElem?_set_ne hj]
      exact ⟨z1, e0, z2, z3⟩
  by_cases hi : i < σ.length
  · obtain ⟨f1, fo, f2, e2, f3, f4⟩ := Slots.place (i := T.length + i) r.sl (x := (σ[i], ρ[i]'(r.len ▸ hi))) (by
      rw [List.getElem?_append_right (by simp [tmp])]
      simp only [tmp, List.length_map, Nat.add_sub_cancel_left]
      exact zip_at (List.getElem?_eq_getElem hi) (List.getElem?_eq_getElem _))
    subst e2
    have z := f4 F H (none, .no) [] (fun _ _ z => z) (fun _ _ => rfl) (.no _)
    rw [List.set_append_right _ _ (by simp [tmp])] at z
    simp only [tmp, List.length_map, Nat.add_sub_cancel_left, ← zip_set', List.nil_append] at z
    have sub : (f1 ++ f2).Sublist (f1 ++ (fo ++ f2)) := List.Sublist.append_left (List.sublist_append_right _ _) _
    exact ⟨F, f1 ++ f2, r.f0, r.fh, r.new, r.keep, r.trk, z, r.nd.sublist sub, fun a ha => r.own a (sub.mem ha), by rw [List.length_set, List.length_set]; exact r.len, hpin⟩
  · have hρ : ¬ i < ρ.length := by rw [← r.len]; exact hi
    rw [List.set_eq_of_length_le (by omega), List.set_eq_of_length_le (by omega)]
    exact ⟨F, fp, r⟩
theorem freeE_wipe {vs : List Nat} {i : Nat} (hf : freeE ρ i = true) : freeE (wipeE ρ vs) i = true := by
  unfold freeE at hf ⊢
  rw [wipeE_get]
  by_cases h : i ∈ vs
  · rw [if_pos h]
    cases ρ[i]? <;> rfl
  · rw [if_neg h]
    exact hf
theorem Rel.wiped (r : Rel K c σ ρ T H) : ∀ {vs : List Nat}, (∀ i ∈ vs, freeE ρ i = true) → Rel K c (L2.wipe σ vs) (wipeE ρ vs) T H
  | [], _ => r
  | v :: vs, h => (Rel.wiped r fun i hi => h i (List.mem_cons_of_mem _ hi)).clear (freeE_wipe (h v (List.mem_cons_self ..)))
theorem Slots.resig {F : Hp} : ∀ {σ1 σ2 : L2.St} {ρ : En} {fp : List Addr}, σ2.length = σ1.length → (∀ j : Nat, σ2[j]? = σ1[j]? ∨ ρ[j]? = some .no) → Slots K c F H (σ1.zip ρ) fp → Slots K c F H (σ2.zip ρ) fp
  | [], σ2, ρ, fp, hl, _, h => by
    have : σ2 = [] := List.eq_nil_of_length_eq_zero hl
    subst this
    exact h
  | s :: σ1, [], ρ, fp, hl, _, h => by cases hl
  | s :: σ1, u :: σ2, [], fp, hl, hj, h => h
  | s :: σ1, u :: σ2, e :: ρ, fp, hl, hj, h => by
    have h0 : Slots K c F H ((s, e) :: σ1.zip ρ) fp := h
    clear h
    cases h0 with
    | @cons _ fc fq _ h1 t1 =>
      have t' := Slots.resig (Nat.succ.inj hl) (fun j => hj (j + 1)) t1
      refine Slots.cons (fc := fc) ?_ t'
      rcases hj 0 with z | z
      · have z' : some u = some s := z
        cases z'
        exact h1
      · have z' : some e = some Ent.no := z
        cases z'
        generalize hs : ((s, Ent.no) : Option V × Ent) = y at h1
        cases h1 with
        | no x => exact .no _
        | val r => cases hs
        | own r h => cases hs
        | scr h w => cases hs
        | lent x => cases hs
theorem Rel.resig {σ2 : L2.St} (r : Rel K c σ ρ T H) (hl : σ2.length = σ.length) (hj : ∀ j : Nat, σ2[j]? = σ[j]? ∨ ρ[j]? = some .no) : Rel K c σ2 ρ T H := by
  obtain ⟨F, fp, r⟩ := r
  obtain ⟨f1, f2, e, s1, s2⟩ := Slots.split r.sl
  subst e
  refine ⟨F, f1 ++ f2, r.f0, r.fh, r.new, r.keep, r.trk, s1.app (s2.resig hl hj), r.nd, r.own, hl.trans r.len, fun j w z => ?_⟩
  obtain ⟨z1, e0, z2, z3⟩ := r.pin j w z
  rcases hj j with y | y
  · exact ⟨y.trans z1, e0, z2, z3⟩
  · rw [y] at z2
    cases z2
    cases z3
theorem Rel.unwipe {vs : List Nat} (r : Rel K c (L2.wipe σ vs) (wipeE ρ vs) T H) : Rel K c σ (wipeE ρ vs) T H := by
  refine r.resig (wipe_length σ vs).symm fun j => ?_
  rw [wipe_get, wipeE_get]
  by_cases h : j ∈ vs
  · rw [if_pos h, if_pos h]
    obtain ⟨F, fp, f⟩ := r
    have hl := f.len
    have hlen : ∀ vs : List Nat, (wipeE ρ vs).length = ρ.length := fun vs => by
      induction vs with
      | nil => rfl
      | cons v vs ih => rw [wipeE, List.length_set, ih]
    rw [wipe_length, hlen] at hl
    by_cases hj : j < σ.length
    · right
      rw [List.getElem?_eq_getElem (by omega)]
      rfl
    · left
      rw [List.getElem?_eq_none (by omega)]
      rfl
  · rw [if_neg h]
    exact .inl rfl
end

/-! ### [e for x in xs if t] -/
def lcL (g : MG) (t : MT) (m : MV) (vs : List Nat) : List PyData → List PyData → En → Option (List PyData × En)
  | [], acc, ρ => some (acc, ρ)
  | d :: ds, acc, ρ => match g d ρ with
    | none => none
    | some ρ => match t ρ with
      | none => none
      | some (false, ρ) => if vs.all (freeE ρ) = true then lcL g t m vs ds acc (wipeE ρ vs) else none
      | some (true, ρ) => match m ρ with
        | none => none
        | some (y, ρ) => if acc.length < 100000 ∧ vs.all (freeE ρ) = true then lcL g t m vs ds (acc ++ [y]) (wipeE ρ vs) else none
def mLc (n : MI) (g : MG) (t : MT) (m : MV) (vs : List Nat) : MO := fun ρ => match n ρ with
  | none => none
  | some (ds, ρ) => if vs.all (freeE ρ) = true then (lcL g t m vs ds [] (wipeE ρ vs)).map fun p => (.own true (.lst p.1), p.2) else none
def mYes : MT := fun ρ => some (true, ρ)
def JTs (Y : Fam) (ifs : List Expr) (m : MT) : Prop := ∃ t, (∀ i, PTs (Y.X i) ifs t) ∧ SemT Y.K t m
theorem ts_nil {Y : Fam} : JTs Y [] mYes := ⟨tYes, fun _ => pts_nil, fun _ _ _ _ H _ r q => q H r⟩
theorem ts_one {Y : Fam} {e : Expr} {m : MT} (h : JT Y e m) : JTs Y [e] m := by
  obtain ⟨t, p, s⟩ := h
  exact ⟨t, fun i => pts_one (p i), s⟩
theorem sem_lc {K : PySem.W.Frag} {wi : TI} {g : TG} {tt : TT} {te : TE} {n : MI} {mg : MG} {mt : MT} {m : MV} {sl vs : List Nat} (sI : SemI K wi n) (sG : SemG K g mg sl) (sT : SemT K tt mt) (sE : SemV K te m) (hsl : ∀ i ∈ sl, i ∈ vs) :
    SemO K (tLc wi g tt te vs) (mLc n mg mt m vs) := fun c σ ρ T H Q r q => by
  refine sI c σ ρ T H _ r ?_
  unfold mLc at q
  cases hn : n ρ with
  | none =>
    rw [hn] at q
    exact q
  | some z =>
    obtain ⟨ds, ρ1⟩ := z
    rw [hn] at q
    simp only at q
    split at q
    · rename_i hfree
      have hfree : ∀ i ∈ vs, freeE ρ1 i = true := List.all_eq_true.mp hfree
      intro J Tk H1 W r1 D hD
      obtain ⟨F, fp, f⟩ := r1.wiped hfree
      have r2 : Rel K c (L2.wipe σ vs) (wipeE ρ1 vs) (Tk ++ ((.ref D, .own true (.lst [])) :: T)) (upd H1 D (.lst [])) := (f.lstNew hD .nil).perm List.perm_middle.symm
      refine ⟨fun i k H' => k = ds.length - i ∧ i ≤ ds.length ∧ ∃ (ρ' : En) (acc : List PyData), Rel K c (L2.wipe σ vs) (wipeE ρ' vs) (Tk ++ ((.ref D, .own true (.lst acc)) :: T)) H' ∧
        PostO K c σ T ((lcL mg mt m vs (ds.drop i) acc (wipeE ρ' vs)).map fun p => (.own true (.lst p.1), p.2)) Q, ⟨ds.length, by simp, Nat.zero_le _, ρ1, [], r2, by simpa using q⟩, ?_⟩
      rintro i k H' ⟨rfl, hi, ρ', acc, r', q'⟩
      by_cases hlt : i < ds.length
      · obtain ⟨hgo, hy⟩ := (W _ _ _ H' r' i).1 ds[i] (List.getElem?_eq_getElem hlt)
        rw [List.drop_eq_getElem_cons hlt] at q'
        unfold lcL at q'
        refine .inr ⟨hgo, fun H2 => ∃ (ρ2 : En) (acc2 : List PyData), Rel K c (L2.wipe σ vs) (wipeE ρ2 vs) (Tk ++ ((.ref D, .own true (.lst acc2)) :: T)) H2 ∧
          PostO K c σ T ((lcL mg mt m vs (ds.drop (i + 1)) acc2 (wipeE ρ2 vs)).map fun p => (.own true (.lst p.1), p.2)) Q, fun H2 ⟨ρ2, acc2, r2, q2⟩ => ⟨ds.length - (i + 1), by omega, rfl, hlt, ρ2, acc2, r2, q2⟩, fun x H2 y => ?_⟩
        have r2 := hy x H2 y
        refine sG c _ _ _ H2 x ds[i] _ r2 ?_
        cases hg : mg ds[i] (wipeE ρ' vs) with
        | none =>
          rw [hg] at q'
          exact q'
        | some ρ3 =>
          rw [hg] at q'
          simp only at q'
          intro σ3 H3 r3 w3
          have w3 : L2.wipe σ3 vs = L2.wipe σ vs := (w3 vs hsl).trans (by
            refine List.ext_getElem? fun j => ?_
            rw [wipe_get, wipe_get]
            by_cases hj : j ∈ vs
            · rw [if_pos hj, if_pos hj]
              cases σ[j]? <;> rfl
            · rw [if_neg hj])
          refine ⟨w3, sT c σ3 ρ3 _ H3 _ r3 ?_⟩
          cases ht : mt ρ3 with
          | none =>
            rw [ht] at q'
            exact q'
          | some z =>
            obtain ⟨b, ρ4⟩ := z
            rw [ht] at q'
            cases b with
            | false =>
              simp only at q'
              intro H4 r4
              rw [if_neg Bool.false_ne_true]
              split at q'
              · rename_i hf4
                have r5 := r4.wiped (List.all_eq_true.mp hf4)
                rw [w3] at r5
                exact ⟨ρ4, acc, r5, q'⟩
              · exact q'.elim
            | true =>
              simp only at q'
              intro H4 r4
              rw [if_pos rfl]
              refine sE c σ3 ρ4 _ H4 _ r4 ?_
              cases hm : m ρ4 with
              | none =>
                rw [hm] at q'
                exact q'
              | some z =>
                obtain ⟨y, ρ5⟩ := z
                rw [hm] at q'
                simp only at q'
                intro vy H5 r5
                split at q'
                · rename_i hf5
                  have r6 : Rel K c σ3 ρ5 ((.ref D, .own true (.lst acc)) :: (vy, .val y) :: (Tk ++ T)) H5 := r5.perm (by
                    have p1 : ((vy, Ent.val y) :: (Tk ++ (V.ref D, Ent.own true (Cell.lst acc)) :: T)).Perm ((vy, Ent.val y) :: (V.ref D, Ent.own true (Cell.lst acc)) :: (Tk ++ T)) := List.Perm.cons _ List.perm_middle
                    exact p1.trans (List.Perm.swap _ _ _))
                  obtain ⟨a, us, e, hH, hlen, r7⟩ := r6.write (fun us => us ++ [vy]) (ds' := acc ++ [y]) fun F fp us f rs => rs.app (.one f.top)
                  cases e
                  have r8 : Rel K c σ3 ρ5 (Tk ++ ((.ref D, .own true (.lst (acc ++ [y]))) :: T)) (upd H5 D (.lst (us ++ [vy]))) := ((r7.swap).pop).perm List.perm_middle.symm
                  have r9 := r8.wiped (List.all_eq_true.mp hf5.2)
                  rw [w3] at r9
                  exact ⟨us, hH, sz5l (by omega), ρ5, _, r9, q'⟩
                · exact q'.elim
      · have e : i = ds.length := by omega
        subst e
        rw [List.drop_length] at q'
        refine .inl ⟨(W _ _ _ H' r' ds.length).2 (Nat.le_refl _), ?_⟩
        have q' : ∀ v H, Rel K c σ (wipeE ρ' vs) ((v, .own true (.lst acc)) :: T) H → Q v H := q'
        exact q' _ _ (Rel.unwipe r'.drop)
    · exact q.elim
theorem sem_fz {K : PySem.W.Frag} {t : TE} {m : MO} (s : SemO K t m) : SemV K t (mFz m) := fun c σ ρ T H Q r q => by
  refine s c σ ρ T H Q r ?_
  unfold mFz at q
  cases hm : m ρ with
  | none =>
    rw [hm] at q
    exact q
  | some z =>
    obtain ⟨e0, ρ1⟩ := z
    rw [hm] at q
    simp only at q
    cases hf : fz e0 with
    | none =>
      rw [hf] at q
      exact False.elim q
    | some d =>
      rw [hf] at q
      exact fun v H1 r1 => q v H1 (r1.fz hf)
section
variable {Y : Fam} {pos : Pos} {elt tg iter : Expr} {ifs : List Expr} {scope : Scope} {own : List (Str × Nat)} {n : MI} {g : MG} {t : MT} {m : MV} {sl : List Nat}
theorem j_lc (own : List (Str × Nat)) (hi : JI Y tg iter n) (hg : JG (Y.blk scope) tg g sl) (ht : JTs (Y.blk scope) ifs t) (he : JV (Y.blk scope) elt m) (ok : ∀ j, BlkOk (Y.X j).N (Y.X j).env.scope scope own) (hsl : ∀ i ∈ sl, i ∈ own.map (·.2) := by decide) (hN : ∀ j, (Y.X j).N.Nodup := by assumption)
    (hs : ∀ j x, foldedSetIterable iter (Y.X j).env x = pure x := by intro _ _; rfl) : JO Y (.ListComp elt [⟨tg, iter, ifs, 0⟩] scope pos) (mLc n g t m (own.map (·.2))) := by
  obtain ⟨wi, p1, s1⟩ := hi
  obtain ⟨u, p2, s2⟩ := hg
  obtain ⟨tt, p3, s3⟩ := ht
  obtain ⟨te, p4, s4⟩ := he
  exact ⟨_, fun j => pe_lc (Y.calm j) (hN j) (p1 j) (ok j) (fun s H C cl fp => p2 (j, s, H, C, cl, fp)) (fun s H C cl fp => p3 (j, s, H, C, cl, fp)) (fun s H C cl fp => p4 (j, s, H, C, cl, fp)) (hs j), sem_lc s1 s2 s3 s4 hsl⟩
theorem s_lcO (i : Nat) {y : Str} {py spos : Pos} (own : List (Str × Nat)) (hi : JI Y tg iter n) (hg : JG (Y.blk scope) tg g sl) (ht : JTs (Y.blk scope) ifs t) (he : JV (Y.blk scope) elt m) (ok : ∀ j, BlkOk (Y.X j).N (Y.X j).env.scope scope own) (hsl : ∀ i ∈ sl, i ∈ own.map (·.2) := by decide) (hN : ∀ j, (Y.X j).N.Nodup := by assumption)
    (hy : ∀ j, (Y.X j).N[i]? = some y := by intro _; rfl) (hyl : ∀ j, (Y.X j).env.scope.names.lookup y = some .local := by intro _; rfl) (hsw : ∀ j, swapsWith (.ListComp elt [⟨tg, iter, ifs, 0⟩] scope pos) (some (.Name y py)) spos.line (Y.X j).env = pure true := by exact fun _ => sw_true rfl rfl rfl (by decide +kernel))
    (hs : ∀ j x, foldedSetIterable iter (Y.X j).env x = pure x := by intro _ _; rfl) : JS Y (.Assign [.Name y py] (.ListComp elt [⟨tg, iter, ifs, 0⟩] scope pos) spos) (mOwn (mLc n g t m (own.map (·.2))) i) := by
  obtain ⟨wi, p1, s1⟩ := hi
  obtain ⟨u, p2, s2⟩ := hg
  obtain ⟨tt, p3, s3⟩ := ht
  obtain ⟨te, p4, s4⟩ := he
  exact ⟨_, fun j => ps_setLc (Y.calm j) (hN j) (hy j) (hyl j) (hsw j) (p1 j) (ok j) (fun s H C cl fp => p2 (j, s, H, C, cl, fp)) (fun s H C cl fp => p3 (j, s, H, C, cl, fp)) (fun s H C cl fp => p4 (j, s, H, C, cl, fp)) (hs j), sem_own (sem_lc s1 s2 s3 s4 hsl)⟩
/-- the same, the list as data -/
def mOwnV (m : MV) (i : Nat) : MS := mOwn (mVal m) i
theorem sem_val {K : PySem.W.Frag} {t : TE} {m : MV} (s : SemV K t m) : SemO K t (mVal m) := fun c σ ρ T H Q r q => by
  refine s c σ ρ T H Q r ?_
  unfold mVal at q
  cases hm : m ρ with
  | none =>
    rw [hm] at q
    exact q
  | some z =>
    rw [hm] at q
    exact q
theorem s_lcV (i : Nat) {y : Str} {py spos : Pos} (own : List (Str × Nat)) (hi : JI Y tg iter n) (hg : JG (Y.blk scope) tg g sl) (ht : JTs (Y.blk scope) ifs t) (he : JV (Y.blk scope) elt m) (ok : ∀ j, BlkOk (Y.X j).N (Y.X j).env.scope scope own) (hsl : ∀ i ∈ sl, i ∈ own.map (·.2) := by decide) (hN : ∀ j, (Y.X j).N.Nodup := by assumption)
    (hy : ∀ j, (Y.X j).N[i]? = some y := by intro _; rfl) (hyl : ∀ j, (Y.X j).env.scope.names.lookup y = some .local := by intro _; rfl) (hsw : ∀ j, swapsWith (.ListComp elt [⟨tg, iter, ifs, 0⟩] scope pos) (some (.Name y py)) spos.line (Y.X j).env = pure true := by exact fun _ => sw_true rfl rfl rfl (by decide +kernel))
    (hs : ∀ j x, foldedSetIterable iter (Y.X j).env x = pure x := by intro _ _; rfl) : JS Y (.Assign [.Name y py] (.ListComp elt [⟨tg, iter, ifs, 0⟩] scope pos) spos) (mOwnV (mFz (mLc n g t m (own.map (·.2)))) i) := by
  obtain ⟨wi, p1, s1⟩ := hi
  obtain ⟨u, p2, s2⟩ := hg
  obtain ⟨tt, p3, s3⟩ := ht
  obtain ⟨te, p4, s4⟩ := he
  exact ⟨_, fun j => ps_setLc (Y.calm j) (hN j) (hy j) (hyl j) (hsw j) (p1 j) (ok j) (fun s H C cl fp => p2 (j, s, H, C, cl, fp)) (fun s H C cl fp => p3 (j, s, H, C, cl, fp)) (fun s H C cl fp => p4 (j, s, H, C, cl, fp)) (hs j), sem_own (sem_val (sem_fz (sem_lc s1 s2 s3 s4 hsl)))⟩
end
/-! ### lists that a def owns -/
def mApp (j : Nat) (m : MV) : MO := fun ρ => match ρ[j]? with
  | some (.own _ (.lst _)) => match m ρ with
    | none => none
    | some (d, ρ) => match ρ[j]? with
      | some (.own fr (.lst ds)) => if ds.length < 100000 then some (.val .none, ρ.set j (.own fr (.lst (ds ++ [d])))) else none
      | _ => none
  | _ => none
theorem Rel.lstOwn {K : PySem.W.Frag} {c : Ct} {σ : L2.St} {ρ : En} {T : Tm} {H : Hp} {j : Nat} {fr : Bool} {ds : List PyData} (r : Rel K c σ ρ T H) (he : ρ[j]? = some (.own fr (.lst ds))) : ∃ a vs, σ[j]? = some (some (.ref a)) ∧ H a = some (.lst vs) ∧ vs.length = ds.length := by
  obtain ⟨v, hv⟩ := r.ownv he
  obtain ⟨F, fp, f⟩ := r.take hv he
  obtain ⟨a, vs, rfl, h1, h2⟩ := f.lstTop
  exact ⟨a, vs, hv, h1, h2.length⟩
theorem Rel.put_back {K : PySem.W.Frag} {c : Ct} {σ : L2.St} {ρ : En} {T : Tm} {H H' : Hp} {j : Nat} {fr : Bool} {ce ce' : Cell} {v : V} (r0 : Rel K c σ ρ T H) (he : ρ[j]? = some (.own fr ce)) (hv : σ[j]? = some (some v)) {S : Tm} (r : Rel K c σ (ρ.set j .lent) ((v, .own fr ce') :: S) H') : Rel K c σ (ρ.set j (.own fr ce')) S H' := by
  have q := r.back hv fun w z => by
    have y := r0.pinned z he
    cases fr with
    | false => rfl
    | true => cases y
  rw [List.set_set] at q
  exact q
section
variable {Y : Fam} {e : Expr} {apos cpos : Pos}
theorem j_app (j : Nat) {x : Str} {p : Pos} {m : MV} (h : JV Y e m) (hN : ∀ i, (Y.X i).N[j]? = some x := by intro _; rfl) (hv : ∀ i, Vis (Y.X i).env.scope x := by first | exact fun _ => Or.inl rfl | exact fun _ => Or.inr (Or.inl rfl) | exact fun _ => Or.inr (Or.inr rfl)) (hd : (x == ("__debug__" : Str)) = false := by decide) (hcd : (x == ("__classdict__" : Str)) = false := by decide)
    (hbase : ∀ i, attributeBase (.Name x p) "append" (Y.X i).env (eval (.Name x p) (Y.X i).env) = eval (.Name x p) (Y.X i).env := by intro _; rfl)
    (hfew : ∀ i, ((backTo cpos (starEach [e] (Y.X i).env)).all (fun x => !x.1) && (backToKw cpos (keywordEach [] (Y.X i).env)).all (fun x => x.1.isSome) && decide ([e].length + ([] : List Keyword).length + (if ([] : List Keyword).isEmpty then 0 else 1) < 30)) = true := by intro _; rfl)
    (hline : (apos.endLine == cpos.line) = true := by rfl) (hs : ∀ i, starEach [e] (Y.X i).env = (false, eval e (Y.X i).env) :: starEach [] (Y.X i).env := by intro _; rfl) (hplain : ∀ i, (backTo cpos (starEach [] (Y.X i).env)).any (·.1) = false := by intro _; rfl) : JO Y (.Call (.Attribute (.Name x p) "append" apos) [e] [] cpos) (mApp j m) := by
  obtain ⟨t, pa, s⟩ := h
  refine ⟨tBM Y.K "list" rAppend (tVar j) (tCons t tNil), fun i => by rw [← Y.hK i]; exact pe_bm PySem.F.plainAttrs_list PySem.F.slot_list_append PySem.F.type_list_append mt_append (pe_var (hN i) (hv i) hd hcd) (pa_cons (pa i) pa_nil (hs i)) (hbase i) (hfew i) hline (hs i) (hplain i), fun c σ ρ T H Q r q => ?_⟩
  unfold mApp at q
  split at q
  · rename_i fr0 ds0 he0
    obtain ⟨a0, vs0, hv0, hH0, _⟩ := r.lstOwn he0
    refine ⟨_, hv0, .inl ⟨rfl, vs0, .inl (.inl hH0)⟩, s c σ ρ T H _ r ?_⟩
    cases hm : m ρ with
    | none =>
      rw [hm] at q
      exact q
    | some z =>
      obtain ⟨d, ρ1⟩ := z
      rw [hm] at q
      simp only at q
      intro vd H1 r1
      split at q
      · rename_i fr ds he
        split at q
        · rename_i hl
          obtain ⟨v, hv'⟩ := r1.ownv he
          have : v = .ref a0 := by
            rw [hv0] at hv'
            cases hv'
            rfl
          subst this
          obtain ⟨a, us, e, hH, hlen, r2⟩ := (r1.take hv' he).write (fun us => us ++ [vd]) (ds' := ds ++ [d]) fun F fp us f rs => rs.app (.one f.top)
          cases e
          refine ⟨a0, us, vd, rfl, rfl, hH, sz5l (by omega), q _ _ ?_⟩
          exact Rel.pushN (r1.put_back he hv' (r2.swap.pop))
        · exact q.elim
      · exact q.elim
  · exact q.elim
def mExt (j : Nat) (m : MV) : MO := fun ρ => match ρ[j]? with
  | some (.own _ (.lst _)) => match m ρ with
    | some (.list es, ρ) => match ρ[j]? with
      | some (.own fr (.lst ds)) => if ds.length + es.length ≤ 100000 then some (.val .none, ρ.set j (.own fr (.lst (ds ++ es)))) else none
      | _ => none
    | _ => none
  | _ => none
theorem j_ext (j : Nat) {x : Str} {p : Pos} {m : MV} (h : JV Y e m) (hN : ∀ i, (Y.X i).N[j]? = some x := by intro _; rfl) (hv : ∀ i, Vis (Y.X i).env.scope x := by first | exact fun _ => Or.inl rfl | exact fun _ => Or.inr (Or.inl rfl) | exact fun _ => Or.inr (Or.inr rfl)) (hd : (x == ("__debug__" : Str)) = false := by decide) (hcd : (x == ("__classdict__" : Str)) = false := by decide)
    (hbase : ∀ i, attributeBase (.Name x p) "extend" (Y.X i).env (eval (.Name x p) (Y.X i).env) = eval (.Name x p) (Y.X i).env := by intro _; rfl)
    (hfew : ∀ i, ((backTo cpos (starEach [e] (Y.X i).env)).all (fun x => !x.1) && (backToKw cpos (keywordEach [] (Y.X i).env)).all (fun x => x.1.isSome) && decide ([e].length + ([] : List Keyword).length + (if ([] : List Keyword).isEmpty then 0 else 1) < 30)) = true := by intro _; rfl)
    (hline : (apos.endLine == cpos.line) = true := by rfl) (hs : ∀ i, starEach [e] (Y.X i).env = (false, eval e (Y.X i).env) :: starEach [] (Y.X i).env := by intro _; rfl) (hplain : ∀ i, (backTo cpos (starEach [] (Y.X i).env)).any (·.1) = false := by intro _; rfl) : JO Y (.Call (.Attribute (.Name x p) "extend" apos) [e] [] cpos) (mExt j m) := by
  obtain ⟨t, pa, s⟩ := h
  refine ⟨tBM Y.K "list" rExtend (tVar j) (tCons t tNil), fun i => by rw [← Y.hK i]; exact pe_bm PySem.F.plainAttrs_list PySem.F.slot_list_extend PySem.F.type_list_extend mt_extend (pe_var (hN i) (hv i) hd hcd) (pa_cons (pa i) pa_nil (hs i)) (hbase i) (hfew i) hline (hs i) (hplain i), fun c σ ρ T H Q r q => ?_⟩
  unfold mExt at q
  split at q
  · rename_i fr0 ds0 he0
    obtain ⟨a0, vs0, hv0, hH0, _⟩ := r.lstOwn he0
    refine ⟨_, hv0, .inl ⟨rfl, vs0, .inl (.inl hH0)⟩, s c σ ρ T H _ r ?_⟩
    split at q
    · rename_i es ρ1 hm
      rw [hm]
      intro vd H1 r1
      split at q
      · rename_i fr ds he
        split at q
        · rename_i hl
          obtain ⟨v, hv'⟩ := r1.ownv he
          have : v = .ref a0 := by
            rw [hv0] at hv'
            cases hv'
            rfl
          subst this
          have hes := r1.top.lstAt
          obtain ⟨b, ws, rfl, hb, hbr⟩ := hes
          obtain ⟨a, us, e, hH, hlen, r2⟩ := (r1.take hv' he).write (fun us => us ++ ws) (ds' := ds ++ es) fun F fp us f rs => by
            obtain ⟨b', ws', e', hb', hbr'⟩ := f.top.lstAt
            cases e'
            have := f.fh _ _ hb'
            rw [hb] at this
            cases this
            exact rs.app hbr'
          cases e
          have hl2 := hbr.length
          refine ⟨a0, b, us, ws, rfl, rfl, hH, hb, sz5 (by omega), q _ _ ?_⟩
          exact Rel.pushN (r1.put_back he hv' (r2.swap.pop))
        · exact q.elim
      · exact q.elim
    · exact q.elim
  · exact q.elim
end
end Fj

set_option Elab.async false
set_option linter.all false
set_option maxRecDepth 100000
set_option maxHeartbeats 4000000
set_option autoImplicit false
/-! Defs: a mirror's promise, and the rules of calls. -/
namespace Fj
open PySem PySem.Spec PyProof.Rows L2

abbrev MF := List Ent → Option (Ent × List Ent)
def Ct.open (c : Ct) : Ct := { c with pins := [] }
def resE : Ent → Bool
  | .val _ => true
  | .own true _ => true
  | _ => false
def PostF (K : PySem.W.Frag) (c : Ct) (vs : List V) (r : Option (Ent × List Ent)) (Q : VK) : Prop := match r with
  | none => False
  | some (e, outs) => ∀ v H', Rel K c.open (vs.map some) outs [(v, e)] H' → Q v H'
def SpF (K : PySem.W.Frag) (n : Nat) (m : MF) (vs : List V) (H : Hp) (Q : VK) : Prop := ∃ (c : Ct) (ins : List Ent), c.H0 = H ∧ vs.length = n ∧ Rel K c (vs.map some) ins [] H ∧ (∀ (i : Nat) (fr : Bool) (ce : Cell), ins[i]? = some (Ent.own fr ce) → ∃ w, c.pins[i]? = some (some w)) ∧ PostF K c vs (m ins) Q
/-- a def of the text: what a call of it does is what its mirror says -/
structure FnG (P : Program) (w : World) (K : PySem.W.Frag) (mg : Str → Option Value) (base : Heap) (k : Nat) (f : Addr) (fd : FuncData) (ps : List Str) (m : MF) : Prop where
  go : ∀ (A : Around) (outer : List Env) (s : Shared) (H : Hp) (args : Args) (us : List Value) (vs : List V) (Q : VK), Room k A → A.guards = some [] → Env0 P w K mg base A outer s H → BindsTo s fd args (ps.zip us) → Vals vs us → SpF K ps.length m vs H Q →
    codeAny (model P w) A (.call (.ref f) args) (CR CX0 outer P w H s Q E0) s
theorem FnG.mono {P : Program} {w : World} {K : PySem.W.Frag} {mg : Str → Option Value} {base : Heap} {j k : Nat} {f : Addr} {fd : FuncData} {ps : List Str} {m : MF} (F : FnG P w K mg base j f fd ps m) (h : j ≤ k) : FnG P w K mg base k f fd ps m :=
  ⟨fun A outer s H args us vs Q hr => F.go A outer s H args us vs Q (hr.mono h)⟩

/-! ### a body keeps it -/
def bodyFam (P : Program) (w : World) (K : PySem.W.Frag) (mg : Str → Option Value) (base : Heap) (N : List Str) (qual : Str) (scope : Scope) (f : Addr) (cdv : Value) (A : Around) (outer : List Env) (s : Shared) (H : Hp) (k : Nat)
    (hr : Room k (A.deeper (envOfC qual scope s.heap.objs.size f cdv))) (hg : A.guards = some []) : Fam where
  I := Unit
  X := fun _ => (cxOf CX0 P w K mg base N qual scope f cdv A outer s H E0).nox
  P := P
  w := w
  K := K
  mg := mg
  base := base
  k := k
  hP := fun _ => rfl
  hw := fun _ => rfl
  hK := fun _ => rfl
  hmg := fun _ => rfl
  hbase := fun _ => rfl
  calm := fun _ => rfl
  gd := fun _ => hg
  room := fun _ => hr
def outE (a b : Ent) : Ent := match a with
  | .own _ _ => (match b with
    | .own _ _ => b
    | _ => .no)
  | _ => .no
def outsE : List Ent → En → List Ent
  | a :: as, b :: bs => outE a b :: outsE as bs
  | a :: as, [] => .no :: outsE as []
  | [], _ => []
def mFn (n : Nat) (body : MS) : MF := fun ins => match body (ins ++ List.replicate (n - ins.length) Ent.no) with
  | some (.rt e ρ) => some (e, outsE ins ρ)
  | some (.nx ρ) => some (.val .none, outsE ins ρ)
  | _ => none
section
variable {K : PySem.W.Frag} {c : Ct} {H F : Hp}
theorem slots_no : ∀ k : Nat, Slots K c F H ((List.replicate k (none : Option V)).zip (List.replicate k Ent.no)) []
  | 0 => .nil
  | k + 1 => Slots.cons (fc := []) (.no _) (slots_no k)
theorem zip_app {α β : Type} : ∀ {xs : List α} {ys : List β} {xs' : List α} {ys' : List β}, xs.length = ys.length → (xs ++ xs').zip (ys ++ ys') = xs.zip ys ++ xs'.zip ys'
  | [], [], _, _, _ => rfl
  | [], y :: ys, _, _, h => by cases h
  | x :: xs, [], _, _, h => by cases h
  | x :: xs, y :: ys, xs', ys', h => by
    show (x, y) :: (xs ++ xs').zip (ys ++ ys') = (x, y) :: (xs.zip ys ++ xs'.zip ys')
    rw [zip_app (Nat.succ.inj h)]
theorem Rel.pad {σ : L2.St} {ρ : En} {T : Tm} (k : Nat) (r : Rel K c σ ρ T H) : Rel K c (σ ++ List.replicate k none) (ρ ++ List.replicate k Ent.no) T H := by
  obtain ⟨F, fp, r⟩ := r
  have sl : Slots K c F H (tmp T ++ (σ ++ List.replicate k none).zip (ρ ++ List.replicate k Ent.no)) (fp ++ []) := by
    rw [zip_app r.len, ← List.append_assoc]
    exact r.sl.app (slots_no k)
  rw [List.append_nil] at sl
  refine ⟨F, fp, r.f0, r.fh, r.new, r.keep, r.trk, sl, r.nd, r.own, by simp [r.len], fun j w z => ?_⟩
  obtain ⟨z1, e0, z2, z3⟩ := r.pin j w z
  exact ⟨by rw [List.getElem?_append_left (List.getElem?_eq_some_iff.mp z1).1]; exact z1, e0, by rw [List.getElem?_append_left (List.getElem?_eq_some_iff.mp z2).1]; exact z2, z3⟩
theorem slots_outs0 : ∀ (vs : List V) (ins : List Ent), Slots K c F H ((vs.map some).zip (outsE ins [])) []
  | [], ins => .nil
  | v :: vs, [] => .nil
  | v :: vs, a :: ins => Slots.cons (fc := []) (.no _) (slots_outs0 vs ins)
theorem Slots.outs : ∀ {vs : List V} {ins : List Ent} {σ : L2.St} {ρ : En} {fp : List Addr}, vs.length = ins.length → σ.length = ρ.length → (∀ (i : Nat) (fr : Bool) (ce : Cell), ins[i]? = some (Ent.own fr ce) → σ[i]? = (vs[i]?).map some) → Slots K c F H (σ.zip ρ) fp →
    ∃ fq, fq.Sublist fp ∧ Slots K c F H ((vs.map some).zip (outsE ins ρ)) fq
  | [], [], σ, ρ, fp, _, _, _, h => ⟨[], List.nil_sublist _, .nil⟩
  | [], _ :: _, _, _, _, h, _, _, _ => by cases h
  | _ :: _, [], _, _, _, h, _, _, _ => by cases h
  | v :: vs, a :: ins, [], [], fp, _, _, _, _ => ⟨[], List.nil_sublist _, slots_outs0 (v :: vs) (a :: ins)⟩
  | v :: vs, a :: ins, [], b :: ρ, fp, _, hl, _, _ => by cases hl
  | v :: vs, a :: ins, x :: σ, [], fp, _, hl, _, _ => by cases hl
  | v :: vs, a :: ins, x :: σ, b :: ρ, fp, h1, h2, h4, h => by
    have h0 : Slots K c F H ((x, b) :: σ.zip ρ) fp := h
    clear h
    cases h0 with
    | @cons _ fc fr _ h t =>
      obtain ⟨fq, sub, q⟩ := Slots.outs (Nat.succ.inj h1) (Nat.succ.inj h2) (fun i fr ce z => h4 (i + 1) fr ce z) t
      show ∃ fq, fq.Sublist (fc ++ fr) ∧ Slots K c F H ((some v, outE a b) :: (vs.map some).zip (outsE ins ρ)) fq
      by_cases ha : ∃ f1 c1 f2 c2, a = .own f1 c1 ∧ b = .own f2 c2
      · obtain ⟨f1, c1, f2, c2, rfl, rfl⟩ := ha
        have e := h4 0 f1 c1 rfl
        have e : some x = some (some v) := e
        cases e
        exact ⟨fc ++ fq, List.Sublist.append_left sub _, .cons h q⟩
      · have e : outE a b = .no := by
          cases a <;> cases b <;> first | rfl | exact absurd ⟨_, _, _, _, rfl, rfl⟩ ha
        rw [e]
        exact ⟨fq, sub.trans (List.sublist_append_right _ _), Slots.cons (fc := []) (.no _) q⟩
theorem outsE_length : ∀ (ins : List Ent) (ρ : En), (outsE ins ρ).length = ins.length
  | [], _ => rfl
  | a :: as, [] => congrArg Nat.succ (outsE_length as [])
  | a :: as, b :: bs => congrArg Nat.succ (outsE_length as bs)
theorem Rel.outs {σ : L2.St} {ρ : En} {v : V} {e : Ent} {vs : List V} {ins : List Ent} (r : Rel K c σ ρ [(v, e)] H) (hl : vs.length = ins.length) (h4 : ∀ (i : Nat) (fr : Bool) (ce : Cell), ins[i]? = some (Ent.own fr ce) → σ[i]? = (vs[i]?).map some) : Rel K c.open (vs.map some) (outsE ins ρ) [(v, e)] H := by
  obtain ⟨F, fp, r⟩ := r
  obtain ⟨f1, f2, e0, s1, s2⟩ := Slots.split r.sl
  subst e0
  obtain ⟨fq, sub, q⟩ := Slots.outs hl r.len h4 s2
  have sub2 : (f1 ++ fq).Sublist (f1 ++ f2) := List.Sublist.append_left sub _
  have up : ∀ {l : List (Option V × Ent)} {f : List Addr}, Slots K c F H l f → Slots K c.open F H l f := by
    intro l f h
    induction h with
    | nil => exact .nil
    | cons h t ih =>
      refine .cons ?_ ih
      cases h with
      | no x => exact .no x
      | val r => exact .val r
      | own r h => exact .own r h
      | scr h w => exact .scr h w
      | lent x => exact .lent x
  exact ⟨F, f1 ++ fq, r.f0, r.fh, r.new, r.keep, r.trk, (up s1).app (up q), r.nd.sublist sub2, fun a ha => r.own a (sub2.mem ha), by rw [List.length_map, outsE_length]; exact hl, fun i w z => by cases z⟩
end
theorem fnG_of {P : Program} {w : World} {K : PySem.W.Frag} {mg : Str → Option Value} {base : Heap} {k : Nat} {x qual : Str} {params : Arguments} {body : List Stmt} {scope : Scope} {dvs : List V} {kws : List (Str × V)} {f : Addr} {fd : FuncData} {N ps : List Str} {m : MS}
    (F : FunD K x qual params body scope dvs kws f fd) (S : FnScope N ps scope)
    (hb : ∀ (cdv : Value) (A : Around) (outer : List Env) (s : Shared) (H : Hp) (hr : Room k (A.deeper (envOfC qual scope s.heap.objs.size f cdv))) (hg : A.guards = some []), JB (bodyFam P w K mg base N qual scope f cdv A outer s H k hr hg) body m) : FnG P w K mg base (k + 1) f fd ps (mFn N.length m) := by
  obtain ⟨oc, od, dV, kV, doc, pm, an, cdv, ct, osl, rfl, lk, hcd, _, _⟩ := F.ex
  refine ⟨fun A outer s H args us vs Q hr hg e0 hbind rv sp => ?_⟩
  obtain ⟨c, ins, hH, hn, rel, hpin, post⟩ := sp
  have kin : K.In s.heap := e0.mod.kin.keeps fun b o e => (e0.bs b o e).1
  have nolim : s.heap.NoLimit := e0.mod.nolimit.keeps fun b o e => (e0.bs b o e).1
  have hins : vs.length = ins.length := by
    obtain ⟨_, _, r⟩ := rel
    have := r.len
    rwa [List.length_map] at this
  refine codeAny_call_function hr.depth (kin _ _ lk) rfl S.co S.gen rfl (PySem.W.codeRec_of kin hcd) (hbind _ _ _ _ ?_)
  refine wpAny_newFunctionEnv_cells S.kind (fun y hy => (S.par y.1 (List.of_mem_zip hy).1).imp id fun q => ⟨q, PySem.W.cellsFrom_some _ _ _ (.inl q)⟩) fun env he s1 st => ?_
  subst he
  refine ⟨nolim.keeps st.toInCall.keep, codeAny_func ?_⟩
  have hr' := hr.deeper (envOfC qual scope s.heap.objs.size f cdv)
  obtain ⟨t, hp, hs⟩ := hb cdv A outer s H hr' hg
  have inv : Inv (cxOf CX0 P w K mg base N qual scope f cdv A outer s H E0) [] (start N vs) H s1 := inv_start S hr.hd e0 hn rv st
  have hNl : vs.length ≤ N.length := by
    have := congrArg List.length S.pre
    rw [List.length_take] at this
    omega
  have rel1 : Rel K c (start N vs) (ins ++ List.replicate (N.length - ins.length) Ent.no) [] H := by
    have := rel.pad (N.length - vs.length)
    rw [← hins]
    exact this
  have own_ok : ∀ {σ' : L2.St} {ρ' : En} {v : V} {e : Ent} {H' : Hp}, Rel K c σ' ρ' [(v, e)] H' → Rel K c.open (vs.map some) (outsE ins ρ') [(v, e)] H' := fun {σ' ρ' v e H'} r => by
    refine r.outs hins fun i fr ce z => ?_
    obtain ⟨w', hw⟩ := hpin i fr ce z
    obtain ⟨_, _, r1⟩ := r
    obtain ⟨_, _, r2⟩ := rel
    have a1 := (r1.pin i w' hw).1
    have a2 := (r2.pin i w' hw).1
    rw [List.getElem?_map] at a2
    rw [a1, ← a2]
  have wp := (hp ()).nox.run [] s1 (start N vs) H { nx := fun _ H' => Q .non H', rt := Q } inv ?_
  · refine wpAny_mono wp (fun fl s' hq => ?_) fun e s' hq => hq
    cases fl with
    | ret u =>
      obtain ⟨v, σ', H', J, rv', q⟩ := hq
      exact ⟨v, H', J.os, J.bare, J.base, J.hok, rv', q⟩
    | next =>
      obtain ⟨σ', H', J, q⟩ := hq
      exact ⟨V.non, H', J.os, J.bare, J.base, J.hok, rfl, q⟩
    | brk =>
      obtain ⟨_, _, _, q⟩ := hq
      exact q.elim
    | cont =>
      obtain ⟨_, _, _, q⟩ := hq
      exact q.elim
  · refine hs c (start N vs) _ [] H _ rel1 ?_
    unfold mFn at post
    cases hm : m (ins ++ List.replicate (N.length - ins.length) Ent.no) with
    | none =>
      rw [hm] at post
      exact post
    | some fl =>
      rw [hm] at post
      cases fl with
      | nx ρ => exact fun σ' H' r => post _ _ (own_ok r.pushN)
      | rt e ρ => exact fun σ' v H' r => post _ _ (own_ok r)
      | bk ρ => exact post.elim
      | ct ρ => exact post.elim
end Fj

set_option Elab.async false
set_option linter.all false
set_option maxRecDepth 100000
set_option maxHeartbeats 4000000
set_option autoImplicit false
/-! Calls of defs. -/
namespace Fj
open PySem PySem.Spec PyProof.Rows L2

def pick {α : Type} (p : List Nat) (xs : List α) : List α := p.filterMap fun i => xs[i]?
theorem pick_vals {xs : List V} {us : List Value} (r : Vals xs us) : ∀ p : List Nat, Vals (pick p xs) (pick p us)
  | [] => .nil
  | i :: p => by
    unfold pick
    rw [List.filterMap_cons, List.filterMap_cons]
    cases hx : xs[i]? with
    | none =>
      rw [r.none_of hx]
      exact pick_vals r p
    | some x =>
      obtain ⟨u, hu, ru⟩ := r.get hx
      rw [hu]
      exact .cons ru (pick_vals r p)
theorem pick_len {α : Type} {xs : List α} : ∀ p : List Nat, (∀ i ∈ p, i < xs.length) → (pick p xs).length = p.length
  | [], _ => rfl
  | i :: p, h => by
    unfold pick
    rw [List.filterMap_cons, List.getElem?_eq_getElem (h i (List.mem_cons_self ..))]
    exact congrArg Nat.succ (pick_len p fun j hj => h j (List.mem_cons_of_mem _ hj))
theorem pick_rps {K : PySem.W.Frag} {F : Hp} {vs : List V} {ds : List PyData} (r : Rps K F vs ds) : ∀ p : List Nat, Rps K F (pick p vs) (pick p ds)
  | [] => .nil
  | i :: p => by
    unfold pick
    rw [List.filterMap_cons, List.filterMap_cons]
    cases hd : ds[i]? with
    | none =>
      have hv : vs[i]? = none := by
        rw [List.getElem?_eq_none_iff] at hd ⊢
        rw [r.length]
        exact hd
      rw [hv]
      exact pick_rps r p
    | some d =>
      obtain ⟨v, hv, rv⟩ := r.get hd
      rw [hv]
      exact .cons rv (pick_rps r p)
/-! ### what a callee finds and leaves -/
section
variable {K : PySem.W.Frag} {c : Ct} {σ : L2.St} {ρ : En} {T : Tm} {H F : Hp} {fp : List Addr}
theorem slots_vals {vs : List V} {ds : List PyData} (r : Rps K F vs ds) : Slots K c F H ((vs.map some).zip (ds.map Ent.val)) [] := by
  induction ds generalizing vs with
  | nil =>
    cases r
    exact .nil
  | cons d ds ih =>
    cases r with
    | cons h t => exact Slots.cons (fc := []) (.val h) (ih t)
theorem RelF.callIn (f : RelF K c σ ρ T H F fp) {vs : List V} {ds : List PyData} (r : Rps K F vs ds) : Rel K ⟨F, H, fun _ => False, []⟩ (vs.map some) (ds.map Ent.val) [] H :=
  ⟨F, [], fun _ _ z => z, f.fh, fun a z => .inl z, fun a o z _ => z, fun a z => z, slots_vals r, List.nodup_nil, fun a z => (List.not_mem_nil z).elim, (by rw [List.length_map, List.length_map]; exact r.length), fun i v z => by cases z⟩
theorem SlotOk.res {c' : Ct} {e : Ent} {v : V} {fc : List Addr} (h : SlotOk K c' F H (some v, e) fc) (he : resE e = true) (hz : ∀ a ∈ fc, c.H0 a = none) : SlotOk K c F H (some v, e) fc := by
  cases h with
  | no x => cases he
  | val r => exact .val r
  | own r h => exact .own r fun _ => hz
  | scr h w => cases he
  | lent x => cases he
/-- behind a call that was lent nothing -/
theorem RelF.callOut (f : RelF K c σ ρ T H F fp) {σ' : L2.St} {ρ' : En} {v : V} {e : Ent} {H' : Hp} (r : Rel K ⟨F, H, fun _ => False, []⟩ σ' ρ' [(v, e)] H') (he : resE e = true) : Rel K c σ ρ ((v, e) :: T) H' := by
  obtain ⟨F', fp', r⟩ := r
  obtain ⟨fc, fq, e1, h, _⟩ := r.pop
  have own' : ∀ a ∈ fc, F' a = none ∧ H a = none := fun a ha => by
    obtain ⟨x, y⟩ := r.own a (by rw [e1]; exact List.mem_append_left _ ha)
    exact ⟨x, y.elim (fun z => z.elim) id⟩
  have back : ∀ a, H a = none → c.H0 a = none := fun a ha => by
    cases z : c.H0 a with
    | none => rfl
    | some o => exact absurd ha (f.trk a (by rw [z]; exact fun z => nomatch z))
  have kp : ∀ a o, H a = some o → H' a = some o := fun a o z => r.keep a o z fun z => z
  refine ⟨F', fc ++ fp, fun b u z => r.f0 b u (f.f0 b u z), r.fh, fun a z => ?_, fun a o z w => kp a o (f.keep a o z w), fun a z => r.trk a (f.trk a z), .cons (h.res he fun a ha => back a (own' a ha).2) (f.sl.stay r.f0 fun a ha => ?_), ?_, fun a ha => ?_, f.len, f.pin⟩
  · rcases r.new a z with y | y
    · exact f.new a y
    · exact .inr (back a y)
  · cases z : H a with
    | none => exact absurd z (f.sl.there a ha)
    | some o => exact kp a o z
  · refine List.nodup_append.mpr ⟨(List.nodup_append.mp (e1 ▸ r.nd)).1, f.nd, fun a ha b hb z => ?_⟩
    subst z
    exact f.sl.there a hb (own' a ha).2
  · rcases List.mem_append.mp ha with z | z
    · exact ⟨(own' a z).1, .inr (back a (own' a z).2)⟩
    · refine ⟨?_, (f.own a z).2⟩
      cases y : F' a with
      | none => rfl
      | some o =>
        rcases r.new a (by rw [y]; exact fun z => nomatch z) with q | q
        · exact absurd (f.own a z).1 q
        · exact absurd q (f.sl.there a z)
/-- ahead of a call that is lent the top cell -/
theorem RelF.lendIn {vr : V} {fr : Bool} {ce : Cell} (f : RelF K c σ ρ ((vr, .own fr ce) :: T) H F fp) {vs : List V} {ds : List PyData} (r : Rps K F vs ds) : ∃ fc : List Addr, (∃ fq, CellAt K F H vr ce fc ∧ RelF K c σ ρ T H F fq ∧ (fr = true → ∀ a ∈ fc, c.H0 a = none) ∧ fp = fc ++ fq) ∧
    Rel K ⟨F, H, fun a => a ∈ fc, [some vr]⟩ (some vr :: vs.map some) (.own false ce :: ds.map Ent.val) [] H := by
  obtain ⟨fc, fq, h1, h2, h3, h4, _⟩ := f.opn
  have hnd := f.nd
  rw [h4] at hnd
  have sl : Slots K ⟨F, H, fun a => a ∈ fc, [some vr]⟩ F H ((some vr, .own false ce) :: (vs.map some).zip (ds.map Ent.val)) (fc ++ []) := .cons (.own h1 fun z => by cases z) (slots_vals r)
  rw [List.append_nil] at sl
  refine ⟨fc, ⟨fq, h1, h2, h3, h4⟩, F, fc, fun _ _ z => z, f.fh, fun a z => .inl z, fun a o z _ => z, fun a z => z, sl, (List.nodup_append.mp hnd).1, fun a ha => ⟨(f.own a (by rw [h4]; exact List.mem_append_left _ ha)).1, .inl ha⟩, ?_, fun i v z => ?_⟩
  · rw [List.length_cons, List.length_cons, List.length_map, List.length_map, r.length]
  · cases i with
    | zero =>
      have z : some (some vr) = some (some v) := z
      cases z
      exact ⟨rfl, _, rfl, rfl⟩
    | succ i =>
      have z : ([] : List (Option V))[i]? = some (some v) := z
      simp at z
/-- and behind it -/
theorem RelF.lendOut {vr : V} {fr : Bool} {fq fc : List Addr} (f : RelF K c σ ρ T H F fq) (hfr : fr = true → ∀ a ∈ fc, c.H0 a = none) (nd : (fc ++ fq).Nodup) (hown : ∀ a ∈ fc, c.W a ∨ c.H0 a = none) {vs : List V} {outs : List Ent} {v : V} {e : Ent} {ce' : Cell} {H' : Hp}
    (r : Rel K ⟨F, H, fun a => a ∈ fc, []⟩ (some vr :: vs.map some) (.own false ce' :: outs) [(v, e)] H') (he : resE e = true) : Rel K c σ ρ ((v, e) :: (vr, .own fr ce') :: T) H' := by
  obtain ⟨F', fp', r⟩ := r
  obtain ⟨fe, f2, e1, h, r2⟩ := r.pop
  have sl2 : Slots K ⟨F, H, fun a => a ∈ fc, []⟩ F' H' ((some vr, .own false ce') :: (vs.map some).zip outs) f2 := r2.sl
  cases hs : sl2 with
  | @cons _ fd fz _ hd t =>
    have mem1 : ∀ a ∈ fe, a ∈ fp' := fun a ha => by rw [e1]; exact List.mem_append_left _ ha
    have mem2 : ∀ a ∈ fd, a ∈ fp' := fun a ha => by rw [e1]; exact List.mem_append_right _ (List.mem_append_left _ ha)
    have back : ∀ a, H a = none → c.H0 a = none := fun a ha => by
      cases z : c.H0 a with
      | none => rfl
      | some o => exact absurd ha (f.trk a (by rw [z]; exact fun z => nomatch z))
    have kp : ∀ a o, H a = some o → a ∉ fc → H' a = some o := fun a o z w => r.keep a o z w
    have hof : ∀ a ∈ fp', a ∈ fc ∨ H a = none := fun a ha => (r.own a ha).2
    have hcw : ∀ a ∈ fp', c.W a ∨ c.H0 a = none := fun a ha => (hof a ha).elim (hown a) fun z => .inr (back a z)
    have frfc : ∀ a, c.H0 a ≠ none → ¬ c.W a → a ∉ fc := fun a h1 h2 z => (hown a z).elim h2 h1
    have nq : ∀ a ∈ fq, a ∉ fc := fun a ha z => (List.nodup_append.mp nd).2.2 a z a ha rfl
    have ndp := r.nd
    rw [e1] at ndp
    have nd1 : (fe ++ fd).Nodup := ndp.sublist (List.Sublist.append_left (List.sublist_append_left _ _) _)
    have cl : CellAt K F' H' vr ce' fd := by
      cases hd with
      | own r h => exact r
    have hsl : SlotOk K c F' H' (some v, e) fe := by
      refine h.res he fun a ha => ?_
      cases h with
      | no x => cases ha
      | val r => cases ha
      | @own _ frr _ _ r hh =>
        cases frr with
        | false => cases he
        | true => exact back a (hh rfl a ha)
      | scr h w => cases ha
      | lent x => cases ha
    refine ⟨F', fe ++ (fd ++ fq), fun b u z => r.f0 b u (f.f0 b u z), r.fh, fun a z => ?_, fun a o z w => kp a o (f.keep a o z w) (frfc a (by rw [z]; exact fun z => nomatch z) w), fun a z => r.trk a (f.trk a z),
      .cons hsl (.cons (.own cl fun z a ha => (hof a (mem2 a ha)).elim (hfr z a) (back a)) (f.sl.stay r.f0 fun a ha => ?_)), ?_, fun a ha => ?_, f.len, f.pin⟩
    · rcases r.new a z with y | y
      · exact f.new a y
      · exact .inr (back a y)
    · cases z : H a with
      | none => exact absurd z (f.sl.there a ha)
      | some o => exact kp a o z (nq a ha)
    · rw [← List.append_assoc]
      refine List.nodup_append.mpr ⟨nd1, f.nd, fun a ha b hb z => ?_⟩
      subst z
      have hp : a ∈ fp' := (List.mem_append.mp ha).elim (mem1 a) (mem2 a)
      exact (hof a hp).elim (nq a hb) (f.sl.there a hb)
    · have one : ∀ a ∈ fp', F' a = none ∧ (c.W a ∨ c.H0 a = none) := fun a ha => ⟨(r.own a ha).1, hcw a ha⟩
      rcases List.mem_append.mp ha with z | z
      · exact one a (mem1 a z)
      · rcases List.mem_append.mp z with z | z
        · exact one a (mem2 a z)
        · refine ⟨?_, (f.own a z).2⟩
          cases y : F' a with
          | none => rfl
          | some o =>
            rcases r.new a (by rw [y]; exact fun z => nomatch z) with q | q
            · exact absurd (f.own a z).1 q
            · exact absurd q (f.sl.there a z)
end
/-! ### the rules -/
/-- how the arguments come to the parameters -/
structure BindG (K : PySem.W.Frag) (fd : FuncData) (ps : List Str) (n : Nat) (ks : List Str) (dvs : List V) (p : List Nat) : Prop where
  ex : ∃ its : List Value, Vals dvs its ∧ ∀ (s : Shared) (us ws : List Value), K.In s.heap → us.length = n → ws.length = ks.length → BindsTo s fd ⟨us, ks.zip ws⟩ (ps.zip (pick p (us ++ ws ++ its)))
def tCallG (K : PySem.W.Frag) (n nk np : Nat) (dvs : List V) (p : List Nat) (m : MF) (t tk : TA) : TE := fun σ H Q => t σ H fun vs H1 => tk σ H1 fun ws H2 => vs.length = n ∧ ws.length = nk ∧ SpF K np m (pick p (vs ++ ws ++ dvs)) H2 Q
theorem run_G {X : Cx} {k n : Nat} {f : Addr} {fd : FuncData} {ps ks : List Str} {m : MF} {dvs : List V} {p : List Nat} {pins : List (Addr × Obj)} {σ : L2.St} {H : Hp} {s : Shared} {Q : VK} {us ws : List Value} {vs zs : List V} (F : FnG X.prog X.w X.K X.mg X.base k f fd ps m) (hr : Room k X.A) (hg : X.A.guards = some []) (hb : BindG X.K fd ps n ks dvs p)
    (I : Inv X pins σ H s) (r : Vals vs us) (rz : Vals zs ws) (l1 : vs.length = n) (l2 : zs.length = ks.length) (h : SpF X.K ps.length m (pick p (vs ++ zs ++ dvs)) H Q) : wpAny (model X.prog X.w) X.A (call (.ref f) us (ks.zip ws)) (EP X pins σ Q) X.xe s := by
  obtain ⟨its, rd, bt⟩ := hb.ex
  have r2 := pick_vals ((r.append rz).append rd) p
  refine wpAny_call (codeAny_mono (F.go X.A X.stack s H ⟨us, ks.zip ws⟩ _ _ Q hr hg I.env0 (bt s us ws I.kIn (r.length.symm.trans l1) (rz.length.symm.trans l2)) r2 h) fun r s' hq => ?_)
  cases r with
  | error e => exact hq.elim
  | ok fl =>
    cases fl with
    | ret u => exact I.after hq
    | next => exact False.elim hq
    | brk => exact False.elim hq
    | cont => exact False.elim hq
section
variable {X : Cx} {k n : Nat} {f : Addr} {fd : FuncData} {ps ks : List Str} {m : MF} {dvs : List V} {p : List Nat} {x : Str} {pp pos : Pos} {e : Expr} {es : List Expr} {kws : List Keyword} {t tk : TA}
theorem pe_callG (F : FnG X.prog X.w X.K X.mg X.base k f fd ps m) (hr : Room k X.A) (hgd : X.A.guards = some []) (hg : Gl X x) (hm : X.mg x = some (.ref f)) (hk : PySem.W.keepIn X.K (.ref f) = true) (hb : BindG X.K fd ps n ks dvs p)
    (ha : PA X (e :: es) t) (hkw : PK X kws tk) (hall : (backToKw pos (keywordEach kws X.env)).all (·.1.isSome) = true) (hks : (backToKw pos (keywordEach kws X.env)).filterMap (·.1) = ks) (hdb : (x == ("__debug__" : Str)) = false) (he : starEach (e :: es) X.env = (false, eval e X.env) :: starEach es X.env)
    (hpl : ((backTo pos (starEach (e :: es) X.env)).any (·.1) || (backToKw pos (keywordEach kws X.env)).any (·.1.isNone)) = false) : PE X (.Call (.Name x pp) (e :: es) kws pos) (tCallG X.K n ks.length ps.length dvs p m t tk) := ⟨fun pins s σ H Q I h => by
  refine wpAny_Call_Name_kw (ld_glob I hg hm ?_ hdb)
  refine PySem.W.callWith_KW (h₀ := X.base) I.ok.mod.kin hk hall (thn (ha.run pos pins s σ H _ I h) fun us s1 q => ?_) hpl he
  obtain ⟨vs, H1, I1, r, q⟩ := q
  refine thn (hkw.run pos pins s1 σ H1 _ I1 q) fun ws s2 q2 => ?_
  obtain ⟨zs, H2, I2, rz, l1, l2, q2⟩ := q2
  refine ⟨I2.kIn, ?_⟩
  rw [hks]
  exact run_G F hr hgd hb I2 r rz l1 l2 q2⟩
theorem pe_callG0 (F : FnG X.prog X.w X.K X.mg X.base k f fd ps m) (hr : Room k X.A) (hgd : X.A.guards = some []) (hg : Gl X x) (hm : X.mg x = some (.ref f)) (hk : PySem.W.keepIn X.K (.ref f) = true) (hb : BindG X.K fd ps 0 ks dvs p)
    (hkw : PK X kws tk) (hall : (backToKw pos (keywordEach kws X.env)).all (·.1.isSome) = true) (hks : (backToKw pos (keywordEach kws X.env)).filterMap (·.1) = ks) (hdb : (x == ("__debug__" : Str)) = false)
    (hpl : ((backTo pos (starEach [] X.env)).any (·.1) || (backToKw pos (keywordEach kws X.env)).any (·.1.isNone)) = false) : PE X (.Call (.Name x pp) [] kws pos) (tCallG X.K 0 ks.length ps.length dvs p m tNil tk) := ⟨fun pins s σ H Q I h => by
  refine wpAny_Call_Name_kw (ld_glob I hg hm ?_ hdb)
  refine PySem.W.callWith_KW0 (h₀ := X.base) I.ok.mod.kin hk hall (thn (hkw.run pos pins s σ H _ I h) fun ws s2 q2 => ?_) hpl
  obtain ⟨zs, H2, I2, rz, l1, l2, q2⟩ := q2
  refine ⟨I2.kIn, ?_⟩
  rw [hks]
  exact run_G (us := []) F hr hgd hb I2 .nil rz l1 l2 q2⟩
end
def JK (Y : Fam) (kws : List Keyword) (m : MA) : Prop := ∃ t, (∀ i, PK (Y.X i) kws t) ∧ SemA Y.K t m
section
variable {Y : Fam} {e : Expr} {es : List Expr} {kws : List Keyword} {pos kpos : Pos} {nm : Option Str}
theorem k_nil : JK Y [] mNil := ⟨tNil, fun _ => pk_nil, fun _ _ _ _ H _ r q => q [] H rfl r⟩
theorem sem_cons {K : PySem.W.Frag} {t : TE} {u : TA} {m : MV} {n : MA} (s : SemV K t m) (s' : SemA K u n) : SemA K (tCons t u) (mCons m n) := fun c σ ρ T H Q r q => by
  refine s c σ ρ T H _ r ?_
  unfold mCons at q
  cases hm : m ρ with
  | none =>
    rw [hm] at q
    exact q
  | some z =>
    obtain ⟨d, ρ1⟩ := z
    rw [hm] at q
    simp only at q
    intro v H1 r1
    refine s' c σ ρ1 _ H1 _ r1 ?_
    cases hn : n ρ1 with
    | none =>
      rw [hn] at q
      exact q
    | some z =>
      obtain ⟨ds, ρ2⟩ := z
      rw [hn] at q
      intro vs H2 hl r2
      refine q (v :: vs) H2 (congrArg Nat.succ hl) ?_
      show Rel K c σ ρ2 ((tms vs ds ++ [(v, .val d)]) ++ T) H2
      rw [List.append_assoc]
      exact r2
theorem k_cons {m : MV} {n : MA} (h : JV Y e m) (g : JK Y kws n) : JK Y (⟨nm, e, kpos⟩ :: kws) (mCons m n) := by
  obtain ⟨t, p, s⟩ := h
  obtain ⟨u, p', s'⟩ := g
  exact ⟨tCons t u, fun j => pk_cons (p j) (p' j), sem_cons s s'⟩
/-- f(a, .., k = b, ..): dd the defaults, p the places of the parameters' values -/
def mCall (f : MF) (p : List Nat) (dd : List PyData) (n nk : MA) : MO := fun ρ => match n ρ with
  | none => none
  | some (ds, ρ) => match nk ρ with
    | none => none
    | some (es, ρ) => match f ((pick p (ds ++ es ++ dd)).map .val) with
      | some (e, _) => if resE e = true then some (e, ρ) else none
      | none => none
theorem sem_call {K : PySem.W.Frag} {f : MF} {p : List Nat} {dvs : List V} {dd : List PyData} {n nk : MA} {t tk : TA} {k1 k2 np : Nat} (s1 : SemA K t n) (s2 : SemA K tk nk) (hd : ∀ F, Rps K F dvs dd) (h1 : ∀ ρ ds ρ', n ρ = some (ds, ρ') → ds.length = k1) (h2 : ∀ ρ ds ρ', nk ρ = some (ds, ρ') → ds.length = k2)
    (hp : p.length = np ∧ ∀ i ∈ p, i < k1 + k2 + dd.length) : SemO K (tCallG K k1 k2 np dvs p f t tk) (mCall f p dd n nk) := fun c σ ρ T H Q r q => by
  refine s1 c σ ρ T H _ r ?_
  unfold mCall at q
  cases hn : n ρ with
  | none =>
    rw [hn] at q
    exact q
  | some z =>
    obtain ⟨ds, ρ1⟩ := z
    rw [hn] at q
    simp only at q
    intro vs H1 hl r1
    refine s2 c σ ρ1 _ H1 _ r1 ?_
    cases hk : nk ρ1 with
    | none =>
      rw [hk] at q
      exact q
    | some z =>
      obtain ⟨es, ρ2⟩ := z
      rw [hk] at q
      simp only at q
      intro ws H2 hl2 r2
      have e1 := h1 _ _ _ hn
      have e2 := h2 _ _ _ hk
      refine ⟨hl.trans e1, hl2.trans e2, ?_⟩
      obtain ⟨F, fp, f2⟩ := r2
      obtain ⟨a2, f1⟩ := f2.tms hl2
      obtain ⟨a1, f0⟩ := f1.tms hl
      have all := pick_rps ((a1.app a2).app (hd F)) p
      have len : (pick p (vs ++ ws ++ dvs)).length = np := by
        rw [all.length, ← hp.1]
        have tot : (ds ++ es ++ dd).length = k1 + k2 + dd.length := by rw [List.length_append, List.length_append, e1, e2]
        refine pick_len p fun i hi => ?_
        rw [tot]
        exact hp.2 i hi
      refine ⟨_, _, rfl, len, f0.callIn all, fun i fr ce z => ?_, ?_⟩
      · rw [List.getElem?_map] at z
        cases y : (pick p (ds ++ es ++ dd))[i]? with
        | none =>
          rw [y] at z
          cases z
        | some d =>
          rw [y] at z
          cases z
      · cases hf : f ((pick p (ds ++ es ++ dd)).map .val) with
        | none =>
          rw [hf] at q
          exact q
        | some z =>
          obtain ⟨e, outs⟩ := z
          rw [hf] at q
          simp only at q
          intro v H' r'
          split at q
          · rename_i he
            exact q v H' (f0.callOut r' he)
          · exact q.elim
theorem j_call {x : Str} {pp : Pos} {f : Addr} {fd : FuncData} {ps ks : List Str} {m : MF} {dvs : List V} {dd : List PyData} {p : List Nat} {n nk : MA} {k : Nat} (F : FnG Y.P Y.w Y.K Y.mg Y.base k f fd ps m) (hk : PySem.W.keepIn Y.K (.ref f) = true) (hm : Y.mg x = some (.ref f)) (hb : BindG Y.K fd ps (e :: es).length ks dvs p) (hd : ∀ F, Rps Y.K F dvs dd)
    (ha : JA Y (e :: es) n) (hkw : JK Y kws nk) (h1 : ∀ ρ ds ρ', n ρ = some (ds, ρ') → ds.length = (e :: es).length) (h2 : ∀ ρ ds ρ', nk ρ = some (ds, ρ') → ds.length = ks.length) (hle : k ≤ Y.k) (hp : p.length = ps.length ∧ ∀ i ∈ p, i < (e :: es).length + ks.length + dd.length := by decide) (hg : ∀ j, Gl (Y.X j) x := by intro _; rfl)
    (hall : ∀ j, (backToKw pos (keywordEach kws (Y.X j).env)).all (·.1.isSome) = true := by intro _; rfl) (hks : ∀ j, (backToKw pos (keywordEach kws (Y.X j).env)).filterMap (·.1) = ks := by intro _; rfl) (hdb : (x == ("__debug__" : Str)) = false := by decide) (he : ∀ j, starEach (e :: es) (Y.X j).env = (false, eval e (Y.X j).env) :: starEach es (Y.X j).env := by intro _; rfl)
    (hpl : ∀ j, ((backTo pos (starEach (e :: es) (Y.X j).env)).any (·.1) || (backToKw pos (keywordEach kws (Y.X j).env)).any (·.1.isNone)) = false := by intro _; rfl) : JO Y (.Call (.Name x pp) (e :: es) kws pos) (mCall m p dd n nk) := by
  obtain ⟨t, pa, s1⟩ := ha
  obtain ⟨tk, pk, s2⟩ := hkw
  refine ⟨tCallG Y.K (e :: es).length ks.length ps.length dvs p m t tk, fun j => ?_, sem_call s1 s2 hd h1 h2 hp⟩
  have F' : FnG (Y.X j).prog (Y.X j).w (Y.X j).K (Y.X j).mg (Y.X j).base k f fd ps m := by
    rw [Y.hP j, Y.hw j, Y.hK j, Y.hmg j, Y.hbase j]
    exact F
  have hb' : BindG (Y.X j).K fd ps (e :: es).length ks dvs p := by
    rw [Y.hK j]
    exact hb
  rw [← Y.hK j]
  exact pe_callG F' ((Y.room j).mono hle) (Y.gd j) (hg j) (by rw [Y.hmg j]; exact hm) (by rw [Y.hK j]; exact hk) hb' (pa j) (pk j) (hall j) (hks j) hdb (he j) (hpl j)
theorem j_call0 {x : Str} {pp : Pos} {f : Addr} {fd : FuncData} {ps ks : List Str} {m : MF} {dvs : List V} {dd : List PyData} {p : List Nat} {nk : MA} {k : Nat} (F : FnG Y.P Y.w Y.K Y.mg Y.base k f fd ps m) (hk : PySem.W.keepIn Y.K (.ref f) = true) (hm : Y.mg x = some (.ref f)) (hb : BindG Y.K fd ps 0 ks dvs p) (hd : ∀ F, Rps Y.K F dvs dd)
    (hkw : JK Y kws nk) (h2 : ∀ ρ ds ρ', nk ρ = some (ds, ρ') → ds.length = ks.length) (hle : k ≤ Y.k) (hp : p.length = ps.length ∧ ∀ i ∈ p, i < 0 + ks.length + dd.length := by decide) (hg : ∀ j, Gl (Y.X j) x := by intro _; rfl)
    (hall : ∀ j, (backToKw pos (keywordEach kws (Y.X j).env)).all (·.1.isSome) = true := by intro _; rfl) (hks : ∀ j, (backToKw pos (keywordEach kws (Y.X j).env)).filterMap (·.1) = ks := by intro _; rfl) (hdb : (x == ("__debug__" : Str)) = false := by decide)
    (hpl : ∀ j, ((backTo pos (starEach [] (Y.X j).env)).any (·.1) || (backToKw pos (keywordEach kws (Y.X j).env)).any (·.1.isNone)) = false := by intro _; rfl) : JO Y (.Call (.Name x pp) [] kws pos) (mCall m p dd mNil nk) := by
  obtain ⟨tk, pk, s2⟩ := hkw
  refine ⟨tCallG Y.K 0 ks.length ps.length dvs p m tNil tk, fun j => ?_, sem_call (fun _ _ _ _ H _ r q => q [] H rfl r) s2 hd (fun ρ ds ρ' z => by cases z; rfl) h2 hp⟩
  have F' : FnG (Y.X j).prog (Y.X j).w (Y.X j).K (Y.X j).mg (Y.X j).base k f fd ps m := by
    rw [Y.hP j, Y.hw j, Y.hK j, Y.hmg j, Y.hbase j]
    exact F
  have hb' : BindG (Y.X j).K fd ps 0 ks dvs p := by
    rw [Y.hK j]
    exact hb
  rw [← Y.hK j]
  exact pe_callG0 F' ((Y.room j).mono hle) (Y.gd j) (hg j) (by rw [Y.hmg j]; exact hm) (by rw [Y.hK j]; exact hk) hb' (pk j) (hall j) (hks j) hdb (hpl j)
/-- f(x, ..): x's cell is lent -/
def mLend (i : Nat) (f : MF) (p : List Nat) (dd : List PyData) (n nk : MA) : MO := fun ρ => match ρ[i]? with
  | some (.own _ _) => match n ρ with
    | none => none
    | some (ds, ρ) => match nk ρ with
      | none => none
      | some (es, ρ) => match ρ[i]? with
        | some (.own fr ce) => match f (.own false ce :: (pick p (ds ++ es ++ dd)).map .val) with
          | some (e, .own false ce' :: _) => if resE e = true then some (e, ρ.set i (.own fr ce')) else none
          | _ => none
        | _ => none
  | _ => none
theorem l_nil : ∀ ρ ds ρ', mNil ρ = some (ds, ρ') → ds.length = 0 := fun ρ ds ρ' z => by
  cases z
  rfl
theorem l_cons {m : MV} {n : MA} {k : Nat} (h : ∀ ρ ds ρ', n ρ = some (ds, ρ') → ds.length = k) : ∀ ρ ds ρ', mCons m n ρ = some (ds, ρ') → ds.length = k + 1 := fun ρ ds ρ' z => by
  unfold mCons at z
  split at z
  · cases z
  · split at z
    · cases z
    · rename_i hn
      cases z
      exact congrArg Nat.succ (h _ _ _ hn)
end
end Fj

set_option Elab.async false
set_option linter.all false
set_option maxRecDepth 100000
set_option maxHeartbeats 4000000
set_option autoImplicit false
/-! Calls that are lent a cell of a slot. -/
namespace Fj
open PySem PySem.Spec PyProof.Rows L2

def up1 (p : List Nat) : List Nat := 0 :: p.map (· + 1)
theorem pick_up {α : Type} (v : α) (xs : List α) : ∀ p : List Nat, pick (p.map (· + 1)) (v :: xs) = pick p xs
  | [] => rfl
  | i :: p => by
    unfold pick
    rw [List.map_cons, List.filterMap_cons, List.filterMap_cons]
    have h : (v :: xs)[i + 1]? = xs[i]? := rfl
    rw [h]
    have ih := pick_up v xs p
    unfold pick at ih
    rw [ih]
theorem pick_up1 {α : Type} (v : α) (xs : List α) (p : List Nat) : pick (up1 p) (v :: xs) = v :: pick p xs := by
  unfold up1
  show pick (0 :: p.map (· + 1)) (v :: xs) = _
  unfold pick
  rw [List.filterMap_cons]
  show v :: pick (p.map (· + 1)) (v :: xs) = _
  rw [pick_up]
  rfl
section
variable {K : PySem.W.Frag} {c : Ct} {σ : L2.St} {ρ : En} {T : Tm} {H : Hp}
theorem sem_lend {f : MF} {i : Nat} {p : List Nat} {dvs : List V} {dd : List PyData} {n nk : MA} {t tk : TA} {k1 k2 np : Nat} (s1 : SemA K t n) (s2 : SemA K tk nk) (hd : ∀ F, Rps K F dvs dd) (h1 : ∀ ρ ds ρ', n ρ = some (ds, ρ') → ds.length = k1) (h2 : ∀ ρ ds ρ', nk ρ = some (ds, ρ') → ds.length = k2)
    (hp : p.length + 1 = np ∧ ∀ i ∈ p, i < k1 + k2 + dd.length) : SemO K (tCallG K (k1 + 1) k2 np dvs (up1 p) f (tCons (tVar i) t) tk) (mLend i f p dd n nk) := fun c σ ρ T H Q r q => by
  unfold mLend at q
  split at q
  case h_2 => exact q.elim
  rename_i fr0 ce0 he0
  obtain ⟨vr, hv⟩ := r.ownv he0
  refine ⟨vr, hv, ?_⟩
  refine s1 c σ ρ T H _ r ?_
  cases hn : n ρ with
  | none =>
    rw [hn] at q
    exact q
  | some z =>
    obtain ⟨ds, ρ1⟩ := z
    rw [hn] at q
    simp only at q
    intro vs H1 hl r1
    refine s2 c σ ρ1 _ H1 _ r1 ?_
    cases hk : nk ρ1 with
    | none =>
      rw [hk] at q
      exact q
    | some z =>
      obtain ⟨es, ρ2⟩ := z
      rw [hk] at q
      simp only at q
      intro ws H2 hl2 r2
      have e1 := h1 _ _ _ hn
      have e2 := h2 _ _ _ hk
      refine ⟨congrArg Nat.succ (hl.trans e1), hl2.trans e2, ?_⟩
      split at q
      case h_2 => exact q.elim
      rename_i fr ce he
      have r3 := r2.take hv he
      have r4 : Rel K c σ (ρ2.set i .lent) (Fj.tms ws es ++ (Fj.tms vs ds ++ (vr, .own fr ce) :: T)) H2 := by
        refine r3.perm ?_
        refine List.perm_middle.symm.trans ?_
        exact List.Perm.append_left _ List.perm_middle.symm
      obtain ⟨F, fp, f2⟩ := r4
      obtain ⟨a2, f1⟩ := f2.tms hl2
      obtain ⟨a1, f0⟩ := f1.tms hl
      have all := pick_rps ((a1.app a2).app (hd F)) p
      have pk : pick (up1 p) ((vr :: vs) ++ ws ++ dvs) = vr :: pick p (vs ++ ws ++ dvs) := pick_up1 vr (vs ++ ws ++ dvs) p
      have len : (pick p (vs ++ ws ++ dvs)).length + 1 = np := by
        rw [all.length, ← hp.1]
        have tot : (ds ++ es ++ dd).length = k1 + k2 + dd.length := by rw [List.length_append, List.length_append, e1, e2]
        refine congrArg Nat.succ (pick_len p fun j hj => ?_)
        rw [tot]
        exact hp.2 j hj
      obtain ⟨fc, ⟨fq, hc, hq, hfr, hfp⟩, rin⟩ := f0.lendIn all
      have nd := f0.nd
      rw [hfp] at nd
      have hown : ∀ a ∈ fc, c.W a ∨ c.H0 a = none := fun a ha => (f0.own a (by rw [hfp]; exact List.mem_append_left _ ha)).2
      rw [pk]
      refine ⟨_, _, rfl, len, rin, fun j fr' ce' z => ?_, ?_⟩
      · cases j with
        | zero => exact ⟨vr, rfl⟩
        | succ j =>
          have z : ((pick p (ds ++ es ++ dd)).map Ent.val)[j]? = some (.own fr' ce') := z
          rw [List.getElem?_map] at z
          cases y : (pick p (ds ++ es ++ dd))[j]? with
          | none =>
            rw [y] at z
            cases z
          | some d =>
            rw [y] at z
            cases z
      · cases hf : f (.own false ce :: (pick p (ds ++ es ++ dd)).map .val) with
        | none =>
          rw [hf] at q
          exact q
        | some z =>
          obtain ⟨e, outs⟩ := z
          rw [hf] at q
          cases outs with
          | nil => exact q.elim
          | cons o outs =>
            cases o with
            | own b ce' =>
              cases b with
              | true => exact q.elim
              | false =>
                simp only at q
                intro v H' r'
                split at q
                · rename_i hre
                  refine q v H' ?_
                  have r5 := RelF.lendOut hq hfr nd hown r' hre
                  exact r2.put_back he hv r5.swap
                · exact q.elim
            | no => exact q.elim
            | val d => exact q.elim
            | scr ns => exact q.elim
            | lent => exact q.elim
end
theorem j_lend {Y : Fam} {es : List Expr} {kws : List Keyword} {pos vpos : Pos} (i : Nat) {y : Str} {x : Str} {pp : Pos} {f : Addr} {fd : FuncData} {ps ks : List Str} {m : MF} {dvs : List V} {dd : List PyData} {p : List Nat} {n nk : MA} {k : Nat} (F : FnG Y.P Y.w Y.K Y.mg Y.base k f fd ps m) (hk : PySem.W.keepIn Y.K (.ref f) = true) (hm : Y.mg x = some (.ref f)) (hb : BindG Y.K fd ps (es.length + 1) ks dvs (up1 p)) (hd : ∀ F, Rps Y.K F dvs dd)
    (ha : JA Y es n) (hkw : JK Y kws nk) (h1 : ∀ ρ ds ρ', n ρ = some (ds, ρ') → ds.length = es.length) (h2 : ∀ ρ ds ρ', nk ρ = some (ds, ρ') → ds.length = ks.length) (hle : k ≤ Y.k) (hp : p.length + 1 = ps.length ∧ ∀ i ∈ p, i < es.length + ks.length + dd.length := by decide) (hg : ∀ j, Gl (Y.X j) x := by intro _; rfl)
    (hN : ∀ j, (Y.X j).N[i]? = some y := by intro _; rfl) (hv : ∀ j, Vis (Y.X j).env.scope y := by first | exact fun _ => Or.inl rfl | exact fun _ => Or.inr (Or.inl rfl) | exact fun _ => Or.inr (Or.inr rfl)) (hyd : (y == ("__debug__" : Str)) = false := by decide) (hyc : (y == ("__classdict__" : Str)) = false := by decide)
    (hall : ∀ j, (backToKw pos (keywordEach kws (Y.X j).env)).all (·.1.isSome) = true := by intro _; rfl) (hks : ∀ j, (backToKw pos (keywordEach kws (Y.X j).env)).filterMap (·.1) = ks := by intro _; rfl) (hdb : (x == ("__debug__" : Str)) = false := by decide) (he : ∀ j, starEach (.Name y vpos :: es) (Y.X j).env = (false, eval (.Name y vpos) (Y.X j).env) :: starEach es (Y.X j).env := by intro _; rfl)
    (hpl : ∀ j, ((backTo pos (starEach (.Name y vpos :: es) (Y.X j).env)).any (·.1) || (backToKw pos (keywordEach kws (Y.X j).env)).any (·.1.isNone)) = false := by intro _; rfl) : JO Y (.Call (.Name x pp) (.Name y vpos :: es) kws pos) (mLend i m p dd n nk) := by
  obtain ⟨t, pa, s1⟩ := ha
  obtain ⟨tk, pk, s2⟩ := hkw
  refine ⟨tCallG Y.K (es.length + 1) ks.length ps.length dvs (up1 p) m (tCons (tVar i) t) tk, fun j => ?_, sem_lend s1 s2 hd h1 h2 hp⟩
  have F' : FnG (Y.X j).prog (Y.X j).w (Y.X j).K (Y.X j).mg (Y.X j).base k f fd ps m := by
    rw [Y.hP j, Y.hw j, Y.hK j, Y.hmg j, Y.hbase j]
    exact F
  have hb' : BindG (Y.X j).K fd ps (es.length + 1) ks dvs (up1 p) := by
    rw [Y.hK j]
    exact hb
  rw [← Y.hK j]
  exact pe_callG F' ((Y.room j).mono hle) (Y.gd j) (hg j) (by rw [Y.hmg j]; exact hm) (by rw [Y.hK j]; exact hk) hb' (pa_cons (pe_var (hN j) (hv j) hyd hyc) (pa j) (he j)) (pk j) (hall j) (hks j) hdb (he j) (hpl j)
end Fj

set_option Elab.async false
set_option linter.all false
set_option maxRecDepth 100000
set_option maxHeartbeats 4000000
set_option autoImplicit false
/-! The script handed on, and a law's end. -/
namespace Fj
open PySem PySem.Spec PyProof.Rows L2

section
variable {K : PySem.W.Frag} {c : Ct} {σ : L2.St} {ρ : En} {T : Tm} {H F : Hp} {fp : List Addr}
theorem sql_keep {H H' : Hp} {a : Addr} {xs : List V} (h : SqL K H a xs) (k : ∀ o, H a = some o → H' a = some o) : SqL K H' a xs := by
  rcases h with (h | ⟨o, h⟩) | h
  · exact .inl (.inl (k _ h))
  · exact .inl (.inr ⟨o, k _ h⟩)
  · exact .inr h
/-- f(script): the script is handed on -/
def mScr (i : Nat) (f : MF) : MO := fun ρ => match ρ[i]? with
  | some (.scr ns) => match f [.scr ns] with
    | some (e, _) => if resE e = true then some (e, ρ) else none
    | none => none
  | _ => none
theorem RelF.scrIn {a : Addr} {ns : List Int} (f : RelF K c σ ρ T H F fp) (h : SqL K c.H0 a (ns.map V.int)) (w : ¬ c.W a) : Rel K ⟨F, H, fun _ => False, []⟩ [some (.ref a)] [.scr ns] [] H := by
  have sl : Slots K ⟨F, H, fun _ => False, []⟩ F H [(some (.ref a), .scr ns)] ([] ++ []) := .cons (.scr (sql_keep h fun o z => f.keep a o z w) id) .nil
  exact ⟨F, [], fun _ _ z => z, f.fh, fun a z => .inl z, fun a o z _ => z, fun a z => z, sl, List.nodup_nil, fun a z => (List.not_mem_nil z).elim, rfl, fun i v z => by cases z⟩
theorem sem_scr {f : MF} {i : Nat} : SemO K (tCallG K 1 0 1 [] [0] f (tCons (tVar i) tNil) tNil) (mScr i f) := fun c σ ρ T H Q r q => by
  unfold mScr at q
  split at q
  case h_2 => exact q.elim
  rename_i ns he
  obtain ⟨a, hv, hs, hw⟩ := r.scrAt he
  refine ⟨_, hv, ⟨rfl, rfl, ?_⟩⟩
  obtain ⟨F, fp, rf⟩ := r
  refine ⟨_, _, rfl, rfl, rf.scrIn hs hw, fun j fr ce z => ?_, ?_⟩
  · cases j with
    | zero => cases z
    | succ j => cases z
  · cases hf : f [.scr ns] with
    | none =>
      rw [hf] at q
      exact q
    | some z =>
      obtain ⟨e, outs⟩ := z
      rw [hf] at q
      simp only at q
      intro v H' r'
      split at q
      · rename_i hre
        exact q v H' (rf.callOut r' hre)
      · exact q.elim
end
theorem j_scr {Y : Fam} {pos vpos : Pos} (i : Nat) {y : Str} {x : Str} {pp : Pos} {f : Addr} {fd : FuncData} {ps : List Str} {m : MF} {k : Nat} (F : FnG Y.P Y.w Y.K Y.mg Y.base k f fd ps m) (hk : PySem.W.keepIn Y.K (.ref f) = true) (hm : Y.mg x = some (.ref f)) (hb : BindG Y.K fd ps 1 [] [] [0])
    (hle : k ≤ Y.k) (hps : ps.length = 1 := by rfl) (hg : ∀ j, Gl (Y.X j) x := by intro _; rfl)
    (hN : ∀ j, (Y.X j).N[i]? = some y := by intro _; rfl) (hv : ∀ j, Vis (Y.X j).env.scope y := by first | exact fun _ => Or.inl rfl | exact fun _ => Or.inr (Or.inl rfl) | exact fun _ => Or.inr (Or.inr rfl)) (hyd : (y == ("__debug__" : Str)) = false := by decide) (hyc : (y == ("__classdict__" : Str)) = false := by decide)
    (hall : ∀ j, (backToKw pos (keywordEach [] (Y.X j).env)).all (·.1.isSome) = true := by intro _; rfl) (hks : ∀ j, (backToKw pos (keywordEach [] (Y.X j).env)).filterMap (·.1) = [] := by intro _; rfl) (hdb : (x == ("__debug__" : Str)) = false := by decide) (he : ∀ j, starEach [.Name y vpos] (Y.X j).env = (false, eval (.Name y vpos) (Y.X j).env) :: starEach [] (Y.X j).env := by intro _; rfl)
    (hpl : ∀ j, ((backTo pos (starEach [.Name y vpos] (Y.X j).env)).any (·.1) || (backToKw pos (keywordEach [] (Y.X j).env)).any (·.1.isNone)) = false := by intro _; rfl) : JO Y (.Call (.Name x pp) [.Name y vpos] [] pos) (mScr i m) := by
  refine ⟨tCallG Y.K 1 0 1 [] [0] m (tCons (tVar i) tNil) tNil, fun j => ?_, sem_scr⟩
  have F' : FnG (Y.X j).prog (Y.X j).w (Y.X j).K (Y.X j).mg (Y.X j).base k f fd ps m := by
    rw [Y.hP j, Y.hw j, Y.hK j, Y.hmg j, Y.hbase j]
    exact F
  have hb' : BindG (Y.X j).K fd ps 1 [] [] [0] := by
    rw [Y.hK j]
    exact hb
  rw [← Y.hK j]
  have hh := pe_callG (pp := pp) F' ((Y.room j).mono hle) (Y.gd j) (hg j) (by rw [Y.hmg j]; exact hm) (by rw [Y.hK j]; exact hk) hb' (pa_cons (pe_var (hN j) (hv j) hyd hyc) pa_nil (he j)) pk_nil (hall j) (hks j) hdb (he j) (hpl j)
  rw [hps] at hh
  exact hh

/-! ### the end -/
theorem law_callG {P : Program} {w : World} {K : PySem.W.Frag} {mg mb : Str → Option Value} {k : Nat} {fa a : Addr} {fd : FuncData} {x : Str} {m : MF} {s₁ : Shared} {vs : List Value} {ns : List Int}
    (KX : K.In s₁.heap) (hns : s₁.heap.Ns mainGlobals mg) (hb : s₁.heap.Ns builtinsNs mb) (hbb : ∀ x : Str, x ≠ "__name__" → mb x = bootBuiltins x) (hlim : s₁.heap.NoLimit) (hg : s₁.gens = #[])
    (ha : s₁.heap.get? a = some { cls := .type "list", data := .seq vs.toArray }) (hi : IntsAre vs ns) (hl : ns.length ≤ sizeLine) (hr : Room k callerA)
    (F : ∀ base : Heap, K.In base → base.Ns mainGlobals mg → FnG P w K mg base k fa fd [x] m) (hbind : ∀ (s : Shared) (u : Value), BindsTo s fd ⟨[u], []⟩ [(x, u)])
    (hm : ∃ outs, m [.scr ns] = some (.val (.bool true), outs)) :
    codeAny (model P w) callerA (.call (.ref fa) ⟨[.ref a], []⟩) (fun r s' => r = .ok (.ret (.bool true)) ∧ OldK s₁.heap s'.heap ∧ s'.os = s₁.os ∧ AllBare s'.gens) s₁ := by
  have rv := vals_ints hi
  have lenV := hi.length
  have core : ∀ H : Hp, (∀ b, H b = none ∨ ∃ o xs, H b = some (.frz o (.lst xs))) → SqL K H a (ns.map V.int) → HOk P w H s₁.heap → (∀ b, H b ≠ none → b = a) → (H a ≠ none → K.lookup a = none) →
      codeAny (model P w) callerA (.call (.ref fa) ⟨[.ref a], []⟩) (fun r s' => r = .ok (.ret (.bool true)) ∧ OldK s₁.heap s'.heap ∧ s'.os = s₁.os ∧ AllBare s'.gens) s₁ := by
    intro H hO hS hok hA hK
    have notA : ∀ {b : Addr}, b ≠ a → H b = none := fun {b} hb => Classical.byContradiction fun z => hb (hA b z)
    have onA : ∀ {b : Addr} {o : Obj}, s₁.heap.get? b = some o → b = a → o = { cls := .type "list", data := .seq vs.toArray } := fun {b o} e z => by
      subst z
      rw [ha] at e
      exact (Option.some.inj e).symm
    have dicts : ∀ {b : Addr} {o : Obj} {es : Array DictEntry} {ep : Nat}, s₁.heap.get? b = some o → o.data = .dict es ep → H b = none := fun {b o es ep} e d => by
      refine notA fun z => ?_
      rw [onA e z] at d
      cases d
    have nsK : ∀ {b : Addr} {mm : Str → Option Value}, s₁.heap.Ns b mm → (hidT s₁.heap H).Ns b mm := fun {b mm} ⟨o, es, ep, e, d, r⟩ => ⟨o, es, ep, hidT_get e (dicts e d), d, r⟩
    have hKb : K.In (hidT s₁.heap H) := fun b o e => hidT_get (KX b o e) (by
      refine Classical.byContradiction fun q => ?_
      have e' : b = a := hA b q
      subst e'
      rw [hK q] at e
      cases e)
    have hM : Mod K mg (hidT s₁.heap H) := ⟨hKb, nsK hns, ⟨mb, nsK hb, hbb⟩, let ⟨mc, h1, h2⟩ := hlim; ⟨mc, nsK h1, h2⟩⟩
    have e0 : Env0 P w K mg (hidT s₁.heap H) callerA [] s₁ H := ⟨rfl, hM, fun b o e => of_hidT e, Nat.le_of_eq (hidT_size _ _), trivial, fun b hb => (List.not_mem_nil hb).elim, hok, .of_eq hg⟩
    have sp : SpF K 1 m [.ref a] H (fun v _ => v = .bl true) := by
      obtain ⟨outs, hm⟩ := hm
      have sl : Slots K ⟨fun _ => none, H, fun _ => False, []⟩ (fun _ => none) H [(some (.ref a), .scr ns)] ([] ++ []) := .cons (.scr hS id) .nil
      have rel : Rel K ⟨fun _ => none, H, fun _ => False, []⟩ [some (.ref a)] [.scr ns] [] H := ⟨fun _ => none, [], fun _ _ z => z, (fun _ _ z => by cases z), fun _ z => absurd rfl z, fun _ _ z _ => z, fun _ z => z, sl, List.nodup_nil, fun _ z => (List.not_mem_nil z).elim, rfl, fun i v z => by cases z⟩
      refine ⟨_, [.scr ns], rfl, rfl, rel, fun j fr ce z => ?_, ?_⟩
      · cases j with
        | zero => cases z
        | succ j => cases z
      · rw [hm]
        intro v H' r
        obtain ⟨F', fp', r⟩ := r
        obtain ⟨fc, fq, _, h, _⟩ := r.pop
        cases h with
        | val r =>
          cases r with
          | bl b => rfl
    refine codeAny_mono ((F _ hKb (nsK hns)).go callerA [] s₁ H ⟨[.ref a], []⟩ [.ref a] [.ref a] _ hr rfl e0 (hbind s₁ (.ref a)) (.cons rfl .nil) sp) fun r s' h => ?_
    cases r with
    | error e => exact h.elim
    | ok fl =>
      cases fl with
      | next => exact False.elim h
      | brk => exact False.elim h
      | cont => exact False.elim h
      | ret u =>
        obtain ⟨v, H', os, bare, un, hok', r', q⟩ := h
        have q' : v = .bl true := q
        subst q'
        obtain rfl : u = Value.bool true := r'
        refine ⟨rfl, OldK.of_keep fun b o e => ?_, os, bare⟩
        rcases hO b with z | ⟨ob, xs, z⟩
        · exact un.keep b o e z (fun y => List.not_mem_nil y) (List.not_mem_nil)
        · obtain ⟨e1, _⟩ := hok b _ z
          obtain ⟨e2, _⟩ := hok' b _ (un.frzs b ob _ z)
          rw [e] at e1
          cases e1
          exact e2
  cases hk : K.lookup a with
  | some o =>
    have e := KX a o hk
    rw [ha] at e
    cases e
    refine core (fun _ => none) (fun _ => .inl rfl) (.inr ⟨_, vs.toArray, _, hk, rfl, rfl, rfl, by rw [List.size_toArray, lenV]; exact hl, by simpa using rv⟩) (fun b u z => by cases z) (fun b z => absurd rfl z) fun z => absurd rfl z
  | none =>
    have fst : ∀ {b : Addr} {u : HO}, (if b = a then some (HO.frz { cls := .type "list", data := .seq vs.toArray } (.lst (ns.map V.int))) else none) = some u → b = a ∧ u = .frz { cls := .type "list", data := .seq vs.toArray } (.lst (ns.map V.int)) := fun {b u} z => by
      split at z
      · rename_i hb
        exact ⟨hb, (Option.some.inj z).symm⟩
      · cases z
    refine core (fun b => if b = a then some (.frz { cls := .type "list", data := .seq vs.toArray } (.lst (ns.map V.int))) else none) (fun b => ?_) (.inl (.inr ⟨{ cls := .type "list", data := .seq vs.toArray }, if_pos rfl⟩)) (fun b u z => ?_) (fun b z => ?_) fun _ => hk
    · by_cases hb : b = a
      · exact .inr ⟨_, _, if_pos hb⟩
      · exact .inl (if_neg hb)
    · obtain ⟨rfl, rfl⟩ := fst z
      exact ⟨ha, by rw [List.length_map]; exact hl, vs, _, rv, ha⟩
    · exact Classical.byContradiction fun hb => z (if_neg hb)
theorem walk_G {l : PySem.W.OpenLaw} {n k : Nat} {q : Program} {loose : List Str} {XP : (Str → Option Value) → Heap → Prop} {YP : World → Heap → Prop} {d : DefRec} {x : Str}
    (hn : l.most = some n) (hn2 : n ≤ sizeLine) (hdf : d.params.defaults = []) (hr : Room k callerA)
    (F : ∀ (w : World) (mg : Str → Option Value) (fa : Addr) (h : Heap), YP w h → h.Ns mainGlobals mg → mg d.name = some (.ref fa) →
      ∃ (K : PySem.W.Frag) (fd : FuncData) (m : MF), K.In h ∧ (∀ (s : Shared) (u : Value), BindsTo s fd ⟨[u], []⟩ [(x, u)]) ∧
        (∀ ns : List Int, ns.length ≤ n → ∃ outs, m [.scr ns] = some (.val (.bool true), outs)) ∧
        ∀ base : Heap, K.In base → base.Ns mainGlobals mg → FnG l.prog w K mg base k fa fd [x] m) :
    PySem.W.WalkO q loose XP YP l.row.toRowW d [] (fun f vs => PySem.call f vs) := by
  refine Att.attach_call hn hdf fun w s₀ s₁ mg mb fa o pm cd doc a vs ns G Y ho hd hcd hmg hobj hints hlen hg => ?_
  obtain ⟨K, fd, m, KX, hb, hm, hF⟩ := F w mg fa _ Y G.T.g hmg
  exact law_callG KX G.T.g G.T.b G.T.builtins G.T.nolimit hg hobj hints (Nat.le_trans hlen hn2) hr (hF) hb (hm ns hlen)
end Fj

set_option Elab.async false
set_option linter.all false
set_option maxRecDepth 100000
set_option maxHeartbeats 4000000
set_option autoImplicit false
/-! Own lists read as data for the time of an expression. -/
namespace Fj
open PySem PySem.Spec PyProof.Rows L2

/-- what an expression may see of a slot -/
def borS : Ent → Ent
  | .val d => .val d
  | .own _ (.lst ds) => .val (.list ds)
  | .own _ (.deck s l m t) => .own false (.deck s l m t)
  | _ => .no
/-- what stays behind -/
def keepS : Ent → Ent
  | .own _ (.deck _ _ _ _) => .no
  | e => e
/-- what comes back -/
def merS : Ent → Ent → Ent
  | .own fr (.deck _ _ _ _), .own _ (.deck s l m t) => .own fr (.deck s l m t)
  | .own _ (.deck _ _ _ _), _ => .no
  | e, _ => e
def merE : En → En → En
  | a :: as, b :: bs => merS a b :: merE as bs
  | [], _ => []
  | a :: as, [] => keepS a :: merE as []
def dkFit (fr : Bool) : Ent → Bool
  | .own f (.deck _ _ _ _) => f == fr
  | _ => true
def dkAll (fr : Bool) (ρ : En) : Bool := ρ.all (dkFit fr)
def isDk : Ent → Bool
  | .own _ (.deck _ _ _ _) => true
  | _ => false
/-- decks are still there -/
def dkKept : En → En → Bool
  | [], _ => true
  | a :: as, [] => !isDk a && dkKept as []
  | a :: as, b :: bs => (!isDk a || isDk b) && dkKept as bs
def nlE : Ent → Bool
  | .val d => nlD d
  | .own true (.lst ds) => nlAll ds
  | _ => false
def borOk (ρ : En) : Bool := dkAll true ρ || dkAll false ρ
def mBor (m : MO) : MO := fun ρ => if borOk ρ = true then (match m (ρ.map borS) with
  | some (e, ρ2) => if nlE e = true ∧ dkKept ρ ρ2 = true then some (e, merE ρ ρ2) else none
  | none => none) else none
def mBorT (m : MT) : MT := fun ρ => if borOk ρ = true then (match m (ρ.map borS) with
  | some (b, ρ2) => if dkKept ρ ρ2 = true then some (b, merE ρ ρ2) else none
  | none => none) else none
section
variable {K : PySem.W.Frag} {c c' : Ct} {σ : L2.St} {ρ ρ2 : En} {T : Tm} {H H2 F F2 F3 : Hp} {fp fq : List Addr} {fr : Bool}
/-- the slots in two: decks, and all else with the lists that are read -/
theorem slots_bor (hd : dkAll fr ρ = true) (h : Slots K c F H (σ.zip ρ) fp) : ∃ D N B : List Addr, fp.Perm (D ++ N) ∧ (∀ a ∈ B, a ∈ N ∧ ∃ vs, H a = some (.lst vs)) ∧ Slots K c F H (σ.zip (ρ.map keepS)) N ∧ (fr = true → ∀ a ∈ D, c.H0 a = none) ∧
    ∀ (F' : Hp) (c' : Ct), Same F F' → (∀ a ∈ B, F' a = H a) → Slots K c' F' H (σ.zip (ρ.map borS)) D := by
  induction ρ generalizing σ fp with
  | nil =>
    cases σ with
    | nil =>
      cases h
      exact ⟨[], [], [], .refl _, fun _ z => (List.not_mem_nil z).elim, .nil, fun _ a ha => (List.not_mem_nil ha).elim, fun _ _ _ _ => .nil⟩
    | cons x σ =>
      cases h
      exact ⟨[], [], [], .refl _, fun _ z => (List.not_mem_nil z).elim, .nil, fun _ a ha => (List.not_mem_nil ha).elim, fun _ _ _ _ => .nil⟩
  | cons e ρ ih =>
    cases σ with
    | nil =>
      cases h
      exact ⟨[], [], [], .refl _, fun _ z => (List.not_mem_nil z).elim, .nil, fun _ a ha => (List.not_mem_nil ha).elim, fun _ _ _ _ => .nil⟩
    | cons x σ =>
      have h0 : Slots K c F H ((x, e) :: σ.zip ρ) fp := h
      clear h
      have hd2 : dkFit fr e = true ∧ dkAll fr ρ = true := Bool.and_eq_true_iff.mp hd
      cases h0 with
      | @cons _ fc fr0 _ h t =>
        obtain ⟨D, N, B, pm, sub, s1, hfr, s2⟩ := ih hd2.2 t
        have plain : (hk : keepS e = e) → (hb : borS e = .no) → ∃ D N B : List Addr, (fc ++ fr0).Perm (D ++ N) ∧ (∀ a ∈ B, a ∈ N ∧ ∃ vs, H a = some (.lst vs)) ∧ Slots K c F H ((x :: σ).zip ((e :: ρ).map keepS)) N ∧ (fr = true → ∀ a ∈ D, c.H0 a = none) ∧
            ∀ (F' : Hp) (c' : Ct), Same F F' → (∀ a ∈ B, F' a = H a) → Slots K c' F' H ((x :: σ).zip ((e :: ρ).map borS)) D := fun hk hb => by
          refine ⟨D, fc ++ N, B, ?_, fun a ha => ⟨List.mem_append_right _ (sub a ha).1, (sub a ha).2⟩, ?_, hfr, fun F' c' e1 e2 => ?_⟩
          · exact (List.Perm.append_left fc pm).trans (by rw [← List.append_assoc, ← List.append_assoc]; exact List.Perm.append_right _ List.perm_append_comm)
          · show Slots K c F H ((x, keepS e) :: σ.zip (ρ.map keepS)) (fc ++ N)
            rw [hk]
            exact .cons h s1
          · show Slots K c' F' H ((x, borS e) :: σ.zip (ρ.map borS)) D
            rw [hb]
            exact Slots.cons (fc := []) (.no _) (s2 F' c' e1 e2)
        cases h with
        | no x => exact plain rfl rfl
        | lent x => exact plain rfl rfl
        | scr h w => exact plain rfl rfl
        | val r =>
          refine ⟨D, N, B, pm, sub, Slots.cons (fc := []) (.val r) s1, hfr, fun F' c' e1 e2 => Slots.cons (fc := []) (.val (r.mono e1)) (s2 F' c' e1 e2)⟩
        | @own v fr1 ce _ r hh =>
          cases r with
          | dct h hk r => exact plain rfl rfl
          | @lst a vs ds h r =>
            refine ⟨D, [a] ++ N, a :: B, ?_, fun b hb => ?_, .cons (.own (.lst h r) hh) s1, hfr, fun F' c' e1 e2 => Slots.cons (fc := []) (.val (.lst ?_ (r.mono e1))) (s2 F' c' e1 fun b hb => e2 b (List.mem_cons_of_mem _ hb))⟩
            · exact (List.Perm.append_left [a] pm).trans (by rw [← List.append_assoc, ← List.append_assoc]; exact List.Perm.append_right _ List.perm_append_comm)
            · rcases List.mem_cons.mp hb with z | z
              · rw [z]
                exact ⟨List.mem_append_left _ (List.mem_singleton.mpr rfl), vs, h⟩
              · exact ⟨List.mem_append_right _ (sub b z).1, (sub b z).2⟩
            · rw [e2 a (List.mem_cons_self ..)]
              exact h
          | @deck a b s left m t' h g =>
            have hf : fr1 = fr := eq_of_beq hd2.1
            refine ⟨[a, b] ++ D, N, B, (List.Perm.append_left _ pm).trans (by rw [List.append_assoc]), sub, Slots.cons (fc := []) (.no _) s1, fun z y hy => ?_, fun F' c' e1 e2 => .cons (.own (.deck h g) fun z => by cases z) (s2 F' c' e1 e2)⟩
            rcases List.mem_append.mp hy with q | q
            · exact hh (hf.trans z) y q
            · exact hfr z y q
theorem slots_mer (h1 : Slots K c F3 H2 (σ.zip (ρ.map keepS)) fp) (h2 : Slots K c' F2 H2 (σ.zip ρ2) fq) (hfr : ∀ a ∈ fq, fr = true → c.H0 a = none) (hd : dkAll fr ρ = true) : ∃ f g : List Addr, f.Sublist fq ∧ g.Perm (f ++ fp) ∧ Slots K c F3 H2 (σ.zip (merE ρ ρ2)) g := by
  induction ρ generalizing σ fp fq ρ2 with
  | nil =>
    have e : merE [] ρ2 = [] := by cases ρ2 <;> rfl
    rw [e]
    cases σ with
    | nil =>
      cases h1
      exact ⟨[], [], List.nil_sublist _, .refl _, .nil⟩
    | cons x σ =>
      cases h1
      exact ⟨[], [], List.nil_sublist _, .refl _, .nil⟩
  | cons e ρ ih =>
    cases σ with
    | nil =>
      cases h1
      exact ⟨[], [], List.nil_sublist _, .refl _, .nil⟩
    | cons x σ =>
      have h0 : Slots K c F3 H2 ((x, keepS e) :: σ.zip (ρ.map keepS)) fp := h1
      clear h1
      have hd2 : dkFit fr e = true ∧ dkAll fr ρ = true := Bool.and_eq_true_iff.mp hd
      cases h0 with
      | @cons _ fc fr0 _ h t =>
        have rest : ∃ fa fb : List Addr, ∃ o : Option Ent, fq = fa ++ fb ∧ (∀ e2, o = some e2 → SlotOk K c' F2 H2 (x, e2) fa) ∧ (match o with
          | some e2 => ρ2 = e2 :: ρ2.tail
          | none => ρ2 = []) ∧ Slots K c' F2 H2 (σ.zip ρ2.tail) fb := by
          cases ρ2 with
          | nil =>
            cases h2
            refine ⟨[], [], none, rfl, (fun _ z => by cases z), rfl, ?_⟩
            cases σ <;> exact .nil
          | cons e2 ρ2 =>
            have h0 : Slots K c' F2 H2 ((x, e2) :: σ.zip ρ2) fq := h2
            clear h2
            cases h0 with
            | @cons _ fa fb _ h' t' => exact ⟨fa, fb, some e2, rfl, (fun _ z => by cases z; exact h'), rfl, t'⟩
        obtain ⟨fa, fb, o, rfl, hx, hρ, ht⟩ := rest
        obtain ⟨f, g, sub, pm, sl⟩ := ih t ht (fun a ha => hfr a (List.mem_append_right _ ha)) hd2.2
        have keepit : ∀ (e' : Ent), keepS e = e' → ∃ f g : List Addr, f.Sublist (fa ++ fb) ∧ g.Perm (f ++ (fc ++ fr0)) ∧ Slots K c F3 H2 ((x, e') :: σ.zip (merE ρ ρ2.tail)) g := fun e' he => by
          subst he
          refine ⟨f, fc ++ g, sub.trans (List.sublist_append_right _ _), ?_, .cons h sl⟩
          exact (List.Perm.append_left fc pm).trans (by rw [← List.append_assoc, ← List.append_assoc]; exact List.Perm.append_right _ List.perm_append_comm)
        cases o with
        | none =>
          have hρ : ρ2 = [] := hρ
          subst hρ
          exact keepit _ rfl
        | some e2 =>
          have hρ : ρ2 = e2 :: ρ2.tail := hρ
          rw [hρ]
          show ∃ f g : List Addr, f.Sublist (fa ++ fb) ∧ g.Perm (f ++ (fc ++ fr0)) ∧ Slots K c F3 H2 ((x, merS e e2) :: σ.zip (merE ρ ρ2.tail)) g
          by_cases hdk : ∃ f1 s l m t f2 s' l' m' t', e = .own f1 (.deck s l m t) ∧ e2 = .own f2 (.deck s' l' m' t')
          · obtain ⟨f1, s, l, m, t, f2, s', l', m', t', rfl, rfl⟩ := hdk
            have hf : f1 = fr := eq_of_beq hd2.1
            have h' := hx _ rfl
            cases h with
            | no =>
              cases h' with
              | own r hh =>
                cases r with
                | deck u w =>
                  refine ⟨_ ++ f, _ ++ g, List.Sublist.append_left sub _, ?_, .cons (.own (.deck u w) fun z a ha => hfr a (List.mem_append_left _ ha) (hf ▸ z)) sl⟩
                  rw [List.append_assoc]
                  exact List.Perm.append_left _ pm
          · refine keepit _ ?_
            cases e with
            | own f1 ce =>
              cases ce with
              | deck s l m t =>
                cases e2 with
                | own f2 ce2 =>
                  cases ce2 with
                  | deck s' l' m' t' => exact absurd ⟨_, _, _, _, _, _, _, _, _, _, rfl, rfl⟩ hdk
                  | _ => rfl
                | _ => rfl
              | _ => rfl
            | _ => rfl
theorem merE_len : ∀ (ρ ρ2 : En), (merE ρ ρ2).length = ρ.length
  | [], ρ2 => by cases ρ2 <;> rfl
  | a :: as, [] => congrArg Nat.succ (merE_len as [])
  | a :: as, b :: bs => congrArg Nat.succ (merE_len as bs)
theorem pinE_mer : ∀ (ρ ρ2 : En) (i : Nat) (e : Ent), dkKept ρ ρ2 = true → ρ[i]? = some e → pinE e = true → ∃ e', (merE ρ ρ2)[i]? = some e' ∧ pinE e' = true
  | [], _, i, e, _, h, _ => by simp at h
  | a :: as, [], 0, e, k, h, p => by
    have h : a = e := Option.some.inj h
    subst h
    refine ⟨keepS a, rfl, ?_⟩
    have k1 := (Bool.and_eq_true_iff.mp k).1
    cases a with
    | own f ce =>
      cases ce with
      | deck s l m t => cases k1
      | _ => exact p
    | _ => exact p
  | a :: as, b :: bs, 0, e, k, h, p => by
    have h : a = e := Option.some.inj h
    subst h
    refine ⟨merS a b, rfl, ?_⟩
    have k1 := (Bool.and_eq_true_iff.mp k).1
    cases a with
    | own f ce =>
      cases ce with
      | deck s l m t =>
        cases b with
        | own f2 ce2 =>
          cases ce2 with
          | deck s' l' m' t' =>
            cases f with
            | false => rfl
            | true => cases p
          | _ => cases k1
        | _ => cases k1
      | _ => exact p
    | _ => exact p
  | a :: as, [], i + 1, e, k, h, p => pinE_mer as [] i e (Bool.and_eq_true_iff.mp k).2 h p
  | a :: as, b :: bs, i + 1, e, k, h, p => pinE_mer as bs i e (Bool.and_eq_true_iff.mp k).2 h p
theorem slots_nl {S : Tm} (hS : ∀ p ∈ S, nlE p.2 = true) (hq : ∀ a xs, SqT K F2 a xs → SqT K F3 a xs) (hz : ∀ a, c'.H0 a = none → c.H0 a = none) (h : Slots K c' F2 H2 (tmp S) fq) : Slots K c F3 H2 (tmp S) fq := by
  induction S generalizing fq with
  | nil =>
    cases h
    exact .nil
  | cons p S ih =>
    obtain ⟨v, e⟩ := p
    have h0 : Slots K c' F2 H2 ((some v, e) :: tmp S) fq := h
    clear h
    cases h0 with
    | cons h t =>
      refine Slots.cons ?_ (ih (fun p hp => hS p (List.mem_cons_of_mem _ hp)) t)
      have n : nlE e = true := hS (v, e) (List.mem_cons_self ..)
      cases h with
      | no x => cases n
      | lent x => cases n
      | scr h w => cases n
      | val r => exact .val (r.nl hq n)
      | @own _ fr1 ce _ r hh =>
        cases fr1 with
        | false => cases n
        | true =>
          cases r with
          | lst h r => exact .own (.lst h (r.nl hq n)) fun z a ha => hz a (hh z a ha)
          | dct h hk r => cases n
          | deck h g => cases n
theorem Rel.bor (r : Rel K c σ ρ T H) (ok : borOk ρ = true) : ∃ c' : Ct, Rel K c' σ (ρ.map borS) [] H ∧ ∀ (S : Tm) (ρ2 : En) (H2 : Hp), dkKept ρ ρ2 = true → (∀ p ∈ S, nlE p.2 = true) → Rel K c' σ ρ2 S H2 → Rel K c σ (merE ρ ρ2) (S ++ T) H2 := by
  have ok : ∃ fr, dkAll fr ρ = true := (Bool.or_eq_true_iff.mp ok).elim (fun z => ⟨_, z⟩) fun z => ⟨_, z⟩
  obtain ⟨fr, hd⟩ := ok
  obtain ⟨F, fp, r⟩ := r
  obtain ⟨fT, fS, rfl, sT, sS⟩ := Slots.split r.sl
  obtain ⟨D, N, B, pm, sub, sN, hfr, sb⟩ := slots_bor hd sS
  have nd : (fT ++ (D ++ N)).Nodup := (List.Perm.append_left fT pm).nodup_iff.mp r.nd
  have inS : ∀ a, a ∈ D ∨ a ∈ N → a ∈ fT ++ fS := fun a ha => List.mem_append_right _ (pm.mem_iff.mpr (List.mem_append.mpr ha))
  have DN : ∀ a ∈ D, a ∉ N := fun a ha hb => (List.nodup_append.mp (List.nodup_append.mp nd).2.1).2.2 a ha a hb rfl
  have TD : ∀ a ∈ fT, a ∉ D := fun a ha hb => (List.nodup_append.mp nd).2.2 a ha a (List.mem_append_left _ hb) rfl
  have FB : ∀ a ∈ B, F a = none := fun a ha => (r.own a (inS a (.inr (sub a ha).1))).1
  have back : ∀ a, H a = none → c.H0 a = none := fun a ha => Classical.byContradiction fun z => r.trk a z ha
  let F' : Hp := fun b => if b ∈ B then H b else F b
  have F'B : ∀ b ∈ B, F' b = H b := fun b hb => if_pos hb
  have F'n : ∀ b, b ∉ B → F' b = F b := fun b hb => if_neg hb
  have sF : Same F F' := fun b u z => (F'n b fun hb => by rw [FB b hb] at z; cases z).trans z
  have inner : Rel K ⟨F', H, fun a => a ∈ D, []⟩ σ (ρ.map borS) [] H := by
    refine ⟨F', D, fun _ _ z => z, fun b u z => ?_, fun _ z => .inl z, fun _ _ z _ => z, fun _ z => z, sb F' _ sF F'B, (List.nodup_append.mp (List.nodup_append.mp nd).2.1).1, fun a ha => ⟨?_, .inl ha⟩, by rw [List.length_map]; exact r.len, fun i v z => by cases z⟩
    · by_cases hb : b ∈ B
      · rw [F'B b hb] at z
        exact z
      · rw [F'n b hb] at z
        exact r.fh b u z
    · rw [F'n a fun z => DN a ha (sub a z).1]
      exact (r.own a (inS a (.inl ha))).1
  refine ⟨_, inner, fun S ρ2 H2 hk hS r2 => ?_⟩
  obtain ⟨F2, fq0, r2⟩ := r2
  obtain ⟨fX, fq, rfl, sX, sq⟩ := Slots.split r2.sl
  let F3 : Hp := fun b => if b ∈ B then none else F2 b
  have F3B : ∀ b ∈ B, F3 b = none := fun b hb => if_pos hb
  have F3n : ∀ b, b ∉ B → F3 b = F2 b := fun b hb => if_neg hb
  have sF3 : Same F F3 := fun b u z => by
    have hb : b ∉ B := fun hb => by rw [FB b hb] at z; cases z
    rw [F3n b hb]
    exact r2.f0 b u ((F'n b hb).trans z)
  have kp : ∀ a o, H a = some o → a ∉ D → H2 a = some o := fun a o z w => r2.keep a o z w
  have kq : ∀ a, H a ≠ none → a ∉ D → H2 a = H a := fun a z w => by
    cases y : H a with
    | none => exact absurd y z
    | some o => exact kp a o y w
  have ownq : ∀ a ∈ fX ++ fq, F3 a = none ∧ (c.W a ∨ c.H0 a = none) ∧ (a ∈ D ∨ H a = none) := fun a ha => by
    obtain ⟨z1, z2⟩ := r2.own a ha
    have z2 : a ∈ D ∨ H a = none := z2
    refine ⟨?_, z2.elim (fun z => (r.own a (inS a (.inl z))).2) fun z => .inr (back a z), z2⟩
    by_cases hb : a ∈ B
    · exact F3B a hb
    · rw [F3n a hb]
      exact z1
  have ownp : ∀ a, a ∈ fT ∨ a ∈ N → F3 a = none ∧ (c.W a ∨ c.H0 a = none) ∧ a ∉ D ∧ H a ≠ none := fun a ha => by
    have m : a ∈ fT ++ fS := ha.elim (fun z => List.mem_append_left _ z) fun z => inS a (.inr z)
    have hh : H a ≠ none := r.sl.there a m
    refine ⟨?_, (r.own a m).2, ha.elim (TD a) (fun z y => DN a y z), hh⟩
    by_cases hb : a ∈ B
    · exact F3B a hb
    · rw [F3n a hb]
      cases z : F2 a with
      | none => rfl
      | some o =>
        rcases r2.new a (by rw [z]; exact fun z => nomatch z) with y | y
        · have y : F' a ≠ none := y
          rw [F'n a hb] at y
          exact absurd (r.own a m).1 y
        · exact absurd y hh
  have sN2 : Slots K c F3 H2 (σ.zip (ρ.map keepS)) N := sN.stay sF3 fun a ha => kq a (ownp a (.inr ha)).2.2.2 (ownp a (.inr ha)).2.2.1
  have sT2 : Slots K c F3 H2 (tmp T) fT := sT.stay sF3 fun a ha => kq a (ownp a (.inl ha)).2.2.2 (ownp a (.inl ha)).2.2.1
  obtain ⟨f, g, sf, pg, sG⟩ := slots_mer (fr := fr) (c := c) sN2 sq (fun a ha z => (ownq a (List.mem_append_right _ ha)).2.2.elim (hfr z a) (back a)) hd
  have sX2 : Slots K c F3 H2 (tmp S) fX := slots_nl hS (fun a xs h => by
    by_cases hb : a ∈ B
    · obtain ⟨vs, hv⟩ := (sub a hb).2
      have z := r2.f0 a _ ((F'B a hb).trans hv)
      rcases h with (h | ⟨o, h⟩) | h
      · rw [z] at h
        cases h
      · rw [z] at h
        cases h
      · exact .inr h
    · rcases h with (h | ⟨o, h⟩) | h
      · exact .inl (.inl ((F3n a hb).trans h))
      · exact .inl (.inr ⟨o, (F3n a hb).trans h⟩)
      · exact .inr h) back sX
  have pmf : (fX ++ (fT ++ g)).Perm ((fX ++ f) ++ (fT ++ N)) := by
    rw [List.append_assoc]
    refine List.Perm.append_left fX ?_
    refine (List.Perm.append_left fT pg).trans ?_
    rw [← List.append_assoc, ← List.append_assoc]
    exact List.Perm.append_right _ List.perm_append_comm
  have memq : ∀ a ∈ fX ++ f, a ∈ fX ++ fq := fun a ha => (List.mem_append.mp ha).elim (fun z => List.mem_append_left _ z) fun z => List.mem_append_right _ (sf.mem z)
  refine ⟨F3, fX ++ (fT ++ g), r.f0.trans sF3, fun b u z => ?_, fun a z => ?_, fun a o z w => ?_, fun a z => r2.trk a (r.trk a z), ?_, pmf.nodup_iff.mpr (List.nodup_append.mpr ⟨r2.nd.sublist (List.Sublist.append_left sf _), ?_, fun a ha b hb z => ?_⟩), fun a ha => ?_, by rw [merE_len]; exact r.len, fun i w z => ?_⟩
  · by_cases hb : b ∈ B
    · rw [F3B b hb] at z
      cases z
    · rw [F3n b hb] at z
      exact r2.fh b u z
  · by_cases hb : a ∈ B
    · exact absurd (F3B a hb) z
    · rw [F3n a hb] at z
      rcases r2.new a z with y | y
      · have y : F' a ≠ none := y
        rw [F'n a hb] at y
        exact r.new a y
      · exact .inr (back a y)
  · refine kp a o (r.keep a o z w) fun y => ?_
    rcases (r.own a (inS a (.inl y))).2 with q | q
    · exact w q
    · rw [q] at z
      cases z
  · have e : tmp (S ++ T) ++ σ.zip (merE ρ ρ2) = tmp S ++ (tmp T ++ σ.zip (merE ρ ρ2)) := by
      show (S ++ T).map _ ++ _ = _
      rw [List.map_append, List.append_assoc]
      rfl
    rw [e]
    exact sX2.app (sT2.app sG)
  · exact nd.sublist (List.Sublist.append_left (List.sublist_append_right _ _) _)
  · subst z
    have q := (ownq a (memq a ha)).2.2
    obtain ⟨_, _, q1, q2⟩ := ownp a (List.mem_append.mp hb)
    exact q.elim q1 q2
  · rcases List.mem_append.mp (pmf.mem_iff.mp ha) with z | z
    · exact ⟨(ownq a (memq a z)).1, (ownq a (memq a z)).2.1⟩
    · exact ⟨(ownp a (List.mem_append.mp z)).1, (ownp a (List.mem_append.mp z)).2.1⟩
  · obtain ⟨z1, e0, z2, z3⟩ := r.pin i w z
    exact ⟨z1, pinE_mer ρ ρ2 i e0 hk z2 z3⟩
theorem SemO.bor {t : TE} {m : MO} (s : SemO K t m) : SemO K t (mBor m) := fun c σ ρ T H Q r q => by
  unfold mBor at q
  split at q
  · rename_i ok
    obtain ⟨c', r1, bk⟩ := r.bor ok
    refine s c' σ _ [] H Q r1 ?_
    cases hm : m (ρ.map borS) with
    | none =>
      rw [hm] at q
      exact q
    | some z =>
      obtain ⟨e, ρ2⟩ := z
      rw [hm] at q
      simp only at q
      intro v H2 r2
      split at q
      · rename_i hh
        exact q v H2 (bk [(v, e)] ρ2 H2 hh.2 (fun p hp => by rw [List.mem_singleton.mp hp]; exact hh.1) r2)
      · exact q.elim
  · exact q.elim
theorem SemT.bor {t : TT} {m : MT} (s : SemT K t m) : SemT K t (mBorT m) := fun c σ ρ T H Q r q => by
  unfold mBorT at q
  split at q
  · rename_i ok
    obtain ⟨c', r1, bk⟩ := r.bor ok
    refine s c' σ _ [] H Q r1 ?_
    cases hm : m (ρ.map borS) with
    | none =>
      rw [hm] at q
      exact q
    | some z =>
      obtain ⟨e, ρ2⟩ := z
      rw [hm] at q
      simp only at q
      intro H2 r2
      split at q
      · rename_i hh
        exact q H2 (bk [] ρ2 H2 hh (fun p hp => (List.not_mem_nil hp).elim) r2)
      · exact q.elim
  · exact q.elim
end
theorem j_bor {Y : Fam} {e : Expr} {m : MO} (h : JO Y e m) : JO Y e (mBor m) := let ⟨t, p, s⟩ := h; ⟨t, p, s.bor⟩
theorem j_borV {Y : Fam} {e : Expr} {m : MV} (h : JV Y e m) : JV Y e (mFz (mBor (mVal m))) := j_fz (j_bor (j_val h))
theorem t_bor {Y : Fam} {e : Expr} {m : MT} (h : JT Y e m) : JT Y e (mBorT m) := let ⟨t, p, s⟩ := h; ⟨t, p, s.bor⟩
end Fj

set_option Elab.async false
set_option linter.all false
set_option maxRecDepth 100000
set_option maxHeartbeats 4000000
set_option autoImplicit false
/-! The deck of a law: made, read, written. -/
namespace Fj
open PySem PySem.Spec PyProof.Rows L2

section
variable {K : PySem.W.Frag} {c : Ct} {σ : L2.St} {ρ : En} {T : Tm} {H F : Hp} {fp : List Addr}
abbrev dkV (s : Nat) (b : Addr) (m t : V) : List (Key × V) := [(.inr (dkK s).1, .ref b), (.inr (dkK s).2.1, m), (.inr (dkK s).2.2, t)]
theorem dk_ne3 : ("cells" : Str) ≠ "mixed" ∧ ("cells" : Str) ≠ "draws" ∧ ("mixed" : Str) ≠ "draws" := by decide
theorem dk_ne (s : Nat) : (dkK s).1 ≠ (dkK s).2.1 ∧ (dkK s).1 ≠ (dkK s).2.2 ∧ (dkK s).2.1 ≠ (dkK s).2.2 := by
  match s with
  | 0 => decide
  | 1 => decide
  | 2 => decide
  | n + 3 => exact dk_ne3
theorem dk_left (s : Nat) (b : Addr) (m t : V) : valV (dkV s b m t) (.inr (dkK s).1) = some (.ref b) := valV_pos rfl
theorem dk_mixed (s : Nat) (b : Addr) (m t : V) : valV (dkV s b m t) (.inr (dkK s).2.1) = some m := by
  obtain ⟨h1, h2, h3⟩ := dk_ne s
  exact (valV_neg fun z => h1 (Sum.inr.inj z)).trans (valV_pos rfl)
theorem dk_turn (s : Nat) (b : Addr) (m t : V) : valV (dkV s b m t) (.inr (dkK s).2.2) = some t := by
  obtain ⟨h1, h2, h3⟩ := dk_ne s
  exact (valV_neg fun z => h2 (Sum.inr.inj z)).trans ((valV_neg fun z => h3 (Sum.inr.inj z)).trans (valV_pos rfl))
theorem dk_putM (s : Nat) (b : Addr) (m t v : V) : putK (dkV s b m t) (.inr (dkK s).2.1) v = dkV s b v t := by
  obtain ⟨h1, h2, h3⟩ := dk_ne s
  have e1 : ¬ (Sum.inr (dkK s).1 : Key) = .inr (dkK s).2.1 := fun z => h1 (Sum.inr.inj z)
  have e2 : ¬ (Sum.inr (dkK s).2.2 : Key) = .inr (dkK s).2.1 := fun z => h3 (Sum.inr.inj z).symm
  unfold putK
  rw [valV_any, dk_mixed, Option.isSome_some, if_pos rfl]
  simp only [List.map_cons, List.map_nil, if_neg e1, if_neg e2, if_true]
theorem dk_putT (s : Nat) (b : Addr) (m t v : V) : putK (dkV s b m t) (.inr (dkK s).2.2) v = dkV s b m v := by
  obtain ⟨h1, h2, h3⟩ := dk_ne s
  have e1 : ¬ (Sum.inr (dkK s).1 : Key) = .inr (dkK s).2.2 := fun z => h2 (Sum.inr.inj z)
  have e2 : ¬ (Sum.inr (dkK s).2.1 : Key) = .inr (dkK s).2.2 := fun z => h3 (Sum.inr.inj z)
  unfold putK
  rw [valV_any, dk_turn, Option.isSome_some, if_pos rfl]
  simp only [List.map_cons, List.map_nil, if_neg e1, if_neg e2, if_true]
theorem dk_merge (s : Nat) (b : Addr) (m t : V) : mergeK [] (dkV s b m t) = dkV s b m t := by
  obtain ⟨h1, h2, h3⟩ := dk_ne s
  have e1 : ¬ (Sum.inr (dkK s).1 : Key) = .inr (dkK s).2.1 := fun z => h1 (Sum.inr.inj z)
  have e2 : ¬ (Sum.inr (dkK s).1 : Key) = .inr (dkK s).2.2 := fun z => h2 (Sum.inr.inj z)
  have e3 : ¬ (Sum.inr (dkK s).2.1 : Key) = .inr (dkK s).2.2 := fun z => h3 (Sum.inr.inj z)
  unfold mergeK dkV
  simp only [List.foldl_cons, List.foldl_nil]
  rw [putK_new (.ref b) rfl]
  rw [putK_new m (valV_neg e1)]
  exact putK_new t ((valV_neg e2).trans (valV_neg e3))
/-- a slot's deck -/
theorem Rel.dkAt {i : Nat} {fr : Bool} {s : Nat} {l : List Int} {m t : Int} (r : Rel K c σ ρ T H) (he : ρ[i]? = some (.own fr (.deck s l m t))) : ∃ a b, σ[i]? = some (some (.ref a)) ∧ H a = some (.dK (dkV s b (.int m) (.int t))) ∧ H b = some (.lst (l.map V.int)) ∧ a ≠ b ∧
    (∀ m' t' : Int, Rel K c σ (ρ.set i (.own fr (.deck s l m' t'))) T (upd H a (.dK (dkV s b (.int m') (.int t'))))) ∧ ∀ l' : List Int, Rel K c σ (ρ.set i (.own fr (.deck s l' m t))) T (upd H b (.lst (l'.map V.int))) := by
  obtain ⟨v, hv⟩ := r.ownv he
  have r1 := r.take hv he
  obtain ⟨F, fp, f⟩ := r1
  obtain ⟨fc, fq, hc, _, hfr, efp, up⟩ := f.opn
  have nd := f.nd
  rw [efp] at nd
  have ndc := (List.nodup_append.mp nd).1
  cases hc with
  | @deck a b _ _ _ _ h g =>
    have hab : a ≠ b := fun z => by
      rw [z] at ndc
      exact (List.nodup_cons.mp ndc).1 (List.mem_singleton.mpr rfl)
    refine ⟨a, b, hv, h, g, hab, fun m' t' => ?_, fun l' => ?_⟩
    · have q := up a (.dK (dkV s b (.int m') (.int t'))) (.deck s l m' t') (List.mem_cons_self ..) (.deck upd_same (by rw [upd_ne (fun z => hab z.symm)]; exact g))
      exact r.put_back he hv q
    · have q := up b (.lst (l'.map V.int)) (.deck s l' m t) (List.mem_cons_of_mem _ (List.mem_singleton.mpr rfl)) (.deck (by rw [upd_ne hab]; exact h) upd_same)
      exact r.put_back he hv q
end
def mDkM (s0 i : Nat) : MV := fun ρ => match ρ[i]? with
  | some (.own _ (.deck s _ m _)) => if s = s0 then some (.int m, ρ) else none
  | _ => none
def mDkT (s0 i : Nat) : MV := fun ρ => match ρ[i]? with
  | some (.own _ (.deck s _ _ t)) => if s = s0 then some (.int t, ρ) else none
  | _ => none
def mDkL (s0 i : Nat) : MT := fun ρ => match ρ[i]? with
  | some (.own _ (.deck s l _ _)) => if s = s0 then some (!l.isEmpty, ρ) else none
  | _ => none
def mDkPop (s0 i : Nat) : MV := fun ρ => match ρ[i]? with
  | some (.own fr (.deck s l m t)) => if s = s0 then (match l.getLast? with
    | some x => some (.int x, ρ.set i (.own fr (.deck s l.dropLast m t)))
    | none => none) else none
  | _ => none
def valS : Ent → Ent
  | .val d => .val d
  | _ => .no
def mDkApp (s0 i : Nat) (m : MV) : MO := fun ρ => match ρ[i]? with
  | some (.own fr (.deck s l mx t)) => if s = s0 ∧ l.length < 100000 then (match m (ρ.map valS) with
    | some (.int x, _) => some (.val .none, ρ.set i (.own fr (.deck s (l ++ [x]) mx t)))
    | _ => none) else none
  | _ => none
def mDkSetM (s0 i : Nat) (m : MV) : MS := fun ρ => match m ρ with
  | some (.int x, ρ) => (match ρ[i]? with
    | some (.own fr (.deck s l _ t)) => if s = s0 then some (.nx (ρ.set i (.own fr (.deck s l x t)))) else none
    | _ => none)
  | _ => none
def mDkSetT (s0 i : Nat) (m : MV) : MS := fun ρ => match m ρ with
  | some (.int x, ρ) => (match ρ[i]? with
    | some (.own fr (.deck s l mx _)) => if s = s0 then some (.nx (ρ.set i (.own fr (.deck s l mx x)))) else none
    | _ => none)
  | _ => none
def mDkNew (s : Nat) (a : MO) (b c : MV) : MO := fun ρ => match a ρ with
  | some (.own true (.lst ds), ρ) => (match intsD ds with
    | some l => (match b ρ with
      | some (.int m, ρ) => (match c ρ with
        | some (.int t, ρ) => some (.own true (.deck s l m t), ρ)
        | _ => none)
      | _ => none)
    | none => none)
  | _ => none
theorem canLay_ints : ∀ ns : List Int, PyData.canLayAll0 (ns.map PyData.int) = true
  | [] => by simp [PyData.canLayAll0]
  | n :: ns => by
    rw [List.map_cons]
    unfold PyData.canLayAll0
    rw [canLay_ints ns]
    simp [PyData.canLay0]
theorem depth_ints : ∀ ns : List Int, PyData.depthAll (ns.map PyData.int) = 0
  | [] => by simp [PyData.depthAll]
  | n :: ns => by
    rw [List.map_cons]
    unfold PyData.depthAll
    rw [depth_ints ns]
    simp [PyData.depth]
theorem shaped_ints (ns : List Int) : SeqAt.shaped (.list (ns.map .int)) = true := by
  unfold SeqAt.shaped
  rw [show PyData.canLay0 (.list (ns.map .int)) = true from by unfold PyData.canLay0; exact canLay_ints ns]
  rw [show PyData.depth (.list (ns.map .int)) = 1 from by unfold PyData.depth; rw [depth_ints]]
  rfl
theorem eqv_nil (ns : List Int) : PyData.eqv (.list (ns.map .int)) (.list []) = ns.isEmpty := by
  cases ns <;> simp [PyData.eqv, PyData.eqvAll]
section
variable {K : PySem.W.Frag} {c : Ct} {σ : L2.St} {ρ : En} {T : Tm} {H F : Hp} {fp : List Addr}
theorem dp_ints {H : Hp} : ∀ {ns : List Int}, DpAll K H (ns.map V.int) (ns.map PyData.int)
  | [] => .nil
  | n :: ns => .cons (.int n) dp_ints
theorem rps_ints {F : Hp} : ∀ {ns : List Int}, Rps K F (ns.map V.int) (ns.map PyData.int)
  | [] => .nil
  | n :: ns => .cons (.int n) rps_ints
/-- a look with what is plain alone: nothing changes -/
theorem slots_vs (h : Slots K c F H (σ.zip ρ) fp) (c' : Ct) : Slots K c' F H (σ.zip (ρ.map valS)) [] := by
  induction ρ generalizing σ fp with
  | nil =>
    cases σ <;> exact .nil
  | cons e ρ ih =>
    cases σ with
    | nil => exact .nil
    | cons x σ =>
      have h0 : Slots K c F H ((x, e) :: σ.zip ρ) fp := h
      clear h
      cases h0 with
      | cons h t =>
        cases h with
        | val r => exact Slots.cons (fc := []) (.val r) (ih t)
        | no x => exact Slots.cons (fc := []) (.no _) (ih t)
        | lent x => exact Slots.cons (fc := []) (.no _) (ih t)
        | scr h w => exact Slots.cons (fc := []) (.no _) (ih t)
        | own r hh => exact Slots.cons (fc := []) (.no _) (ih t)
theorem RelF.look (f : RelF K c σ ρ T H F fp) : Rel K ⟨F, H, fun _ => False, []⟩ σ (ρ.map valS) [] H := by
  obtain ⟨f1, f2, _, _, s2⟩ := Slots.split f.sl
  exact ⟨F, [], fun _ _ z => z, f.fh, fun a z => .inl z, fun a o z _ => z, fun a z => z, slots_vs s2 _, List.nodup_nil, fun a z => (List.not_mem_nil z).elim, by rw [List.length_map]; exact f.len, fun i v z => by cases z⟩
/-- a deck is closed -/
theorem RelF.dkClose {p b : Addr} {s : Nat} {ns : List Int} {m t : Int} (f : RelF K c σ ρ ((.ref p, .own true (.dct [])) :: (.ref b, .own true (.lst (ns.map .int))) :: T) H F fp) : H p = some (.dK []) ∧ Rel K c σ ρ ((.ref p, .own true (.deck s ns m t)) :: T) (upd H p (.dK (dkV s b (.int m) (.int t)))) := by
  obtain ⟨fc, fq, e1, h1, f1⟩ := f.pop
  obtain ⟨fd, fr, e2, h2, f2⟩ := f1.pop
  subst e1 e2
  cases h1 with
  | own r hh =>
    cases r with
    | @dct _ vs _ h hk rs =>
      have hv : vs = [] := List.map_eq_nil_iff.mp hk
      subst hv
      cases h2 with
      | own r2 hh2 =>
        cases r2 with
        | @lst _ ws _ g rg =>
          refine ⟨h, ?_⟩
          have nd := f.nd
          have nd2 : (p :: b :: fr).Nodup := nd
          have hpb : b ≠ p := fun z => (List.nodup_cons.mp nd2).1 (by rw [← z]; exact List.mem_cons_self ..)
          have hpr : ∀ a ∈ fr, a ≠ p := fun a ha z => (List.nodup_cons.mp nd2).1 (List.mem_cons_of_mem _ (z ▸ ha))
          have hws : ws = ns.map V.int := rg.nums
          have own := f.own
          refine ⟨F, p :: b :: fr, f2.f0, fun a u z => ?_, f2.new, fun a u z w => ?_, fun a z => ?_, Slots.cons (fc := [p, b]) (.own (.deck upd_same (by rw [upd_ne hpb, ← hws]; exact g)) fun z a ha => ?_) (f2.sl.stay (fun _ _ z => z) fun a ha => upd_ne (hpr a ha)), nd2, own, f2.len, f2.pin⟩
          · rw [upd_ne fun y => by rw [y, (own p (List.mem_cons_self ..)).1] at z; cases z]
            exact f2.fh a u z
          · have q := hh rfl p (List.mem_singleton.mpr rfl)
            rw [upd_ne fun y => by rw [y, q] at z; cases z]
            exact f2.keep a u z w
          · by_cases hb : a = p
            · rw [hb, upd_same]
              exact fun z => nomatch z
            · rw [upd_ne hb]
              exact f2.trk a z
          · rcases List.mem_cons.mp ha with y | y
            · exact hh rfl a (List.mem_singleton.mpr y)
            · exact hh2 rfl a y
end
section
variable {Y : Fam} {e : Expr} {pos p1 p2 apos cpos : Pos} {x nm : Str} {j1 : Nat}
theorem j_dkM (s0 i : Nat) (hn : nm = (dkK s0).2.1 := by rfl) (hN : ∀ j, (Y.X j).N[i]? = some x := by intro _; rfl) (hv : ∀ j, Vis (Y.X j).env.scope x := by first | exact fun _ => Or.inl rfl | exact fun _ => Or.inr (Or.inl rfl) | exact fun _ => Or.inr (Or.inr rfl)) (hd : (x == ("__debug__" : Str)) = false := by decide) (hcd : (x == ("__classdict__" : Str)) = false := by decide)
    (hs : NoSl (.Constant (.str nm) j1 p2) := by intro _ _; rfl) : JV Y (.Subscript (.Name x p1) (.Constant (.str nm) j1 p2) pos) (mDkM s0 i) := by
  refine ⟨tDGet (tVar i) (tC (.str nm)), fun j => pe_dget (Nat.lt_of_le_of_lt (Nat.add_le_add_left (by decide) _) (Y.room j).units) (pe_var (hN j) (hv j) hd hcd) pe_str hs, fun c σ ρ T H Q r q => ?_⟩
  unfold mDkM at q
  split at q
  · rename_i fr s l m t he
    split at q
    · rename_i hs0
      subst hs0
      obtain ⟨a, b, h1, h2, h3, _⟩ := r.dkAt he
      refine ⟨_, h1, a, .int m, rfl, ?_, q _ H (r.pushI m)⟩
      rw [hn]
      have g := DGet.k (k := .inr (dkK s).2.1) h2
      rw [dk_mixed] at g
      exact g
    · exact q.elim
  · exact q.elim
theorem j_dkT (s0 i : Nat) (hn : nm = (dkK s0).2.2 := by rfl) (hN : ∀ j, (Y.X j).N[i]? = some x := by intro _; rfl) (hv : ∀ j, Vis (Y.X j).env.scope x := by first | exact fun _ => Or.inl rfl | exact fun _ => Or.inr (Or.inl rfl) | exact fun _ => Or.inr (Or.inr rfl)) (hd : (x == ("__debug__" : Str)) = false := by decide) (hcd : (x == ("__classdict__" : Str)) = false := by decide)
    (hs : NoSl (.Constant (.str nm) j1 p2) := by intro _ _; rfl) : JV Y (.Subscript (.Name x p1) (.Constant (.str nm) j1 p2) pos) (mDkT s0 i) := by
  refine ⟨tDGet (tVar i) (tC (.str nm)), fun j => pe_dget (Nat.lt_of_le_of_lt (Nat.add_le_add_left (by decide) _) (Y.room j).units) (pe_var (hN j) (hv j) hd hcd) pe_str hs, fun c σ ρ T H Q r q => ?_⟩
  unfold mDkT at q
  split at q
  · rename_i fr s l m t he
    split at q
    · rename_i hs0
      subst hs0
      obtain ⟨a, b, h1, h2, h3, _⟩ := r.dkAt he
      refine ⟨_, h1, a, .int t, rfl, ?_, q _ H (r.pushI t)⟩
      rw [hn]
      have g := DGet.k (k := .inr (dkK s).2.2) h2
      rw [dk_turn] at g
      exact g
    · exact q.elim
  · exact q.elim
theorem t_dkL (s0 i : Nat) {p3 p4 : Pos} (hn : nm = (dkK s0).1 := by rfl) (hN : ∀ j, (Y.X j).N[i]? = some x := by intro _; rfl) (hv : ∀ j, Vis (Y.X j).env.scope x := by first | exact fun _ => Or.inl rfl | exact fun _ => Or.inr (Or.inl rfl) | exact fun _ => Or.inr (Or.inr rfl)) (hd : (x == ("__debug__" : Str)) = false := by decide) (hcd : (x == ("__classdict__" : Str)) = false := by decide)
    (hs : NoSl (.Constant (.str nm) j1 p2) := by intro _ _; rfl) (hm : behindInMarks .NotEq (.List [] p3) = false := by first | exact nomark _ | rfl) : JT Y (.Compare (.Subscript (.Name x p1) (.Constant (.str nm) j1 p2) pos) [.NotEq] [.List [] p3] p4) (mDkL s0 i) := by
  refine ⟨tTest (tOp (rNeD Y.K) (tDGet (tVar i) (tC (.str nm))) (tLst tNil)), fun j => by
    rw [← Y.hK j]
    exact pt_cmpR (op_neD (Y.room j).units) (pe_dget (Nat.lt_of_le_of_lt (Nat.add_le_add_left (by decide) _) (Y.room j).units) (pe_var (hN j) (hv j) hd hcd) pe_str hs) (pe_lst pa_nil) hm, fun c σ ρ T H Q r q => ?_⟩
  unfold mDkL at q
  split at q
  · rename_i fr s l m t he
    split at q
    · rename_i hs0
      subst hs0
      obtain ⟨a, b, h1, h2, h3, _⟩ := r.dkAt he
      refine ⟨_, h1, a, .ref b, rfl, ?_, Nat.zero_le _, fun p hp => ⟨.list (l.map .int), .list [], .lst (.inl (.inl ?_)) dp_ints, .lst (.inl (.inl upd_same)) .nil, shaped_ints l, by decide, !l.isEmpty, ?_, q _ (r.fresh hp _)⟩⟩
      · rw [hn]
        have g := DGet.k (k := .inr (dkK s).1) h2
        rw [dk_left] at g
        exact g
      · rw [upd_ne (ne_of_none h3 hp)]
        exact h3
      · rw [eqv_nil]
    · exact q.elim
  · exact q.elim
theorem j_dkPop (s0 i : Nat) (hn : nm = (dkK s0).1 := by rfl) (hN : ∀ j, (Y.X j).N[i]? = some x := by intro _; rfl) (hv : ∀ j, Vis (Y.X j).env.scope x := by first | exact fun _ => Or.inl rfl | exact fun _ => Or.inr (Or.inl rfl) | exact fun _ => Or.inr (Or.inr rfl)) (hd : (x == ("__debug__" : Str)) = false := by decide) (hcd : (x == ("__classdict__" : Str)) = false := by decide)
    (hs : NoSl (.Constant (.str nm) j1 p2) := by intro _ _; rfl) (hbase : ∀ j, attributeBase (.Subscript (.Name x p1) (.Constant (.str nm) j1 p2) pos) "pop" (Y.X j).env (eval (.Subscript (.Name x p1) (.Constant (.str nm) j1 p2) pos) (Y.X j).env) = eval (.Subscript (.Name x p1) (.Constant (.str nm) j1 p2) pos) (Y.X j).env := by intro _; rfl)
    (hline : (apos.endLine == cpos.line) = true := by rfl) : JV Y (.Call (.Attribute (.Subscript (.Name x p1) (.Constant (.str nm) j1 p2) pos) "pop" apos) [] [] cpos) (mDkPop s0 i) := by
  refine ⟨tBM0 Y.K "list" rPop (tDGet (tVar i) (tC (.str nm))), fun j => by
    rw [← Y.hK j]
    exact pe_bm0 PySem.F.plainAttrs_list PySem.F.slot_list_pop PySem.F.type_list_pop mt_pop (pe_dget (Nat.lt_of_le_of_lt (Nat.add_le_add_left (by decide) _) (Y.room j).units) (pe_var (hN j) (hv j) hd hcd) pe_str hs) (hbase j) hline, fun c σ ρ T H Q r q => ?_⟩
  unfold mDkPop at q
  split at q
  · rename_i fr s l m t he
    split at q
    · rename_i hs0
      subst hs0
      obtain ⟨a, b, h1, h2, h3, _, _, up⟩ := r.dkAt he
      cases hl : l.getLast? with
      | none =>
        rw [hl] at q
        exact q.elim
      | some y =>
        rw [hl] at q
        refine ⟨_, h1, a, .ref b, rfl, ?_, .inl ⟨rfl, _, .inl (.inl h3)⟩, b, _, .int y, rfl, rfl, h3, ?_, ?_⟩
        · rw [hn]
          have g := DGet.k (k := .inr (dkK s).1) h2
          rw [dk_left] at g
          exact g
        · rw [List.length_map, List.getElem?_map, ← List.getLast?_eq_getElem?, hl]
          rfl
        · rw [← List.map_dropLast]
          exact q _ _ ((up l.dropLast).pushI y)
    · exact q.elim
  · exact q.elim
theorem j_dkApp (s0 i : Nat) {m : MV} (h : JV Y e m) (hn : nm = (dkK s0).1 := by rfl) (hN : ∀ j, (Y.X j).N[i]? = some x := by intro _; rfl) (hv : ∀ j, Vis (Y.X j).env.scope x := by first | exact fun _ => Or.inl rfl | exact fun _ => Or.inr (Or.inl rfl) | exact fun _ => Or.inr (Or.inr rfl)) (hd : (x == ("__debug__" : Str)) = false := by decide) (hcd : (x == ("__classdict__" : Str)) = false := by decide)
    (hs : NoSl (.Constant (.str nm) j1 p2) := by intro _ _; rfl) (hbase : ∀ j, attributeBase (.Subscript (.Name x p1) (.Constant (.str nm) j1 p2) pos) "append" (Y.X j).env (eval (.Subscript (.Name x p1) (.Constant (.str nm) j1 p2) pos) (Y.X j).env) = eval (.Subscript (.Name x p1) (.Constant (.str nm) j1 p2) pos) (Y.X j).env := by intro _; rfl)
    (hfew : ∀ i, ((backTo cpos (starEach [e] (Y.X i).env)).all (fun x => !x.1) && (backToKw cpos (keywordEach [] (Y.X i).env)).all (fun x => x.1.isSome) && decide ([e].length + ([] : List Keyword).length + (if ([] : List Keyword).isEmpty then 0 else 1) < 30)) = true := by intro _; rfl)
    (hline : (apos.endLine == cpos.line) = true := by rfl) (hse : ∀ i, starEach [e] (Y.X i).env = (false, eval e (Y.X i).env) :: starEach [] (Y.X i).env := by intro _; rfl) (hplain : ∀ i, (backTo cpos (starEach [] (Y.X i).env)).any (·.1) = false := by intro _; rfl) :
    JO Y (.Call (.Attribute (.Subscript (.Name x p1) (.Constant (.str nm) j1 p2) pos) "append" apos) [e] [] cpos) (mDkApp s0 i m) := by
  obtain ⟨te, pe, se⟩ := h
  refine ⟨tBM Y.K "list" rAppend (tDGet (tVar i) (tC (.str nm))) (tCons te tNil), fun j => by
    rw [← Y.hK j]
    exact pe_bm PySem.F.plainAttrs_list PySem.F.slot_list_append PySem.F.type_list_append mt_append (pe_dget (Nat.lt_of_le_of_lt (Nat.add_le_add_left (by decide) _) (Y.room j).units) (pe_var (hN j) (hv j) hd hcd) pe_str hs) (pa_cons (pe j) pa_nil (hse j)) (hbase j) (hfew j) hline (hse j) (hplain j), fun c σ ρ T H Q r q => ?_⟩
  unfold mDkApp at q
  split at q
  · rename_i fr s l m0 t he
    split at q
    · rename_i hh
      obtain ⟨hs0, hlen⟩ := hh
      subst hs0
      obtain ⟨a, b, h1, h2, h3, _⟩ := r.dkAt he
      obtain ⟨F, fp, f⟩ := r
      refine ⟨_, h1, a, .ref b, rfl, ?_, .inl ⟨rfl, _, .inl (.inl h3)⟩, se _ σ _ [] H _ f.look ?_⟩
      · rw [hn]
        have g := DGet.k (k := .inr (dkK s).1) h2
        rw [dk_left] at g
        exact g
      · cases hm : m (ρ.map valS) with
        | none =>
          rw [hm] at q
          exact q.elim
        | some z =>
          obtain ⟨d, ρ2⟩ := z
          rw [hm] at q
          cases d with
          | int y =>
            simp only at q
            intro v H1 r1
            have k1 := f.callOut r1 rfl
            have kb : H1 b = some (.lst (l.map V.int)) := by
              obtain ⟨_, _, f1⟩ := r1
              exact f1.keep b _ h3 id
            have ka : H1 a = some (.dK (dkV s b (.int m0) (.int t))) := by
              obtain ⟨_, _, f1⟩ := r1
              exact f1.keep a _ h2 id
            obtain ⟨a', b', e1, e2, e3, _, _, up⟩ := k1.dkAt he
            rw [h1] at e1
            cases e1
            rw [ka] at e2
            have hb : b = b' := by
              have := (List.cons.inj (HO.dK.inj (Option.some.inj e2))).1
              exact V.ref.inj (Prod.mk.inj this).2
            subst hb
            have hvy : v = .int y := by
              cases k1.top
              rfl
            subst hvy
            refine ⟨b, _, .int y, rfl, rfl, kb, sz5l (by rw [List.length_map]; omega), q _ _ ?_⟩
            have e : (l ++ [y]).map V.int = l.map V.int ++ [V.int y] := by rw [List.map_append]; rfl
            rw [← e]
            exact Rel.pushN (Rel.pop (up (l ++ [y])))
          | _ => exact q.elim
    · exact q.elim
  · exact q.elim
theorem s_dkSetM (s0 i : Nat) {m : MV} {value : Expr} {pos' : Pos} (h : JV Y value m) (hn : nm = (dkK s0).2.1 := by rfl) (hN : ∀ j, (Y.X j).N[i]? = some x := by intro _; rfl) (hv : ∀ j, Vis (Y.X j).env.scope x := by first | exact fun _ => Or.inl rfl | exact fun _ => Or.inr (Or.inl rfl) | exact fun _ => Or.inr (Or.inr rfl)) (hd : (x == ("__debug__" : Str)) = false := by decide) (hcd : (x == ("__classdict__" : Str)) = false := by decide)
    (hsw : ∀ j, swapsWith value (some (.Subscript (.Name x p1) (.Constant (.str nm) j1 p2) pos')) pos.line (Y.X j).env = pure false := by intro _; rfl) : JS Y (.Assign [.Subscript (.Name x p1) (.Constant (.str nm) j1 p2) pos'] value pos) (mDkSetM s0 i m) := by
  obtain ⟨tv, pv, sv⟩ := h
  refine ⟨sDPut (tVar i) (tC (.str nm)) tv, fun j => ps_dput (Nat.lt_of_le_of_lt (Nat.add_le_add_left (by decide) _) (Y.room j).units) (pe_var (hN j) (hv j) hd hcd) pe_str (pv j) (hsw j), fun c σ ρ T H D r q => ?_⟩
  unfold mDkSetM at q
  refine sv c σ ρ T H _ r ?_
  cases hm : m ρ with
  | none =>
    rw [hm] at q
    exact q.elim
  | some z =>
    obtain ⟨d, ρ1⟩ := z
    rw [hm] at q
    cases d with
    | int y =>
      simp only at q
      intro v H1 r1
      split at q
      · rename_i fr s l mx t he
        split at q
        · rename_i hs0
          subst hs0
          obtain ⟨a, b, h1, h2, h3, _, up, _⟩ := r1.dkAt he
          have hvy : v = .int y := by
            cases r1.top
            rfl
          subst hvy
          refine ⟨_, h1, a, _, rfl, ?_, q _ _ (Rel.pop (up y t))⟩
          rw [hn]
          have g := DPut.k (v := .int y) (k := .inr (dkK s).2.1) h2 (by show 3 < sizeLine; rw [sizeLine_eq]; omega)
          rw [dk_putM] at g
          exact g
        · exact q.elim
      · exact q.elim
    | _ => exact q.elim
theorem s_dkSetT (s0 i : Nat) {m : MV} {value : Expr} {pos' : Pos} (h : JV Y value m) (hn : nm = (dkK s0).2.2 := by rfl) (hN : ∀ j, (Y.X j).N[i]? = some x := by intro _; rfl) (hv : ∀ j, Vis (Y.X j).env.scope x := by first | exact fun _ => Or.inl rfl | exact fun _ => Or.inr (Or.inl rfl) | exact fun _ => Or.inr (Or.inr rfl)) (hd : (x == ("__debug__" : Str)) = false := by decide) (hcd : (x == ("__classdict__" : Str)) = false := by decide)
    (hsw : ∀ j, swapsWith value (some (.Subscript (.Name x p1) (.Constant (.str nm) j1 p2) pos')) pos.line (Y.X j).env = pure false := by intro _; rfl) : JS Y (.Assign [.Subscript (.Name x p1) (.Constant (.str nm) j1 p2) pos'] value pos) (mDkSetT s0 i m) := by
  obtain ⟨tv, pv, sv⟩ := h
  refine ⟨sDPut (tVar i) (tC (.str nm)) tv, fun j => ps_dput (Nat.lt_of_le_of_lt (Nat.add_le_add_left (by decide) _) (Y.room j).units) (pe_var (hN j) (hv j) hd hcd) pe_str (pv j) (hsw j), fun c σ ρ T H D r q => ?_⟩
  unfold mDkSetT at q
  refine sv c σ ρ T H _ r ?_
  cases hm : m ρ with
  | none =>
    rw [hm] at q
    exact q.elim
  | some z =>
    obtain ⟨d, ρ1⟩ := z
    rw [hm] at q
    cases d with
    | int y =>
      simp only at q
      intro v H1 r1
      split at q
      · rename_i fr s l mx t he
        split at q
        · rename_i hs0
          subst hs0
          obtain ⟨a, b, h1, h2, h3, _, up, _⟩ := r1.dkAt he
          have hvy : v = .int y := by
            cases r1.top
            rfl
          subst hvy
          refine ⟨_, h1, a, _, rfl, ?_, q _ _ (Rel.pop (up mx y))⟩
          rw [hn]
          have g := DPut.k (v := .int y) (k := .inr (dkK s).2.2) h2 (by show 3 < sizeLine; rw [sizeLine_eq]; omega)
          rw [dk_putT] at g
          exact g
        · exact q.elim
      · exact q.elim
    | _ => exact q.elim
theorem j_dkNew (s : Nat) {e1 e2 e3 : Expr} {q1 q2 q3 : Pos} {n1 n2 n3 : Str} {k1 k2 k3 : Nat} {ma : MO} {mb mc : MV} (ha : JO Y e1 ma) (hb : JV Y e2 mb) (hc : JV Y e3 mc) (h1 : n1 = (dkK s).1 := by rfl) (h2 : n2 = (dkK s).2.1 := by rfl) (h3 : n3 = (dkK s).2.2 := by rfl) :
    JO Y (.Dict [some (.Constant (.str n1) k1 q1), some (.Constant (.str n2) k2 q2), some (.Constant (.str n3) k3 q3)] [e1, e2, e3] pos) (mDkNew s ma mb mc) := by
  subst h1 h2 h3
  obtain ⟨t1, w1, s1⟩ := ha
  obtain ⟨t2, w2, s2⟩ := hb
  obtain ⟨t3, w3, s3⟩ := hc
  refine ⟨tDisp [(tC (.str (dkK s).1), t1), (tC (.str (dkK s).2.1), t2), (tC (.str (dkK s).2.2), t3)], fun j => pe_disp (pps_cons pe_str (w1 j) (pps_cons pe_str (w2 j) (pps_cons pe_str (w3 j) pps_nil))) rfl rfl (List.cons_ne_nil _ _) (by show 3 ≤ 15; omega), fun c σ ρ T H Q r q => fun p hp => ?_⟩
  obtain ⟨F, fp, f⟩ := r
  have r0 := f.dctNew hp
  unfold mDkNew at q
  refine s1 c σ ρ _ _ _ r0 ?_
  split at q
  · rename_i ds ρ1 e1
    rw [e1]
    intro v1 H1 r1
    split at q
    · rename_i l hl
      have hds := intsD_eq hl
      subst hds
      split at q
      · rename_i m ρ2 e2
        refine s2 c σ ρ1 _ _ _ r1 ?_
        rw [e2]
        intro v2 H2 r2
        split at q
        · rename_i t ρ3 e3
          refine s3 c σ ρ2 _ _ _ r2 ?_
          rw [e3]
          intro v3 H3 r3
          have hv3 : v3 = .int t := by
            cases r3.top
            rfl
          have r4 := r3.pop
          have hv2 : v2 = .int m := by
            cases r4.top
            rfl
          have r5 := (r4.pop).swap
          obtain ⟨F5, fp5, f5⟩ := r5
          have hv1 : ∃ b, v1 = .ref b := by
            obtain ⟨_, _, _, _, g5⟩ := f5.pop
            obtain ⟨b, _, hb, _⟩ := g5.lstTop
            exact ⟨b, hb⟩
          obtain ⟨b, rfl⟩ := hv1
          obtain ⟨hp3, fin⟩ := f5.dkClose (m := m) (t := t)
          refine ⟨hp3, dkV s b (.int m) (.int t), ?_, by show 3 ≤ 15; omega, ?_⟩
          · rw [hv2, hv3]
            rfl
          · rw [dk_merge]
            exact q _ _ fin
        · exact q.elim
      · exact q.elim
    · exact q.elim
  · exact q.elim
end
end Fj

set_option Elab.async false
set_option linter.all false
set_option maxRecDepth 100000
set_option maxHeartbeats 4000000
set_option autoImplicit false
/-! What a printed text leans on. -/
namespace Fj
open PySem PySem.Spec PyProof.Rows L2

theorem j_gint {Y : Fam} {x : Str} {i : Int} {pos : Pos} (h : ∃ t, Y.mg x = some (.int i t)) (hg : ∀ j, Gl (Y.X j) x := by intro _; rfl) (hd : (x == ("__debug__" : Str)) = false := by decide) : JV Y (.Name x pos) (mC (.int i)) :=
  let ⟨t, e⟩ := h
  j_glob (v := .int i) e ⟨t, rfl⟩ (fun _ => .int i) hg hd
theorem j_gstr {Y : Fam} {x z : Str} {pos : Pos} (h : ∃ t, Y.mg x = some (.str z t)) (hg : ∀ j, Gl (Y.X j) x := by intro _; rfl) (hd : (x == ("__debug__" : Str)) = false := by decide) : JV Y (.Name x pos) (mC (.str z)) :=
  let ⟨t, e⟩ := h
  j_glob (v := .str z) e ⟨t, rfl⟩ (fun _ => .str z) hg hd
section
variable {K : PySem.W.Frag} {x qual : Str} {params : Arguments} {body : List Stmt} {scope : Scope} {kws : List (Str × V)} {dvs dvs' : List V} {f : Addr} {fd fd' : FuncData}
theorem FunD.bindG0 {ps ks : List Str} {n : Nat} {p : List Nat} (F : FunD K x qual params body scope [] kws f fd)
    (h : ∀ (kV doc pm : Value) (an : Option Addr) (cdv ct : Value) (us ws : List Value), us.length = n → ws.length = ks.length → bindArgs (PySem.W.fnOf x qual params body scope .none kV doc pm an cdv ct) ⟨us, ks.zip ws⟩ = pure (ps.zip (pick p (us ++ ws)))) : BindG K fd ps n ks [] p := by
  obtain ⟨oc, od, dV, kV, doc, pm, an, cdv, ct, osl, rfl, lk, hcd, hD, hK⟩ := F.ex
  rcases hD with ⟨_, rfl⟩ | ⟨e, _⟩
  · refine ⟨[], .nil, fun s us ws hK h1 h2 => ?_⟩
    rw [List.append_nil]
    exact .of_eq (h kV doc pm an cdv ct us ws h1 h2)
  · exact absurd rfl e
theorem FunD.same (F : FunD K x qual params body scope dvs kws f fd) (F' : FunD K x qual params body scope dvs' kws f fd') : fd = fd' := by
  obtain ⟨oc, od, dV, kV, doc, pm, an, cdv, ct, osl, _, lk, _⟩ := F.ex
  obtain ⟨oc', od', dV', kV', doc', pm', an', cdv', ct', osl', _, lk', _⟩ := F'.ex
  rw [lk] at lk'
  cases lk'
  rfl
end
theorem FnG.never {P : Program} {w : World} {K : PySem.W.Frag} {mg : Str → Option Value} {base : Heap} {k : Nat} {f : Addr} {fd : FuncData} {ps : List Str} : FnG P w K mg base k f fd ps (fun _ => none) :=
  ⟨fun _ _ _ _ _ _ _ _ _ _ _ _ _ ⟨_, _, _, _, _, _, h⟩ => h.elim⟩
end Fj

set_option Elab.async false
set_option linter.all false
set_option maxRecDepth 100000
set_option maxHeartbeats 4000000
set_option autoImplicit false
/-! Several names at once. -/
namespace Fj
open PySem PySem.Spec PyProof.Rows L2

def tmo : List V → List Ent → Tm
  | v :: vs, e :: es => tmo vs es ++ [(v, e)]
  | _, _ => []
abbrev ME := En → Option (List Ent × En)
def PostE (K : PySem.W.Frag) (c : Ct) (σ : L2.St) (T : Tm) (r : Option (List Ent × En)) (Q : List V → Hp → Prop) : Prop := match r with
  | none => False
  | some (es, ρ) => ∀ vs H, vs.length = es.length → Rel K c σ ρ (tmo vs es ++ T) H → Q vs H
def SemE (K : PySem.W.Frag) (t : TA) (m : ME) : Prop := ∀ (c : Ct) (σ : L2.St) (ρ : En) (T : Tm) (H : Hp) (Q : List V → Hp → Prop), Rel K c σ ρ T H → PostE K c σ T (m ρ) Q → t σ H Q
def JE (Y : Fam) (es : List Expr) (m : ME) : Prop := ∃ t, (∀ i, PA (Y.X i) es t) ∧ SemE Y.K t m
def mE0 : ME := fun ρ => some ([], ρ)
def mE1 (m : MO) (n : ME) : ME := fun ρ => match m ρ with
  | none => none
  | some (e, ρ) => match n ρ with
    | none => none
    | some (es, ρ) => some (e :: es, ρ)
section
variable {Y : Fam} {e : Expr} {es : List Expr}
theorem e_nil : JE Y [] mE0 := ⟨tNil, fun _ => pa_nil, fun _ _ _ _ H _ r q => q [] H rfl r⟩
theorem e_cons {m : MO} {n : ME} (h : JO Y e m) (g : JE Y es n) (hs : ∀ j, starEach (e :: es) (Y.X j).env = (false, eval e (Y.X j).env) :: starEach es (Y.X j).env := by intro _; rfl) : JE Y (e :: es) (mE1 m n) := by
  obtain ⟨t, p, s⟩ := h
  obtain ⟨u, p', s'⟩ := g
  refine ⟨tCons t u, fun j => pa_cons (p j) (p' j) (hs j), fun c σ ρ T H Q r q => s c σ ρ T H _ r ?_⟩
  unfold mE1 at q
  cases hm : m ρ with
  | none =>
    rw [hm] at q
    exact q
  | some z =>
    obtain ⟨d, ρ1⟩ := z
    rw [hm] at q
    simp only at q
    intro v H1 r1
    refine s' c σ ρ1 _ H1 _ r1 ?_
    cases hn : n ρ1 with
    | none =>
      rw [hn] at q
      exact q
    | some z =>
      obtain ⟨ds, ρ2⟩ := z
      rw [hn] at q
      intro vs H2 hl r2
      refine q (v :: vs) H2 (congrArg Nat.succ hl) ?_
      show Rel Y.K c σ ρ2 ((tmo vs ds ++ [(v, d)]) ++ T) H2
      rw [List.append_assoc]
      exact r2
end
def mPuts : List Nat → List Ent → En → Option En
  | [], [], ρ => some ρ
  | i :: is, e :: es, ρ => if freeE ρ i = true then mPuts is es (ρ.set i e) else none
  | _, _, _ => none
def mPar (is : List Nat) (n : ME) : MS := fun ρ => match n ρ with
  | none => none
  | some (es, ρ) => (mPuts is es ρ).map .nx
section
variable {K : PySem.W.Frag}
theorem par_inv {is : List Nat} {n : ME} {ρ : En} {c : Ct} {T : Tm} {D : Ends} (q : PostS K c T D (mPar is n ρ)) : ∃ es ρ1 ρ2, n ρ = some (es, ρ1) ∧ mPuts is es ρ1 = some ρ2 ∧ ∀ σ' H, Rel K c σ' ρ2 T H → D.nx σ' H := by
  unfold mPar at q
  cases hn : n ρ with
  | none =>
    rw [hn] at q
    exact q.elim
  | some z =>
    obtain ⟨es, ρ1⟩ := z
    rw [hn] at q
    simp only at q
    cases hm : mPuts is es ρ1 with
    | none =>
      rw [hm] at q
      exact q.elim
    | some ρ2 =>
      rw [hm] at q
      exact ⟨es, ρ1, ρ2, rfl, hm, q⟩
theorem sem_par2 {t : TA} {n : ME} {i j : Nat} (s : SemE K t n) : SemS K (tPar i j t) (mPar [i, j] n) := fun c σ ρ T H D r q => by
  obtain ⟨es, ρ1, ρ2, hn, hm, q⟩ := par_inv q
  refine s c σ ρ T H _ r ?_
  rw [hn]
  intro vs H1 hl r1
  match es, vs, hl, hm, r1 with
  | [e, f], [v, w], _, hm, r1 =>
    refine ⟨v, w, rfl, ?_⟩
    unfold mPuts at hm
    split at hm
    · rename_i h1
      unfold mPuts at hm
      split at hm
      · rename_i h2
        cases hm
        have r2 : Rel K c σ ρ1 ((w, f) :: (v, e) :: T) H1 := r1
        exact q _ _ ((r2.swap.put h1).put h2)
      · cases hm
    · cases hm
  | [], _, _, hm, _ => cases hm
  | [_], [_], _, hm, _ =>
    unfold mPuts at hm
    split at hm <;> cases hm
  | _ :: _ :: _ :: _, _, _, hm, _ =>
    unfold mPuts at hm
    split at hm
    · unfold mPuts at hm
      split at hm <;> cases hm
    · cases hm
theorem sem_par3 {t : TA} {n : ME} {i j l : Nat} (s : SemE K t n) : SemS K (tPar3 i j l t) (mPar [i, j, l] n) := fun c σ ρ T H D r q => by
  obtain ⟨es, ρ1, ρ2, hn, hm, q⟩ := par_inv q
  refine s c σ ρ T H _ r ?_
  rw [hn]
  intro vs H1 hl r1
  match es, vs, hl, hm, r1 with
  | [e, f, g], [v, w, z], _, hm, r1 =>
    refine ⟨v, w, z, rfl, ?_⟩
    unfold mPuts at hm
    split at hm
    · rename_i h1
      unfold mPuts at hm
      split at hm
      · rename_i h2
        unfold mPuts at hm
        split at hm
        · rename_i h3
          cases hm
          have r2 : Rel K c σ ρ1 ((z, g) :: (w, f) :: (v, e) :: T) H1 := r1
          have r3 : Rel K c σ ρ1 ((v, e) :: (w, f) :: (z, g) :: T) H1 := r2.perm (by
            refine (List.Perm.swap (w, f) (z, g) _).trans ?_
            refine (List.Perm.cons _ (List.Perm.swap (v, e) (z, g) _)).trans ?_
            exact List.Perm.swap (v, e) (w, f) _)
          exact q _ _ (((r3.put h1).put h2).put h3)
        · cases hm
      · cases hm
    · cases hm
  | [], _, _, hm, _ => cases hm
  | [_], [_], _, hm, _ =>
    unfold mPuts at hm
    split at hm <;> cases hm
  | [_, _], [_, _], _, hm, _ =>
    unfold mPuts at hm
    split at hm
    · unfold mPuts at hm
      split at hm <;> cases hm
    · cases hm
  | _ :: _ :: _ :: _ :: _, _, _, hm, _ =>
    unfold mPuts at hm
    split at hm
    · unfold mPuts at hm
      split at hm
      · unfold mPuts at hm
        split at hm <;> cases hm
      · cases hm
    · cases hm
end
def JN (Y : Fam) (ts : List Expr) (is : List Nat) : Prop := ∃ g, (∀ j, PGs (Y.X j) ts g) ∧ ∀ (c : Ct) (σ : L2.St) (ρ : En) (T : Tm) (H : Hp) (xs : List V) (es : List Ent) (ρ' : En) (Q : L2.St → Hp → Prop), xs.length = es.length → Rel Y.K c σ ρ (xs.zip es ++ T) H → mPuts is es ρ = some ρ' → (∀ σ' H, Rel Y.K c σ' ρ' T H → Q σ' H) → g xs σ H Q
section
variable {Y : Fam} {pos : Pos}
theorem n_nil : JN Y [] [] := by
  refine ⟨gNil, fun j => pgs_nil, fun c σ ρ T H xs es ρ' Q hl r hm q => ?_⟩
  cases es with
  | nil =>
    cases hm
    have : xs = [] := List.eq_nil_of_length_eq_zero hl
    subst this
    exact ⟨rfl, q _ _ r⟩
  | cons e es => cases hm
theorem n_cons (i : Nat) {x : Str} {ts : List Expr} {is : List Nat} {p : Pos} (g : JN Y ts is) (hi : ∀ j, (Y.X j).N[i]? = some x := by intro _; rfl) (hN : ∀ j, (Y.X j).N.Nodup := by assumption) (hx : ∀ j, Loc (Y.X j).env.scope x := by first | exact fun _ => Or.inl rfl | exact fun _ => Or.inr rfl)
    (hf : ∀ j, (Y.X j).fn x = true ∨ (Y.X j).env.scope.names.lookup x = some .local := by first | exact fun _ => .inl rfl | exact fun _ => .inr rfl) (hq : ∀ j, (assignEach (.Name x p :: ts) (Y.X j).env).map (·.2) = assign (.Name x p) (Y.X j).env :: (assignEach ts (Y.X j).env).map (·.2) := by intro _; rfl) : JN Y (.Name x p :: ts) (i :: is) := by
  obtain ⟨u, p1, s⟩ := g
  refine ⟨gCons (gName i) u, fun j => pgs_cons (pg_name (hN j) (hi j) (hx j) (hf j)) (p1 j) (hq j), fun c σ ρ T H xs es ρ' Q hl r hm q => ?_⟩
  cases es with
  | nil => cases hm
  | cons e es =>
    cases xs with
    | nil => cases hl
    | cons v xs =>
      unfold mPuts at hm
      split at hm
      · rename_i h1
        exact ⟨v, xs, rfl, s c _ _ T H xs es ρ' Q (Nat.succ.inj hl) (Rel.put r h1) hm q⟩
      · cases hm
theorem s_par2 (i j : Nat) {x y : Str} {a b : Expr} {n : ME} {px py pt pt2 : Pos} {kt k2 : Nat} (h : JE Y [a, b] n) (hN : ∀ k, (Y.X k).N.Nodup := by assumption) (hi : ∀ k, (Y.X k).N[i]? = some x := by intro _; rfl) (hj : ∀ k, (Y.X k).N[j]? = some y := by intro _; rfl) (hij : i ≠ j := by decide)
    (hx : ∀ k, (Y.X k).env.scope.names.lookup x = some .local := by intro _; rfl) (hy : ∀ k, (Y.X k).env.scope.names.lookup y = some .local := by intro _; rfl)
    (hw : ∀ k, swappedStores [.Tuple [.Name x px, .Name y py] kt pt] (.Tuple [a, b] k2 pt2) (Y.X k).env = pure (some [x, y]) := by intro _; rfl)
    (hs : ∀ k, swapsWithSole [.Tuple [.Name x px, .Name y py] kt pt] (.Tuple [a, b] k2 pt2) pos.line (Y.X k).env = pure false := by intro _; rfl) : JS Y (.Assign [.Tuple [.Name x px, .Name y py] kt pt] (.Tuple [a, b] k2 pt2) pos) (mPar [i, j] n) := by
  obtain ⟨t, p, s⟩ := h
  exact ⟨tPar i j t, fun k => ps_par (Y.calm k) (hN k) (hi k) (hj k) hij (hx k) (hy k) (p k) (hw k) (hs k), sem_par2 s⟩
theorem s_par3 (i j l : Nat) {x y z : Str} {a b c0 : Expr} {n : ME} {px py pz pt pt2 : Pos} {kt k2 : Nat} (h : JE Y [a, b, c0] n) (hN : ∀ k, (Y.X k).N.Nodup := by assumption) (hi : ∀ k, (Y.X k).N[i]? = some x := by intro _; rfl) (hj : ∀ k, (Y.X k).N[j]? = some y := by intro _; rfl) (hl : ∀ k, (Y.X k).N[l]? = some z := by intro _; rfl)
    (hij : i ≠ j := by decide) (hil : i ≠ l := by decide) (hjl : j ≠ l := by decide)
    (hx : ∀ k, (Y.X k).env.scope.names.lookup x = some .local := by intro _; rfl) (hy : ∀ k, (Y.X k).env.scope.names.lookup y = some .local := by intro _; rfl) (hz : ∀ k, (Y.X k).env.scope.names.lookup z = some .local := by intro _; rfl)
    (hw : ∀ k, swappedStores [.Tuple [.Name x px, .Name y py, .Name z pz] kt pt] (.Tuple [a, b, c0] k2 pt2) (Y.X k).env = pure (some [x, y, z]) := by intro _; rfl)
    (hs : ∀ k, swapsWithSole [.Tuple [.Name x px, .Name y py, .Name z pz] kt pt] (.Tuple [a, b, c0] k2 pt2) pos.line (Y.X k).env = pure false := by intro _; rfl) : JS Y (.Assign [.Tuple [.Name x px, .Name y py, .Name z pz] kt pt] (.Tuple [a, b, c0] k2 pt2) pos) (mPar [i, j, l] n) := by
  obtain ⟨t, p, s⟩ := h
  exact ⟨tPar3 i j l t, fun k => ps_par3 (Y.calm k) (hN k) (hi k) (hj k) (hl k) hij hil hjl (hx k) (hy k) (hz k) (p k) (hw k) (hs k), sem_par3 s⟩
theorem tmo_zip : ∀ {vs : List V} {es : List Ent}, (tmo vs es).Perm (vs.zip es)
  | [], [] => .refl _
  | [], _ :: _ => .refl _
  | _ :: _, [] => .refl _
  | v :: vs, e :: es => by
    show (tmo vs es ++ [(v, e)]).Perm ((v, e) :: vs.zip es)
    exact List.perm_append_comm.trans (List.Perm.cons _ tmo_zip)
theorem s_parT {ts es : List Expr} {n : ME} {is : List Nat} {pt pt2 : Pos} {kt k2 k : Nat} (h : JE Y es n) (g : JN Y ts is) (hk : is.length = k := by rfl) (hn : ∀ j, (assignEach ts (Y.X j).env).length = k := by intro _; rfl) (hst : ∀ j, (assignEach ts (Y.X j).env).findIdx? (·.1) = none := by intro _; rfl)
    (hs : ∀ j, swapsWithSole [.Tuple ts kt pt] (.Tuple es k2 pt2) pos.line (Y.X j).env = pure false := by intro _; rfl) (hw : ∀ j, swappedStores [.Tuple ts kt pt] (.Tuple es k2 pt2) (Y.X j).env = pure none := by intro _; rfl) (h1 : ∀ j, (assignEach [.Tuple ts kt pt] (Y.X j).env).map (·.2) = [assign (.Tuple ts kt pt) (Y.X j).env] := by intro _; rfl) (hk5 : k ≤ 100 := by decide) :
    JS Y (.Assign [.Tuple ts kt pt] (.Tuple es k2 pt2) pos) (mPar is n) := by
  obtain ⟨t, p, s⟩ := h
  obtain ⟨u, p', s'⟩ := g
  refine ⟨tAsg (tTup t) (gTup Y.K k u), fun j => ps_asg (pe_tup (p j)) (by rw [← Y.hK j]; exact pg_tup (Y.calm j) (p' j) (hn j) (hst j)) (hs j) (hw j) (h1 j), fun c σ ρ T H D r q => ?_⟩
  obtain ⟨es, ρ1, ρ2, hn, hm, q⟩ := par_inv q
  refine s c σ ρ T H _ r ?_
  rw [hn]
  intro vs H1 hl r1
  have len : ∀ {is : List Nat} {es : List Ent} {ρ ρ' : En}, mPuts is es ρ = some ρ' → es.length = is.length := by
    intro is
    induction is with
    | nil =>
      intro es ρ ρ' h
      cases es with
      | nil => rfl
      | cons => cases h
    | cons i is ih =>
      intro es ρ ρ' h
      cases es with
      | nil => cases h
      | cons e es =>
        unfold mPuts at h
        split at h
        · exact congrArg Nat.succ (ih h)
        · cases h
  have hlen : vs.length = k := by rw [hl, len hm, hk]
  refine ⟨sz5 (by omega), fun p hp => ⟨p, vs, rfl, .inl (.inl upd_same), hlen, ?_⟩⟩
  refine s' c σ ρ1 T _ vs es ρ2 _ hl ((r1.perm (List.Perm.append_right T tmo_zip)).fresh hp _) hm q
end
end Fj

set_option Elab.async false
set_option linter.all false
set_option maxRecDepth 100000
set_option maxHeartbeats 4000000
set_option autoImplicit false
/-! Rows in order; sets put in order. -/
namespace Fj
open PySem PySem.Spec PyProof.Rows L2

section
variable {α : Type}
def ins (lt : α → α → Bool) (x : α) : List α → List α
  | [] => [x]
  | y :: ys => if lt y x = true then y :: ins lt x ys else x :: y :: ys
def isort (lt : α → α → Bool) : List α → List α
  | [] => []
  | x :: xs => ins lt x (isort lt xs)
theorem ins_perm (lt : α → α → Bool) (x : α) : ∀ ys : List α, (ins lt x ys).Perm (x :: ys)
  | [] => .refl _
  | y :: ys => by
    unfold ins
    split
    · exact (List.Perm.cons y (ins_perm lt x ys)).trans (List.Perm.swap x y ys)
    · exact .refl _
theorem isort_perm (lt : α → α → Bool) : ∀ xs : List α, (isort lt xs).Perm xs
  | [] => .refl _
  | x :: xs => (ins_perm lt x _).trans (List.Perm.cons x (isort_perm lt xs))
/-- a strict order, total but for what is alike -/
structure Ord (lt : α → α → Bool) : Prop where
  asym : ∀ x y, lt x y = true → lt y x = false
  tr : ∀ x y z, lt y x = false → lt z y = false → lt z x = false
theorem ins_sorted {lt : α → α → Bool} (O : Ord lt) (x : α) : ∀ {ys : List α}, ys.Pairwise (fun a b => lt b a = false) → (ins lt x ys).Pairwise (fun a b => lt b a = false)
  | [], _ => List.pairwise_singleton _ _
  | y :: ys, h => by
    obtain ⟨h1, h2⟩ := List.pairwise_cons.mp h
    unfold ins
    split
    · rename_i hl
      refine List.pairwise_cons.mpr ⟨fun z hz => ?_, ins_sorted O x h2⟩
      rcases List.mem_cons.mp ((ins_perm lt x ys).mem_iff.mp hz) with e | e
      · rw [e]
        exact O.asym _ _ hl
      · exact h1 z e
    · rename_i hl
      have hl : lt y x = false := Bool.eq_false_iff.mpr hl
      refine List.pairwise_cons.mpr ⟨fun z hz => ?_, h⟩
      rcases List.mem_cons.mp hz with e | e
      · rw [e]
        exact hl
      · exact O.tr _ _ _ hl (h1 z e)
theorem isort_sorted {lt : α → α → Bool} (O : Ord lt) : ∀ xs : List α, (isort lt xs).Pairwise (fun a b => lt b a = false)
  | [] => .nil
  | x :: xs => ins_sorted O x (isort_sorted O xs)
theorem uniq_sorted {r : α → α → Prop} (ha : ∀ a b, r a b → r b a → a = b) : ∀ {l m : List α}, l.Perm m → l.Pairwise r → m.Pairwise r → l = m
  | [], m, p, _, _ => (List.perm_nil.mp p.symm).symm
  | a :: l, [], p, _, _ => by
    have := p.length_eq
    cases this
  | a :: l, b :: m, p, h1, h2 => by
    obtain ⟨a1, a2⟩ := List.pairwise_cons.mp h1
    obtain ⟨b1, b2⟩ := List.pairwise_cons.mp h2
    have e : a = b := by
      rcases List.mem_cons.mp (p.mem_iff.mp (List.mem_cons_self ..)) with e | e
      · exact e
      · rcases List.mem_cons.mp (p.mem_iff.mpr (List.mem_cons_self ..)) with e' | e'
        · exact e'.symm
        · exact ha _ _ (a1 b e') (b1 a e)
    subst e
    rw [uniq_sorted ha p.cons_inv a2 b2]
theorem uniq_strict {r : α → α → Prop} (hi : ∀ a, ¬ r a a) (ht : ∀ a b, r a b → ¬ r b a) : ∀ {l m : List α}, (∀ x, x ∈ l ↔ x ∈ m) → l.Pairwise r → m.Pairwise r → l = m
  | [], [], _, _, _ => rfl
  | [], b :: m, p, _, _ => (List.not_mem_nil ((p b).mpr (List.mem_cons_self ..))).elim
  | a :: l, [], p, _, _ => (List.not_mem_nil ((p a).mp (List.mem_cons_self ..))).elim
  | a :: l, b :: m, p, h1, h2 => by
    obtain ⟨a1, a2⟩ := List.pairwise_cons.mp h1
    obtain ⟨b1, b2⟩ := List.pairwise_cons.mp h2
    have e : a = b := by
      rcases List.mem_cons.mp ((p a).mp (List.mem_cons_self ..)) with e | e
      · exact e
      · rcases List.mem_cons.mp ((p b).mpr (List.mem_cons_self ..)) with e' | e'
        · exact e'.symm
        · exact absurd (b1 a e) (ht _ _ (a1 b e'))
    subst e
    have na : a ∉ l := fun z => hi a (a1 a z)
    have nb : a ∉ m := fun z => hi a (b1 a z)
    rw [uniq_strict hi ht (fun x => ⟨fun hx => ?_, fun hx => ?_⟩) a2 b2]
    · rcases List.mem_cons.mp ((p x).mp (List.mem_cons_of_mem _ hx)) with e | e
      · exact absurd (e ▸ hx) na
      · exact e
    · rcases List.mem_cons.mp ((p x).mpr (List.mem_cons_of_mem _ hx)) with e | e
      · exact absurd (e ▸ hx) nb
      · exact e
end
def dedup {α : Type} [DecidableEq α] : List α → List α
  | [] => []
  | x :: xs => if x ∈ xs then dedup xs else x :: dedup xs
theorem mem_dedup {α : Type} [DecidableEq α] : ∀ {xs : List α} {x : α}, x ∈ dedup xs ↔ x ∈ xs
  | [], x => Iff.rfl
  | y :: xs, x => by
    unfold dedup
    split
    · rename_i h
      rw [mem_dedup, List.mem_cons]
      exact ⟨.inr, fun z => z.elim (fun e => e ▸ h) id⟩
    · rw [List.mem_cons, List.mem_cons, mem_dedup]
theorem nodup_dedup {α : Type} [DecidableEq α] : ∀ xs : List α, (dedup xs).Nodup
  | [] => List.nodup_nil
  | y :: xs => by
    unfold dedup
    split
    · exact nodup_dedup xs
    · rename_i h
      exact List.nodup_cons.mpr ⟨fun z => h (mem_dedup.mp z), nodup_dedup xs⟩
/-! ### rows of numbers by their order -/
theorem ord_lex : Ord HT.lexLt := ⟨NtL.lex_asym, NtL.lex_tr⟩
theorem lex_tot : ∀ {xs ys : List Int}, HT.lexLt xs ys = false → HT.lexLt ys xs = false → xs = ys
  | [], [], _, _ => rfl
  | [], y :: ys, h, _ => by cases h
  | x :: xs, [], _, h => by cases h
  | x :: xs, y :: ys, h1, h2 => by
    rw [HT.lexLt_cons] at h1 h2
    by_cases e : x = y
    · rw [if_pos e] at h1
      rw [if_pos e.symm] at h2
      rw [e, lex_tot h1 h2]
    · rw [if_neg e] at h1
      rw [if_neg fun z => e z.symm] at h2
      have a := of_decide_eq_false h1
      have b := of_decide_eq_false h2
      omega
theorem lex_irr : ∀ xs : List Int, HT.lexLt xs xs = false
  | [] => rfl
  | x :: xs => by
    rw [HT.lexLt_cons, if_pos rfl]
    exact lex_irr xs
theorem code_lexLe {B : Int} : ∀ {x y : List Int}, x.length = y.length → TS.Bd B x → TS.Bd B y → TS.code B x ≤ TS.code B y → HT.lexLt y x = false
  | [], [], _, _, _, _ => rfl
  | [], _ :: _, h, _, _, _ => by cases h
  | _ :: _, [], h, _, _, _ => by cases h
  | d :: r, e :: q, hl, h1, h2, h => by
    rw [HT.lexLt_cons]
    by_cases he : e = d
    · rw [if_pos he]
      subst he
      refine code_lexLe (Nat.succ.inj hl) h1.tail h2.tail ?_
      exact Int.not_lt.mp fun z => absurd h (Int.not_le.mpr ((TS.code_same (Nat.succ.inj hl).symm).mpr z))
    · rw [if_neg he]
      refine decide_eq_false fun z => ?_
      exact absurd h (Int.not_le.mpr (TS.code_lt (Nat.succ.inj hl).symm h2.tail h1.tail z))
abbrev tupI (ns : List Int) : PyData := .tuple (ns.map .int)
def tupsD : List PyData → Option (List (List Int))
  | [] => some []
  | .tuple xs :: r => match intsD xs, tupsD r with
    | some ns, some nss => some (ns :: nss)
    | _, _ => none
  | _ => none
theorem tupsD_eq : ∀ {ds : List PyData} {nss : List (List Int)}, tupsD ds = some nss → ds = nss.map tupI
  | [], nss, h => by
    cases h
    rfl
  | d :: r, nss, h => by
    cases d with
    | tuple xs =>
      unfold tupsD at h
      split at h
      · rename_i ns nss' h1 h2
        cases h
        rw [List.map_cons, ← tupsD_eq h2, intsD_eq h1]
      · cases h
    | _ => cases h
theorem tupsD_map : ∀ nss : List (List Int), tupsD (nss.map tupI) = some nss
  | [] => rfl
  | ns :: nss => by
    rw [List.map_cons]
    unfold tupsD
    rw [intsD_map, tupsD_map nss]
/-- rows of one length, of numbers that are not below 0, fewer than sixty-four -/
def tupsOk (nss : List (List Int)) : Bool := decide (nss.length < 64) && nss.all fun ns => ns.all (fun i => decide (0 ≤ i)) && match nss with
  | m :: _ => ns.length == m.length && decide (1 ≤ m.length)
  | [] => true
def topI (nss : List (List Int)) : Int := nss.foldr (fun ns b => ns.foldr (fun i b => max (i + 1) b) b) 1
theorem top_row : ∀ (ns : List Int) (b : Int), b ≤ ns.foldr (fun i b => max (i + 1) b) b ∧ ∀ i ∈ ns, i < ns.foldr (fun i b => max (i + 1) b) b
  | [], b => ⟨Int.le_refl _, fun i z => (List.not_mem_nil z).elim⟩
  | n :: ns, b => by
    obtain ⟨h1, h2⟩ := top_row ns b
    rw [List.foldr_cons]
    refine ⟨by omega, fun i hi => ?_⟩
    rcases List.mem_cons.mp hi with e | e
    · omega
    · have := h2 i e
      omega
theorem top_ok : ∀ (nss : List (List Int)), ∀ ns ∈ nss, ∀ i ∈ ns, i < topI nss
  | [], ns, h => (List.not_mem_nil h).elim
  | m :: nss, ns, h => fun i hi => by
    unfold topI
    rw [List.foldr_cons]
    obtain ⟨h1, h2⟩ := top_row m (topI nss)
    rcases List.mem_cons.mp h with e | e
    · subst e
      exact h2 i hi
    · have := top_ok nss ns e i hi
      exact Int.lt_of_lt_of_le this h1
theorem tups_facts {nss : List (List Int)} (h : tupsOk nss = true) : nss.length < 64 ∧ ∃ d, 1 ≤ d ∧ ∀ ns ∈ nss, ns.length = d ∧ TS.Bd (topI nss) ns := by
  unfold tupsOk at h
  simp only [Bool.and_eq_true, decide_eq_true_eq, List.all_eq_true] at h
  obtain ⟨h1, h2⟩ := h
  refine ⟨h1, ?_⟩
  cases nss with
  | nil => exact ⟨1, Nat.le_refl 1, fun ns z => (List.not_mem_nil z).elim⟩
  | cons m nss =>
    have hm := (h2 m (List.mem_cons_self ..)).2
    simp only [Bool.and_eq_true, beq_iff_eq, decide_eq_true_eq] at hm
    refine ⟨m.length, hm.2, fun ns hns => ?_⟩
    obtain ⟨a, b⟩ := h2 ns hns
    simp only [Bool.and_eq_true, beq_iff_eq, decide_eq_true_eq] at b
    exact ⟨b.1, fun i hi => ⟨a i hi, top_ok _ ns hns i hi⟩⟩
section
variable {K : PySem.W.Frag} {F : Hp}
theorem Rps.perm {vs vs' : List V} (h : vs'.Perm vs) : ∀ {ds : List PyData}, Rps K F vs ds → ∃ ds', Rps K F vs' ds' ∧ ds'.Perm ds := by
  induction h with
  | nil => exact fun r => ⟨_, r, .refl _⟩
  | cons x _ ih =>
    intro ds r
    cases r with
    | cons r t =>
      obtain ⟨ds', a, b⟩ := ih t
      exact ⟨_, .cons r a, b.cons _⟩
  | swap x y l =>
    intro ds r
    cases r with
    | cons r t =>
      cases t with
      | cons r' t => exact ⟨_, .cons r' (.cons r t), List.Perm.swap ..⟩
  | trans _ _ ih1 ih2 =>
    intro ds r
    obtain ⟨d1, a1, b1⟩ := ih2 r
    obtain ⟨d2, a2, b2⟩ := ih1 a1
    exact ⟨d2, a2, b2.trans b1⟩
theorem Rp.tupI {v : V} {ns : List Int} (h : Rp K F v (Fj.tupI ns)) : ∃ t, v = .ref t ∧ SqT K F t (ns.map V.int) := by
  cases h with
  | tup h r =>
    rw [r.nums] at h
    exact ⟨_, rfl, h⟩
/-- a perm of rows is rows -/
theorem perm_rows {nss : List (List Int)} {ds : List PyData} (h : ds.Perm (nss.map Fj.tupI)) : ∃ mss : List (List Int), ds = mss.map Fj.tupI ∧ mss.Perm nss := by
  generalize he : nss.map Fj.tupI = es at h
  induction h generalizing nss with
  | nil =>
    rw [List.map_eq_nil_iff] at he
    subst he
    exact ⟨[], rfl, .refl _⟩
  | cons x _ ih =>
    cases nss with
    | nil => cases he
    | cons n nss =>
      cases he
      obtain ⟨m, e, p⟩ := ih rfl
      exact ⟨n :: m, by rw [e]; rfl, p.cons n⟩
  | swap x y l =>
    match nss, he with
    | n :: k :: nss, he =>
      cases he
      exact ⟨k :: n :: nss, rfl, List.Perm.swap ..⟩
  | trans _ _ ih1 ih2 =>
    obtain ⟨m1, e1, p1⟩ := ih2 he
    obtain ⟨m2, e2, p2⟩ := ih1 e1.symm
    exact ⟨m2, e2, p2.trans p1⟩
theorem rps_pair {vs : List V} {nss : List (List Int)} (r : Rps K F vs (nss.map Fj.tupI)) {R : V → V → Prop} {S : List Int → List Int → Prop} (h : vs.Pairwise R) (hs : ∀ x y n m, Rp K F x (Fj.tupI n) → Rp K F y (Fj.tupI m) → n ∈ nss → m ∈ nss → R x y → S n m) : nss.Pairwise S := by
  induction nss generalizing vs with
  | nil => exact .nil
  | cons n nss ih =>
    cases r with
    | @cons v vs _ _ r t =>
      obtain ⟨h1, h2⟩ := List.pairwise_cons.mp h
      refine List.pairwise_cons.mpr ⟨fun m hm => ?_, ih t h2 fun x y a b ra rb ha hb z => hs x y a b ra rb (List.mem_cons_of_mem _ ha) (List.mem_cons_of_mem _ hb) z⟩
      obtain ⟨k, hk, e⟩ := List.getElem_of_mem hm
      have hd : (nss.map Fj.tupI)[k]? = some (Fj.tupI m) := by
        rw [List.getElem?_map, List.getElem?_eq_getElem hk, e]
        rfl
      obtain ⟨x, hx, rx⟩ := t.get hd
      exact hs v x n m r rx (List.mem_cons_self ..) (List.mem_cons_of_mem _ hm) (h1 x (List.mem_of_getElem? hx))
end
/-- sorted(pairs), any number of them -/
def gSortP : List PyData → Option Ent
  | [.list ds] => match tupsD ds with
    | some nss => if (nss.all fun ns => ns.length == 2) = true then some (.own true (.lst ((isort HT.lexLt nss).map tupI))) else none
    | none => none
  | _ => none
def rSortQ (K : PySem.W.Frag) : List V → Hp → VK → Prop := fun vs H Q => ∃ (a : Addr) (xs : List V), vs = [V.ref a] ∧ SqL K H a xs ∧ (∀ x ∈ xs, ∃ i j, TupI K H x [i, j]) ∧
  ∀ (ys : List V) (p : Addr), ys.Perm xs → ys.Pairwise (fun x y => ∀ n m, TupI K H x n → TupI K H y m → HT.lexLt m n = false) → H p = none → Q (.ref p) (upd H p (.lst ys))
def kvP (h : Heap) (v : Value) : Int × Int := match TS.intsOf h v with
  | [i, j] => (i, j)
  | _ => (0, 0)
theorem kvP_of {h : Heap} {v : Value} {i j : Int} (e : TS.intsOf h v = [i, j]) : kvP h v = (i, j) := by
  unfold kvP
  rw [e]
theorem lexB_lt {i j a b : Int} : SrtO.lexB (i, j) (a, b) = HT.lexLt [i, j] [a, b] := by
  rw [Bool.eq_iff_iff, SrtO.lexB_iff]
  simp only [HT.lexLt]
  repeat' split
  all_goals simp only [decide_eq_true_eq, Bool.false_eq_true, iff_false]
  all_goals omega
theorem cr_sortQ {X : Cx} : CallR X (.builtin "sorted") (rSortQ X.K) := by
  intro pins s σ H vs us Q I r h
  obtain ⟨a, xs, rfl, hs, hx, q⟩ := h
  obtain ⟨its, rv, hl, hz⟩ := I.list hs
  rw [Vals.ref1 r]
  obtain ⟨e1, e2⟩ := bkV_refs rv fun x m => by
    obtain ⟨i, j, t, e, _⟩ := hx x m
    exact ⟨t, e⟩
  refine SrtO.sorted_pairsO (k := kvP s.heap) hl.isList (by rw [← rv.length]; exact hz) (fun v hv => ?_) fun h' d out h1 h2 kp hd hn => ?_
  · obtain ⟨t, rfl⟩ := e2 v hv
    have hm : V.ref t ∈ xs := by
      rw [e1]
      exact List.mem_map.mpr ⟨_, hv, rfl⟩
    obtain ⟨i, j, t', e, ht⟩ := hx _ hm
    cases e
    rw [kvP_of (tupI_raw I ht).ints]
    obtain ⟨its2, rv2, ⟨o, ho, hc, n, hd⟩, _⟩ := I.tuple ht
    obtain ⟨u1, u2, rfl, ri, rj⟩ := vals2 rv2
    obtain ⟨t1, rfl⟩ := ri
    obtain ⟨t2, rfl⟩ := rj
    exact ⟨t, o, t1, t2, n, rfl, ho, hc, hd⟩
  · have h3 : ∀ u ∈ out, ∃ a, u = Value.ref a := fun u hu => e2 u (h2.perm.mem_iff.mp hu)
    obtain ⟨n, hn⟩ := hn
    have hp : (out.map bkV).Perm xs := by
      rw [e1]
      exact h2.perm.map bkV
    have hlen : (out.map bkV).length ≤ sizeLine := by
      rw [hp.length_eq]
      exact hz
    refine ⟨.ref d, upd H d (.lst (out.map bkV)), I.laid (t' := s.toks) kp hd ⟨hlen, out, n, bkV_vals h3, hn⟩, rfl, q _ d hp ?_ (I.hok.fresh hd)⟩
    rw [List.pairwise_map]
    refine List.Pairwise.imp_of_mem (fun {u v} hu hv huv n m hn hm => ?_) h1
    obtain ⟨t, et, ht⟩ := hn
    obtain ⟨t', et', ht'⟩ := hm
    have eu := bkV_ref et
    have ev := bkV_ref et'
    subst eu ev
    have hmu : V.ref t ∈ xs := hp.mem_iff.mp (List.mem_map.mpr ⟨_, hu, et⟩)
    have hmv : V.ref t' ∈ xs := hp.mem_iff.mp (List.mem_map.mpr ⟨_, hv, et'⟩)
    obtain ⟨i, j, s1, e, hs1⟩ := hx _ hmu
    cases e
    obtain ⟨i', j', s2, e, hs2⟩ := hx _ hmv
    cases e
    have k1 := (tupI_raw I hs1).ints
    have k2 := (tupI_raw I hs2).ints
    have k3 := (tupI_raw I ht).ints
    have k4 := (tupI_raw I ht').ints
    have en : n = [i, j] := k3.symm.trans k1
    have em : m = [i', j'] := k4.symm.trans k2
    have huv : SrtO.lexB (kvP s.heap (.ref t')) (kvP s.heap (.ref t)) = false := huv
    rw [kvP_of k1, kvP_of k2] at huv
    rw [en, em, ← lexB_lt]
    exact huv
/-- sorted(rows) -/
def gSortT : List PyData → Option Ent
  | [.list ds] => match tupsD ds with
    | some nss => if tupsOk nss = true then some (.own true (.lst ((isort HT.lexLt nss).map tupI))) else none
    | none => none
  | _ => none
/-- sorted(numbers) -/
def gSortI : List PyData → Option Ent
  | [.list ds] => (intsD ds).map fun ns => .own true (.lst ((isort (fun i j => decide (i < j)) ns).map .int))
  | _ => none
def gSorted (ds : List PyData) : Option Ent := (gSortI ds).or ((gSortT ds).or (gSortP ds))
theorem CallJ.or {Y : Fam} {f : Value} {g g' : List PyData → Option Ent} (h : CallJ Y f g) (h' : CallJ Y f g') : CallJ Y f (fun ds => (g ds).or (g' ds)) := by
  obtain ⟨r, o, s⟩ := h
  obtain ⟨r', o', s'⟩ := h'
  refine ⟨_, fun j => CallR.or (o j) (o' j), fun c σ ρ T H vs ds z Q hl re e q => ?_⟩
  cases hg : g ds with
  | some w =>
    simp only [hg, Option.or] at e
    cases e
    exact .inl (s c σ ρ T H vs ds _ Q hl re hg q)
  | none =>
    simp only [hg, Option.or] at e
    exact .inr (s' c σ ρ T H vs ds z Q hl re e q)
section
variable {Y : Fam}
theorem ord_int : Ord (fun i j : Int => decide (i < j)) := ⟨fun x y h => decide_eq_false (by have := of_decide_eq_true h; omega), fun x y z h1 h2 => decide_eq_false (by have := of_decide_eq_false h1; have := of_decide_eq_false h2; omega)⟩
theorem c_sortI : CallJ Y (.builtin "sorted") gSortI := by
  refine ⟨rSortedI Y.K, fun j => by rw [← Y.hK j]; exact cr_sortedI, fun c σ ρ T H vs ds z Q hl r e q => ?_⟩
  unfold gSortI at e
  split at e
  · obtain ⟨bs, hb, rfl⟩ := Option.map_eq_some_iff.mp e
    have := intsD_eq hb
    subst this
    obtain ⟨v, rfl⟩ := len1 hl
    obtain ⟨F, fp, f⟩ := r
    have f : RelF Y.K c σ ρ ((v, .val (.list _)) :: T) H F fp := f
    obtain ⟨p, us, rfl, h1, h2⟩ := f.top.lstAt
    have := h2.nums
    subst this
    refine ⟨p, bs, rfl, .inl (.inl (f.fh _ _ h1)), fun ns' p' pm pw hp => ?_⟩
    have e : ns' = isort (fun i j => decide (i < j)) bs := by
      refine uniq_sorted (r := fun a b : Int => a ≤ b) (fun a b h1 h2 => Int.le_antisymm h1 h2) (pm.trans (isort_perm _ bs).symm) pw ?_
      exact (isort_sorted ord_int bs).imp fun {a b} h => by
        have := of_decide_eq_false h
        omega
    rw [e]
    exact q _ _ (f.popV.lstNew hp rps_ints)
  · cases e
theorem c_sortT : CallJ Y (.builtin "sorted") gSortT := by
  refine ⟨fun vs H Q => ∃ (d : Nat) (B : Int), 1 ≤ d ∧ rSortU Y.K d B vs H Q, fun j => ?_, fun c σ ρ T H vs ds z Q hl r e q => ?_⟩
  · intro pins s σ H xs us Q I rs ⟨d, B, hd, h⟩
    have := cr_sortT (X := Y.X j) (B := B) hd
    rw [Y.hK j] at this
    exact this pins s σ H xs us Q I rs h
  · unfold gSortT at e
    split at e
    · split at e
      · rename_i nss hn
        split at e
        · rename_i hok
          cases e
          have := tupsD_eq hn
          subst this
          obtain ⟨v, rfl⟩ := len1 hl
          obtain ⟨F, fp, f⟩ := r
          have f : RelF Y.K c σ ρ ((v, .val (.list (nss.map tupI))) :: T) H F fp := f
          obtain ⟨p, us, rfl, h1, h2⟩ := f.top.lstAt
          obtain ⟨hlen, d, hd, hrow⟩ := tups_facts hok
          have hul : us.length = nss.length := by rw [h2.length, List.length_map]
          refine ⟨d, topI nss, hd, p, us, rfl, .inl (.inl (f.fh _ _ h1)), by omega, fun x hx => ?_, fun ys p' pm pw hp => ?_⟩
          · obtain ⟨k, hk, e⟩ := List.getElem_of_mem hx
            obtain ⟨ns, hns⟩ : ∃ ns, nss[k]? = some ns := ⟨nss[k]'(by omega), List.getElem?_eq_getElem _⟩
            have hd' : (nss.map tupI)[k]? = some (tupI ns) := by rw [List.getElem?_map, hns]; rfl
            obtain ⟨x', hx', rx⟩ := h2.get hd'
            rw [List.getElem?_eq_getElem hk, e] at hx'
            cases hx'
            obtain ⟨t, rfl, ht⟩ := rx.tupI
            have hm := List.mem_of_getElem? hns
            exact ⟨ns, ⟨t, rfl, same_tup f.fh ht⟩, (hrow ns hm).1, (hrow ns hm).2⟩
          · obtain ⟨ds', r', pm'⟩ := Rps.perm pm h2
            obtain ⟨mss, rfl, pm2⟩ := perm_rows pm'
            have mem : ∀ m ∈ mss, m.length = d ∧ TS.Bd (topI nss) m := fun m hm => hrow m (pm2.mem_iff.mp hm)
            have srt : mss.Pairwise (fun a b => HT.lexLt b a = false) := rps_pair r' pw fun x y n m rx ry hn hm h => by
              obtain ⟨t, rfl, ht⟩ := rx.tupI
              obtain ⟨t', rfl, ht'⟩ := ry.tupI
              exact code_lexLe ((mem n hn).1.trans (mem m hm).1.symm) (mem n hn).2 (mem m hm).2 (h n m ⟨t, rfl, same_tup f.fh ht⟩ ⟨t', rfl, same_tup f.fh ht'⟩)
            have e : mss = isort HT.lexLt nss := uniq_sorted (fun a b h1 h2 => lex_tot h2 h1) (pm2.trans (isort_perm _ nss).symm) srt (isort_sorted ord_lex nss)
            rw [e] at r'
            exact q _ _ (f.popV.lstNew hp r')
        · cases e
      · cases e
    · cases e
theorem c_sortP : CallJ Y (.builtin "sorted") gSortP := by
  refine ⟨rSortQ Y.K, fun j => by rw [← Y.hK j]; exact cr_sortQ, fun c σ ρ T H vs ds z Q hl r e q => ?_⟩
  unfold gSortP at e
  split at e
  · split at e
    · rename_i nss hn
      split at e
      · rename_i hok
        cases e
        have := tupsD_eq hn
        subst this
        obtain ⟨v, rfl⟩ := len1 hl
        obtain ⟨F, fp, f⟩ := r
        have f : RelF Y.K c σ ρ ((v, .val (.list (nss.map tupI))) :: T) H F fp := f
        obtain ⟨p, us, rfl, h1, h2⟩ := f.top.lstAt
        have hul : us.length = nss.length := by rw [h2.length, List.length_map]
        refine ⟨p, us, rfl, .inl (.inl (f.fh _ _ h1)), fun x hx => ?_, fun ys p' pm pw hp => ?_⟩
        · obtain ⟨k, hk, e⟩ := List.getElem_of_mem hx
          obtain ⟨ns, hns⟩ : ∃ ns, nss[k]? = some ns := ⟨nss[k]'(by omega), List.getElem?_eq_getElem _⟩
          have hd' : (nss.map tupI)[k]? = some (tupI ns) := by rw [List.getElem?_map, hns]; rfl
          obtain ⟨x', hx', rx⟩ := h2.get hd'
          rw [List.getElem?_eq_getElem hk, e] at hx'
          cases hx'
          obtain ⟨t, rfl, ht⟩ := rx.tupI
          have hm := List.mem_of_getElem? hns
          have h2l : ns.length = 2 := by
            have := List.all_eq_true.mp hok ns hm
            exact eq_of_beq this
          match ns, h2l, ht with
          | [i, j], _, ht => exact ⟨i, j, t, rfl, same_tup f.fh ht⟩
        · obtain ⟨ds', r', pm'⟩ := Rps.perm pm h2
          obtain ⟨mss, rfl, pm2⟩ := perm_rows pm'
          have srt : mss.Pairwise (fun a b => HT.lexLt b a = false) := rps_pair r' pw fun x y n m rx ry hn hm h => by
            obtain ⟨t, rfl, ht⟩ := rx.tupI
            obtain ⟨t', rfl, ht'⟩ := ry.tupI
            exact h n m ⟨t, rfl, same_tup f.fh ht⟩ ⟨t', rfl, same_tup f.fh ht'⟩
          have e : mss = isort HT.lexLt nss := uniq_sorted (fun a b h1 h2 => lex_tot h2 h1) (pm2.trans (isort_perm _ nss).symm) srt (isort_sorted ord_lex nss)
          rw [e] at r'
          exact q _ _ (f.popV.lstNew hp r')
      · cases e
    · cases e
  · cases e
theorem rps_ks {K : PySem.W.Frag} {F : Hp} : ∀ {us : List V} {nss : List (List Int)}, Rps K F us (nss.map tupI) → ∃ ks : List (Addr × List Int), us = ks.map (fun p => V.ref p.1) ∧ nss = ks.map (·.2)
  | _, [], h => by
    cases h
    exact ⟨[], rfl, rfl⟩
  | _, n :: nss, h => by
    cases h with
    | cons r t =>
      obtain ⟨ks, e1, e2⟩ := rps_ks t
      obtain ⟨a, rfl, _⟩ := r.tupI
      exact ⟨(a, n) :: ks, by rw [e1]; rfl, by rw [e2]; rfl⟩
theorem rps_at {K : PySem.W.Frag} {F : Hp} : ∀ {ks : List (Addr × List Int)}, Rps K F (ks.map fun p => V.ref p.1) (ks.map fun p => tupI p.2) → ∀ p ∈ ks, Rp K F (.ref p.1) (tupI p.2)
  | [], _, p, hp => (List.not_mem_nil hp).elim
  | k :: ks, h, p, hp => by
    cases h with
    | cons r t =>
      rcases List.mem_cons.mp hp with e | e
      · rw [e]
        exact r
      · exact rps_at t p e
theorem rps_of {K : PySem.W.Frag} {F : Hp} : ∀ {L : List (Addr × List Int)}, (∀ p ∈ L, Rp K F (.ref p.1) (tupI p.2)) → Rps K F (L.map fun p => V.ref p.1) (L.map fun p => tupI p.2)
  | [], _ => .nil
  | k :: L, h => .cons (h k (List.mem_cons_self ..)) (rps_of fun p hp => h p (List.mem_cons_of_mem _ hp))
/-- sorted(set(rows)) -/
def mSS (m : MV) : MO := fun ρ => match m ρ with
  | some (.list ds, ρ) => match tupsD ds with
    | some nss => if tupsOk nss = true then some (.own true (.lst ((isort HT.lexLt (dedup nss)).map tupI)), ρ) else none
    | none => none
  | _ => none
theorem j_sortSet {e : Expr} {m : MV} {p p2 pos pos2 : Pos} (h : JV Y e m) (hm : Y.mg "sorted" = none) (hm2 : Y.mg "set" = none) (hg : ∀ j, Gl (Y.X j) "sorted" := by intro _; rfl) (hg2 : ∀ j, Gl (Y.X j) "set" := by intro _; rfl)
    (hs : ∀ j, starEach [e] (Y.X j).env = (false, eval e (Y.X j).env) :: starEach [] (Y.X j).env := by intro _; rfl) (hpl : ∀ j, (backTo pos2 (starEach [] (Y.X j).env)).any (·.1) = false := by intro _; rfl)
    (hs1 : ∀ j, starEach [.Call (.Name "set" p2) [e] [] pos2] (Y.X j).env = (false, eval (.Call (.Name "set" p2) [e] [] pos2) (Y.X j).env) :: starEach [] (Y.X j).env := by intro _; rfl) (hpl1 : ∀ j, (backTo pos (starEach [] (Y.X j).env)).any (·.1) = false := by intro _; rfl) :
    JO Y (.Call (.Name "sorted" p) [.Call (.Name "set" p2) [e] [] pos2] [] pos) (mSS m) := by
  obtain ⟨te, pe, se⟩ := h
  refine ⟨tCB (rSortedT Y.K Y.P Y.w) (tCons (tCB (rSetOfT Y.K Y.P Y.w) (tCons te tNil)) tNil), fun j => ?_, fun c σ ρ T H Q r q => ?_⟩
  · rw [← Y.hK j, ← Y.hP j, ← Y.hw j]
    exact pe_callB (cr_sortedT (Y.calm j)) (hg j) (by rw [Y.hmg j]; exact hm) (by decide +kernel) (pa_cons (pe_callTy (cr_setOfT (Y.calm j) (Y.room j).units) (hg2 j) (by rw [Y.hmg j]; exact hm2) (by decide +kernel) (pa_cons (pe j) pa_nil (hs j)) (by decide) (by decide) (hs j) (hpl j)) pa_nil (hs1 j)) (by decide) (by decide) (hs1 j) (hpl1 j)
  · refine se c σ ρ T H _ r ?_
    unfold mSS at q
    cases hm : m ρ with
    | none =>
      rw [hm] at q
      exact q
    | some z =>
      obtain ⟨d, ρ1⟩ := z
      rw [hm] at q
      cases d with
      | list ds =>
        simp only at q
        split at q
        · rename_i nss hn
          split at q
          · rename_i hok
            have := tupsD_eq hn
            subst this
            intro v H1 r1
            obtain ⟨hlen, d, hd, hrow⟩ := tups_facts hok
            obtain ⟨F, fp, f⟩ := id r1
            obtain ⟨l, us, rfl, h1, h2⟩ := f.top.lstAt
            obtain ⟨ks, rfl, rfl⟩ := rps_ks h2
            rw [List.map_map] at h2
            rw [List.length_map] at hlen
            refine ⟨l, ks, rfl, .inl (.inl (f.fh _ _ h1)), fun p hp => ?_, hlen, fun a L ha hsub hall => ?_⟩
            · obtain ⟨t, e, ht⟩ := (rps_at h2 p hp).tupI
              cases e
              exact same_tup f.fh ht
            · have r2 := r1.fresh ha (SetTO Y.P Y.w a L)
              obtain ⟨F', fp', f'⟩ := id r2
              obtain ⟨l', us', e, h1', h2'⟩ := f'.top.lstAt
              cases e
              have eus : us' = ks.map fun p => V.ref p.1 := by
                have z1 := f'.fh _ _ h1'
                rw [upd_ne (ne_of_none (f.fh _ _ h1) ha), f.fh _ _ h1] at z1
                cases z1
                rfl
              subst eus
              rw [List.map_map] at h2'
              have rp := rps_at h2'
              have rowL : ∀ p ∈ L, p.2.length = d ∧ TS.Bd (topI (ks.map (·.2))) p.2 := fun p hp => hrow p.2 (List.mem_map.mpr ⟨p, hsub p hp, rfl⟩)
              refine ⟨a, L, d, topI (ks.map (·.2)), rfl, upd_same, fun p hp => ?_, hd, rowL, fun L' p' pm nd _ pw hp' => ?_⟩
              · obtain ⟨t, e, ht⟩ := (rp p (hsub p hp)).tupI
                cases e
                exact same_tup f'.fh ht
              · have memL : ∀ p ∈ L', p ∈ L := fun p hp => pm.mem_iff.mp hp
                have e : L'.map (·.2) = isort HT.lexLt (dedup (ks.map (·.2))) := by
                  have irr : ∀ a : List Int, ¬ HT.lexLt a a = true := fun a z => by rw [lex_irr] at z; cases z
                  have asy : ∀ a b : List Int, HT.lexLt a b = true → ¬ HT.lexLt b a = true := fun a b h z => by rw [NtL.lex_asym a b h] at z; cases z
                  refine uniq_strict (r := fun a b : List Int => HT.lexLt a b = true) irr asy (fun x => ?_) ?_ ?_
                  · rw [(isort_perm HT.lexLt _).mem_iff, mem_dedup, (pm.map (·.2)).mem_iff]
                    constructor
                    · intro hx
                      obtain ⟨p, hp, e⟩ := List.mem_map.mp hx
                      exact List.mem_map.mpr ⟨p, hsub p hp, e⟩
                    · intro hx
                      obtain ⟨p, hp, e⟩ := List.mem_map.mp hx
                      rw [← e]
                      exact hall p hp
                  · have : (L'.map (·.2)).Pairwise (fun a b => HT.lexLt b a = false) := List.pairwise_map.mpr (pw.imp_of_mem fun {a b} ha hb h => code_lexLe ((rowL a (memL a ha)).1.trans (rowL b (memL b hb)).1.symm) (rowL a (memL a ha)).2 (rowL b (memL b hb)).2 h)
                    exact (this.and nd).imp fun {a b} ⟨h1, h2⟩ => Bool.of_not_eq_false fun z => h2 (lex_tot z h1)
                  · have nd2 : (isort HT.lexLt (dedup (ks.map (·.2)))).Nodup := (isort_perm _ _).nodup_iff.mpr (nodup_dedup _)
                    exact ((isort_sorted ord_lex _).and nd2).imp fun {a b} ⟨h1, h2⟩ => Bool.of_not_eq_false fun z => h2 (lex_tot z h1)
                have rL := rps_of (L := L') fun p hp => rp p (hsub p (memL p hp))
                have eL : (L'.map fun p => tupI p.2) = (isort HT.lexLt (dedup (ks.map (·.2)))).map tupI := by
                  rw [← e, List.map_map]
                  rfl
                rw [eL] at rL
                exact q _ _ (f'.popV.lstNew hp' rL)
          · exact q.elim
        · exact q.elim
      | _ => exact q.elim
theorem c_sorted : CallJ Y (.builtin "sorted") gSorted := c_sortI.or (c_sortT.or c_sortP)
end
end Fj

set_option Elab.async false
set_option linter.all false
set_option maxRecDepth 100000
set_option maxHeartbeats 4000000
set_option autoImplicit false
/-! A head that tells of tuples bound at the top, too. -/
namespace Fj
open PySem PySem.Spec PyProof.Rows L2

mutual
def mtB (K : PySem.W.Frag) : Value → PyData → Bool
  | u, .none => (match u with
    | .none => true
    | _ => false)
  | u, .bool b => (match u with
    | .bool c => b == c
    | _ => false)
  | u, .int i => (match u with
    | .int j _ => decide (i = j)
    | _ => false)
  | u, .str x => (match u with
    | .str y _ => decide (x = y)
    | _ => false)
  | u, .tuple ds => (match u with
    | .ref a => (match K.lookup a with
      | some ⟨.type c, _, .seq its _, _⟩ => decide (c = "tuple") && (decide (its.size ≤ sizeLine) && mtAll K its.toList ds)
      | _ => false)
    | _ => false)
  | _, .list _ => false
  | _, .dict _ => false
def mtAll (K : PySem.W.Frag) : List Value → List PyData → Bool
  | us, [] => us.isEmpty
  | us, d :: ds => (match us with
    | u :: us => mtB K u d && mtAll K us ds
    | [] => false)
end
mutual
theorem mtB_ok {K : PySem.W.Frag} : ∀ {d : PyData} {u : Value}, mtB K u d = true → ∃ v, RelV v u ∧ ∀ F, Rp K F v d
  | .none, u, h => by
    unfold mtB at h
    split at h
    · exact ⟨.non, rfl, fun _ => .non⟩
    · cases h
  | .bool b, u, h => by
    unfold mtB at h
    split at h
    · have := eq_of_beq h
      subst this
      exact ⟨.bl b, rfl, fun _ => .bl b⟩
    · cases h
  | .int i, u, h => by
    unfold mtB at h
    split at h
    · have := of_decide_eq_true h
      subst this
      exact ⟨.int i, ⟨_, rfl⟩, fun _ => .int i⟩
    · cases h
  | .str x, u, h => by
    unfold mtB at h
    split at h
    · have := of_decide_eq_true h
      subst this
      exact ⟨.str x, ⟨_, rfl⟩, fun _ => .str x⟩
    · cases h
  | .tuple ds, u, h => by
    unfold mtB at h
    split at h
    · rename_i a
      split at h
      · rename_i c od its n osl hq
        obtain ⟨h1, h2⟩ := Bool.and_eq_true_iff.mp h
        obtain ⟨h3, h4⟩ := Bool.and_eq_true_iff.mp h2
        obtain ⟨xs, hv, hr⟩ := mtAll_ok h4
        exact ⟨.ref a, rfl, fun F => .tup (.inr ⟨_, its, n, hq, congrArg Value.type (of_decide_eq_true h1), rfl, of_decide_eq_true h3, hv⟩) (hr F)⟩
      · cases h
    · cases h
  | .list ds, u, h => by
    unfold mtB at h
    cases h
  | .dict ds, u, h => by
    unfold mtB at h
    cases h
theorem mtAll_ok {K : PySem.W.Frag} : ∀ {ds : List PyData} {us : List Value}, mtAll K us ds = true → ∃ xs, Vals xs us ∧ ∀ F, Rps K F xs ds
  | [], us, h => by
    unfold mtAll at h
    have : us = [] := List.isEmpty_iff.mp h
    subst this
    exact ⟨[], .nil, fun _ => .nil⟩
  | d :: ds, us, h => by
    unfold mtAll at h
    split at h
    · obtain ⟨h1, h2⟩ := Bool.and_eq_true_iff.mp h
      obtain ⟨v, a, b⟩ := mtB_ok h1
      obtain ⟨xs, a2, b2⟩ := mtAll_ok h2
      exact ⟨v :: xs, .cons a a2, fun F => .cons (b F) (b2 F)⟩
    · cases h
end
def cstB (K : PySem.W.Frag) (p : Str × PyData) : Bool := match PySem.W.nsIn K mainGlobals p.1 with
  | some (some u) => mtB K u p.2
  | _ => false
theorem cst_ok {K : PySem.W.Frag} {h : Heap} {mg : Str → Option Value} (X : K.In h) (G : h.Ns mainGlobals mg) {p : Str × PyData} (c : cstB K p = true) : ∃ v u, mg p.1 = some u ∧ RelV v u ∧ ∀ F, Rp K F v p.2 := by
  unfold cstB at c
  split at c
  · rename_i u hu
    obtain ⟨v, a, b⟩ := mtB_ok c
    exact ⟨v, u, PySem.W.mg_of X G hu, a, b⟩
  · cases c
abbrev AlC : Type := He.AlD × Bool
def obsC (fa : List He.Fa) (fn : List He.DefD) (cs : List (Str × PyData)) (K : PySem.W.Frag) : AlC := (He.obsD fa fn K, cs.all (cstB K))
def SaysC (fa : List He.Fa) (fn : List He.DefD) (cs : List (Str × PyData)) (K : PySem.W.Frag) : Prop := obsC fa fn cs K = (He.valD fn, true)
theorem SaysC.d {fa : List He.Fa} {fn : List He.DefD} {cs : List (Str × PyData)} {K : PySem.W.Frag} (c : SaysC fa fn cs K) : He.SaysD fa fn K := congrArg Prod.fst c
theorem SaysC.cst {fa : List He.Fa} {fn : List He.DefD} {cs : List (Str × PyData)} {K : PySem.W.Frag} (c : SaysC fa fn cs K) (i : Nat) {p : Str × PyData} (h : cs[i]? = some p := by rfl) : cstB K p = true := by
  have z : cs.all (cstB K) = true := congrArg Prod.snd c
  exact List.all_eq_true.mp z p (List.mem_of_getElem? h)
def obsCG (n : Nat) (fa : List He.Fa) (fn : List He.DefD) (cs : List (Str × PyData)) (g : Addr → Option Obj) : AlC := obsC fa fn cs (He.frG g (He.asD g n))
def hookC (n : Nat) (fa : List He.Fa) (fn : List He.DefD) (cs : List (Str × PyData)) : PySem.W.Hook where
  α := AlC
  obs := fun s => obsCG n fa fn cs s.heap.get?
  val := fun _ => (He.valD fn, true)
  says := fun _ h => ∃ K : PySem.W.Frag, K.In h ∧ SaysC fa fn cs K
  of := fun _ _ e => ⟨_, He.frG_in, e⟩
  keeps := fun _ _ _ ⟨K, hK, c⟩ k => ⟨K, PySem.W.Frag.In.keeps hK k, c⟩
theorem obsCG_eq {n : Nat} {fa : List He.Fa} {fn : List He.DefD} {cs : List (Str × PyData)} {g : Addr → Option Obj} {s : Shared} (h : ∀ a, g a = s.heap.get? a) : obsCG n fa fn cs g = (hookC n fa fn cs).obs s := by
  have e : g = s.heap.get? := funext h
  rw [e] <;> rfl
theorem j_gtup {Y : Fam} {x : Str} {d : PyData} {pos : Pos} (h : ∃ v u, Y.mg x = some u ∧ RelV v u ∧ ∀ F, Rp Y.K F v d) (hg : ∀ j, Gl (Y.X j) x := by intro _; rfl) (hd : (x == ("__debug__" : Str)) = false := by decide) : JV Y (.Name x pos) (mC d) :=
  let ⟨_, _, a, b, c⟩ := h
  j_glob a b c hg hd
/-- isinstance(e, (S, T)) -/
def mIsi2 (S T : String) (m : MV) : MV := fun ρ => match m ρ with
  | none => none
  | some (d, ρ) => match kitB (tyN d) S with
    | some true => some (.bool true, ρ)
    | some false => (kitB (tyN d) T).map fun b => (.bool b, ρ)
    | none => none
theorem j_isi2 {Y : Fam} {e : Expr} {pos : Pos} {m : MV} {x y : Str} {S T : String} {p p2 p3 p4 : Pos} {k0 : Nat} (h : JV Y e m) (hi : Y.mg "isinstance" = none) (hm : Y.mg x = none) (hm2 : Y.mg y = none) (hv : bootBuiltins x = some (.type S) := by decide +kernel) (hv2 : bootBuiltins y = some (.type T) := by decide +kernel)
    (hg : ∀ j, Gl (Y.X j) "isinstance" := by intro _; rfl) (hg2 : ∀ j, Gl (Y.X j) x := by intro _; rfl) (hg3 : ∀ j, Gl (Y.X j) y := by intro _; rfl) (hn : x ≠ "__name__" := by decide) (hdb : (x == ("__debug__" : Str)) = false := by decide) (hn2 : y ≠ "__name__" := by decide) (hdb2 : (y == ("__debug__" : Str)) = false := by decide)
    (hs1 : ∀ j, starEach [e, .Tuple [.Name x p2, .Name y p3] k0 p4] (Y.X j).env = (false, eval e (Y.X j).env) :: starEach [.Tuple [.Name x p2, .Name y p3] k0 p4] (Y.X j).env := by intro _; rfl)
    (hs2 : ∀ j, starEach [.Tuple [.Name x p2, .Name y p3] k0 p4] (Y.X j).env = (false, eval (.Tuple [.Name x p2, .Name y p3] k0 p4) (Y.X j).env) :: starEach [] (Y.X j).env := by intro _; rfl)
    (hs3 : ∀ j, starEach [.Name x p2, .Name y p3] (Y.X j).env = (false, eval (.Name x p2) (Y.X j).env) :: starEach [.Name y p3] (Y.X j).env := by intro _; rfl) (hs4 : ∀ j, starEach [.Name y p3] (Y.X j).env = (false, eval (.Name y p3) (Y.X j).env) :: starEach [] (Y.X j).env := by intro _; rfl)
    (hpl : ∀ j, (backTo pos (starEach [.Tuple [.Name x p2, .Name y p3] k0 p4] (Y.X j).env)).any (·.1) = false := by intro _; rfl) : JV Y (.Call (.Name "isinstance" p) [e, .Tuple [.Name x p2, .Name y p3] k0 p4] [] pos) (mIsi2 S T m) := by
  obtain ⟨t, pa, s⟩ := h
  refine ⟨tCB (rIsiT Y.K) (tCons t (tCons (tTup (tCons (tC (.ty S)) (tCons (tC (.ty T)) tNil))) tNil)), fun j => by
    rw [← Y.hK j]
    exact pe_callB call_isiT (hg j) (by rw [Y.hmg j]; exact hi) (by decide +kernel) (pa_cons (pa j) (pa_cons (pe_tup (pa_cons (pe_bltn (hg2 j) (by rw [Y.hmg j]; exact hm) hv rfl hn hdb) (pa_cons (pe_bltn (hg3 j) (by rw [Y.hmg j]; exact hm2) hv2 rfl hn2 hdb2) pa_nil (hs4 j)) (hs3 j))) pa_nil (hs2 j)) (hs1 j)) (by decide) (by decide) (hs1 j) (hpl j), fun c σ ρ T' H Q re q => s c σ ρ T' H _ re ?_⟩
  unfold mIsi2 at q
  cases hm : m ρ with
  | none =>
    rw [hm] at q
    exact q
  | some z =>
    obtain ⟨d, ρ1⟩ := z
    rw [hm] at q
    simp only at q
    intro v H1 r1
    refine ⟨sz5 (by show 2 ≤ 100000; omega), fun p hp => ?_⟩
    have r2 := r1.fresh hp (.tup [.ty S, .ty T])
    have cls : Paired ClsV [V.ty S, V.ty T] [Value.type S, Value.type T] := .cons (.ty S) (.cons (.ty T) .nil)
    have go : ∀ b, PySem.W.kitAny Y.K (.type (tyN d)) [.type S, .type T] = some b → (∀ v H', Rel Y.K c σ ρ1 ((v, .val (.bool b)) :: T') H' → Q v H') → ∃ (x : V) (tp : Addr) (cs : List V) (t : Value) (us : List Value) (b : Bool), [v, V.ref p] = [x, .ref tp] ∧ upd H1 p (.tup [.ty S, .ty T]) tp = some (.tup cs) ∧ Paired ClsV cs us ∧ TyX Y.K (upd H1 p (.tup [.ty S, .ty T])) x t ∧ PySem.W.kitAny Y.K t us = some b ∧ Q (.bl b) (upd H1 p (.tup [.ty S, .ty T])) :=
      fun b hb q => ⟨v, p, _, _, _, b, rfl, upd_same, cls, r2.top.ty, hb, q _ _ (r2.pop.pushB b)⟩
    cases hk : kitB (tyN d) S with
    | none =>
      rw [hk] at q
      exact q.elim
    | some a =>
      rw [hk] at q
      cases a with
      | true => exact go true (kitAny_cons (kit_ty hk) (fun z => by cases z) fun _ => rfl) q
      | false =>
        simp only at q
        cases hk2 : kitB (tyN d) T with
        | none =>
          rw [hk2] at q
          exact q.elim
        | some b =>
          rw [hk2] at q
          refine go b (kitAny_cons (kit_ty hk) (fun _ => kitAny_cons (kit_ty hk2) (fun hb => ?_) fun hb => hb) fun z => by cases z) q
          rw [hb]
          exact kitAny_nil
end Fj

set_option Elab.async false
set_option linter.all false
set_option maxRecDepth 100000
set_option maxHeartbeats 4000000
set_option autoImplicit false
/-! The least of rows of numbers. -/
namespace Fj
open PySem PySem.Spec PyProof.Rows L2
def minRow (n : List Int) (ns : List (List Int)) : List Int := ns.foldl (fun a y => if HT.lexLt y a = true then y else a) n
theorem lt_row : ∀ a b : List Int, decide (a < b) = HT.lexLt a b
  | [], [] => by simp [HT.lexLt]
  | [], y :: ys => by simp [HT.lexLt]
  | x :: xs, [] => by simp [HT.lexLt]
  | x :: xs, y :: ys => by
    rw [HT.lexLt_cons, ← lt_row xs ys]
    by_cases h : x = y
    · subst h
      rw [if_pos rfl]
      exact decide_eq_decide.mpr (by rw [List.cons_lt_cons_iff]; simp)
    · rw [if_neg h]
      exact decide_eq_decide.mpr (by rw [List.cons_lt_cons_iff]; simp [h])
theorem dataLt_row (a b : List Int) : PySem.W.dataLt (tupI a) (tupI b) = HT.lexLt a b := by
  rw [PySem.W.dataLt_tuple, ← lt_row]
  exact PySem.W.dataLt_ints a b
theorem minD_row : ∀ (ns : List (List Int)) (n : List Int), PySem.W.minD (tupI n) (ns.map tupI) = tupI (minRow n ns)
  | [], n => rfl
  | y :: ns, n => by
    have ih := minD_row ns (if HT.lexLt y n = true then y else n)
    unfold PySem.W.minD at ih ⊢
    rw [List.map_cons, List.foldl_cons, dataLt_row]
    have e : (if HT.lexLt y n = true then tupI y else tupI n) = tupI (if HT.lexLt y n = true then y else n) := by split <;> rfl
    rw [e]
    exact ih
theorem alike_row : ∀ a b : List Int, PySem.W.alikeAll (a.map .int) (b.map .int) = true
  | [], b => by
    cases b <;> simp [PySem.W.alikeAll]
  | x :: xs, [] => by simp [PySem.W.alikeAll]
  | x :: xs, y :: ys => by
    have := alike_row xs ys
    simp [PySem.W.alikeAll, PySem.W.alike, this]
theorem alike_rows (nss : List (List Int)) : PySem.W.AlikeAll (nss.map tupI) := by
  refine ⟨fun x hx y hy => ?_, fun x hx => ?_⟩
  · obtain ⟨a, _, rfl⟩ := List.mem_map.mp hx
    obtain ⟨b, _, rfl⟩ := List.mem_map.mp hy
    show PySem.W.alike (.tuple _) (.tuple _) = true
    unfold PySem.W.alike
    exact alike_row a b
  · obtain ⟨a, _, rfl⟩ := List.mem_map.mp hx
    intro z
    cases z
theorem lay_row (a : List Int) : PyData.canLay0 (tupI a) = true := by
  show PyData.canLay0 (.tuple _) = true
  unfold PyData.canLay0
  exact canLay_ints a
theorem depth_rows : ∀ nss : List (List Int), PyData.depthAll (nss.map tupI) ≤ 1
  | [] => Nat.zero_le _
  | n :: nss => by
    have := depth_rows nss
    rw [List.map_cons]
    unfold PyData.depthAll
    have e : PyData.depth (tupI n) = 1 := by
      show PyData.depth (.tuple _) = 1
      unfold PyData.depth
      rw [depth_ints]
    omega
def rMinT (K : PySem.W.Frag) : List V → Hp → VK → Prop := fun vs H Q => ∃ (a : Addr) (xs : List V) (n : List Int) (ns : List (List Int)), vs = [V.ref a] ∧ SqL K H a xs ∧ DpAll K H xs ((n :: ns).map tupI) ∧ ∀ x ∈ xs, (∀ m, TupI K H x m → m = minRow n ns) → Q x H
theorem cr_minT {X : Cx} (hc : X.calm = true) (hu : X.A.units + 65 < cLine) : CallR X (.builtin "min") (rMinT X.K) := by
  intro pins s σ H vs us Q I r h
  obtain ⟨a, xs, n, ns, rfl, hs, hx, q⟩ := h
  obtain ⟨its, rv, hl, hz⟩ := I.list hs
  rw [Vals.ref1 r]
  obtain ⟨as, hr⟩ := Dp.readsAll I _ _ its hx rv
  have hd := depth_rows (n :: ns)
  refine PySem.W.min_list_data (x := tupI n) (xs := ns.map tupI) (I.ok.hd hc) hl.isList (by simpa using hr) (alike_rows (n :: ns)) (by show X.A.units + 1 + PyData.depthAll ((n :: ns).map tupI) < cLine; omega) fun i v h' tk bs hv hread hk => ?_
  rw [minD_row] at hread
  have hv : its[i]? = some v := by simpa using hv
  have hi : i < xs.length := by
    rw [rv.length]
    exact (List.getElem?_eq_some_iff.mp hv).1
  obtain ⟨u, hu1, hu2⟩ := rv.get (List.getElem?_eq_getElem hi)
  rw [hv] at hu1
  cases hu1
  refine ⟨xs[i], H, I.kept (t' := tk) hk, hu2, q _ (List.getElem_mem ..) fun m hm => ?_⟩
  obtain ⟨t, et, ht⟩ := hm
  rw [et] at hu2
  have ev : v = Value.ref t := hu2
  subst ev
  have I' := I.kept (t' := tk) hk
  have hdp : Dp X.K H (.ref t) (tupI m) := .tup ht (by
    clear ht
    induction m with
    | nil => exact .nil
    | cons y m ih => exact .cons (.int y) ih)
  obtain ⟨as2, hr2⟩ := Dp.reads I' (tupI m) (.ref t) (.ref t) hdp rfl
  have e := (hr2.unique _ _ hread).1
  injection e with e
  have := congrArg intsD e
  rw [intsD_map, intsD_map] at this
  exact Option.some.inj this
/-- min of one list -/
def gMin1 : List PyData → Option Ent
  | [.list ds] => match tupsD ds with
    | some (n :: ns) => some (.val (tupI (minRow n ns)))
    | _ => none
  | _ => none
section
variable {Y : Fam}
theorem c_min1 : CallJ Y (.builtin "min") gMin1 := by
  refine ⟨rMinT Y.K, fun j => by rw [← Y.hK j]; exact cr_minT (Y.calm j) (units65 (Y.room j)), fun c σ ρ T H vs ds z Q hl r e q => ?_⟩
  unfold gMin1 at e
  split at e
  · split at e
    · rename_i n ns hn
      cases e
      have := tupsD_eq hn
      subst this
      obtain ⟨v, rfl⟩ := len1 hl
      obtain ⟨F, fp, f⟩ := r
      have f : RelF Y.K c σ ρ ((v, .val (.list ((n :: ns).map tupI))) :: T) H F fp := f
      obtain ⟨p, us, rfl, h1, h2⟩ := f.top.lstAt
      have hul : us.length = (n :: ns).length := by rw [h2.length, List.length_map]
      refine ⟨p, us, n, ns, rfl, .inl (.inl (f.fh _ _ h1)), (Rps.mono f.fh h2).dp, fun x hx hm => ?_⟩
      obtain ⟨k, hk, e⟩ := List.getElem_of_mem hx
      have hd' : ((n :: ns).map tupI)[k]? = some (tupI ((n :: ns)[k]'(by omega))) := by
        rw [List.getElem?_map, List.getElem?_eq_getElem (by omega : k < (n :: ns).length)]
        rfl
      obtain ⟨x', hx', rx⟩ := h2.get hd'
      rw [List.getElem?_eq_getElem hk, e] at hx'
      cases hx'
      obtain ⟨t, et, ht⟩ := id rx.tupI
      have em := hm _ ⟨t, et, same_tup f.fh ht⟩
      rw [em] at rx
      exact q _ _ ⟨F, fp, f.popV.push rx⟩
    · cases e
  · cases e
end
end Fj

set_option Elab.async false
set_option linter.all false
set_option maxRecDepth 100000
set_option maxHeartbeats 4000000
set_option autoImplicit false
/-! Mirrors by what holds behind them. -/
namespace Fj
open PySem PySem.Spec PyProof.Rows L2

def ownOf : Ent → Option (Bool × Cell)
  | .own fr ce => some (fr, ce)
  | _ => none
def lstOf : Ent → Option (Bool × List PyData)
  | .own fr (.lst ds) => some (fr, ds)
  | _ => none
def dkOf (s : Nat) : Ent → Option (Bool × List Int × Int × Int)
  | .own fr (.deck s' l m t) => if s' = s then some (fr, l, m, t) else none
  | _ => none
def outOf : List Ent → Option Cell
  | .own false ce :: _ => some ce
  | _ => none
def listOf : PyData → Option (List PyData)
  | .list ds => some ds
  | _ => none
def intOf : PyData → Option Int
  | .int i => some i
  | _ => none
def boolOf : PyData → Option Bool
  | .bool b => some b
  | _ => none
def valOf : Ent → Option PyData
  | .val d => some d
  | _ => none
def scrOf : Ent → Option (List Int)
  | .scr ns => some ns
  | _ => none
def rowOf : PyData → Option (List PyData)
  | .list ds => some ds
  | .tuple ds => some ds
  | _ => none
def walkOf : PyData → Option (List PyData)
  | .list ds => some ds
  | .tuple ds => some ds
  | .str x => some (signsD x)
  | _ => none
/-- what a simplifier leaves alone -/
inductive Hid {α : Sort 1} (q : α) : Type where
  | mk : Hid q
def W {α β : Type} (r : Option (α × β)) (Q : α → β → Prop) (_ : Hid Q := .mk) : Prop := match r with
  | some (a, b) => Q a b
  | none => False
def W1 {α : Type} (r : Option α) (Q : α → Prop) (_ : Hid Q := .mk) : Prop := match r with
  | some a => Q a
  | none => False
theorem W_fn {α β : Type} {r : Option (α × β)} {Q Q' : α → β → Prop} (h : ∀ a b, Q a b = Q' a b) : W r Q = W r Q' := by
  rw [show Q = Q' from funext fun a => funext fun b => h a b]
theorem W1_fn {α : Type} {r : Option α} {Q Q' : α → Prop} (h : ∀ a, Q a = Q' a) : W1 r Q = W1 r Q' := by
  rw [show Q = Q' from funext fun a => h a]
theorem W.mono {α β : Type} {r : Option (α × β)} {Q Q' : α → β → Prop} (h : W r Q) (q : ∀ a b, Q a b → Q' a b) : W r Q' := by
  cases r with
  | none => exact h
  | some p => exact q _ _ h
theorem W1.mono {α : Type} {r : Option α} {Q Q' : α → Prop} (h : W1 r Q) (q : ∀ a, Q a → Q' a) : W1 r Q' := by
  cases r with
  | none => exact h
  | some p => exact q _ h
theorem W.at_ {α β : Type} {r : Option (α × β)} {Q : α → β → Prop} (h : W r Q) : ∃ a b, r = some (a, b) ∧ Q a b := by
  cases r with
  | none => exact h.elim
  | some p => exact ⟨_, _, rfl, h⟩
theorem W1.at_ {α : Type} {r : Option α} {Q : α → Prop} (h : W1 r Q) : ∃ a, r = some a ∧ Q a := by
  cases r with
  | none => exact h.elim
  | some p => exact ⟨_, rfl, h⟩
structure IfB (b : Bool) (X Y : Prop) (_ : Hid X := .mk) (_ : Hid Y := .mk) : Prop where
  mk ::
  t : b = true → X
  f : b = false → Y
theorem eq_t (p q : Prop) : p = IfB true p q := propext ⟨fun h => ⟨fun _ => h, (fun z => by cases z)⟩, fun h => h.t rfl⟩
theorem eq_f (p q : Prop) : q = IfB false p q := propext ⟨fun h => ⟨(fun z => by cases z), fun _ => h⟩, fun h => h.f rfl⟩
theorem IfB_true {X Y : Prop} : IfB true X Y = X := (eq_t X Y).symm
theorem IfB_false {X Y : Prop} : IfB false X Y = Y := (eq_f X Y).symm
section
variable {α β : Type} {ρ : En} {Q : PyData → En → Prop} {R : Bool → En → Prop} {S : Ent → En → Prop} {Z : Fl → Prop} {A : List PyData → En → Prop}
theorem W_some {a : α} {b : β} {Q : α → β → Prop} : W (some (a, b)) Q = Q a b := rfl
theorem W_none {Q : α → β → Prop} : W (none : Option (α × β)) Q = False := rfl
theorem W1_some {a : α} {Q : α → Prop} : W1 (some a) Q = Q a := rfl
theorem W1_none {Q : α → Prop} : W1 (none : Option α) Q = False := rfl
theorem W_ite {c : Prop} [Decidable c] {x y : Option (α × β)} {Q : α → β → Prop} : W (if c then x else y) Q = ((c → W x Q) ∧ (¬ c → W y Q)) := by
  by_cases h : c
  · rw [if_pos h]
    exact propext ⟨fun z => ⟨fun _ => z, fun w => absurd h w⟩, fun z => z.1 h⟩
  · rw [if_neg h]
    exact propext ⟨fun z => ⟨fun w => absurd w h, fun _ => z⟩, fun z => z.2 h⟩
theorem W1_ite {c : Prop} [Decidable c] {x y : Option α} {Q : α → Prop} : W1 (if c then x else y) Q = ((c → W1 x Q) ∧ (¬ c → W1 y Q)) := by
  by_cases h : c
  · rw [if_pos h]
    exact propext ⟨fun z => ⟨fun _ => z, fun w => absurd h w⟩, fun z => z.1 h⟩
  · rw [if_neg h]
    exact propext ⟨fun z => ⟨fun w => absurd w h, fun _ => z⟩, fun z => z.2 h⟩
theorem W1_if {c : Prop} [Decidable c] {x : α} {Q : α → Prop} : W1 (if c then some x else none) Q = (c ∧ Q x) := by
  by_cases h : c
  · rw [if_pos h]
    exact propext ⟨fun z => ⟨h, z⟩, fun z => z.2⟩
  · rw [if_neg h]
    exact propext ⟨fun z => z.elim, fun z => absurd z.1 h⟩
theorem w_C {d : PyData} : W (mC d ρ) Q = Q d ρ := rfl
theorem w_var {i : Nat} : W (mVar i ρ) Q = W1 ρ[i]? fun e => W1 (valOf e) fun d => Q d ρ := by
  unfold mVar
  cases h : ρ[i]? with
  | none => rfl
  | some e => cases e <;> rfl
theorem w_fz {m : MO} : W (mFz m ρ) Q = W (m ρ) fun e ρ => W1 (fz e) fun d => Q d ρ := by
  unfold mFz
  cases m ρ with
  | none => rfl
  | some p =>
    obtain ⟨e, ρ⟩ := p
    show W ((fz e).map fun d => (d, ρ)) Q = W1 (fz e) _
    cases fz e <;> rfl
theorem w_val {m : MV} : W (mVal m ρ) S = W (m ρ) fun d ρ => S (.val d) ρ := by
  unfold mVal
  cases m ρ <;> rfl
theorem w_bin {g : PyData → PyData → Option PyData} {a b : MV} : W (mBin g a b ρ) Q = W (a ρ) fun x ρ => W (b ρ) fun y ρ => W1 (g x y) fun z => Q z ρ := by
  unfold mBin
  cases a ρ with
  | none => rfl
  | some p =>
    obtain ⟨x, ρ⟩ := p
    show W (match b ρ with
      | none => none
      | some (y, ρ) => (g x y).map fun z => (z, ρ)) Q = W (b ρ) _
    cases b ρ with
    | none => rfl
    | some p =>
      obtain ⟨y, ρ⟩ := p
      show W ((g x y).map fun z => (z, ρ)) Q = W1 (g x y) _
      cases g x y <;> rfl
theorem w_test {m : MV} : W (mTest m ρ) R = W (m ρ) fun d ρ => W1 (boolOf d) fun b => R b ρ := by
  unfold mTest
  cases m ρ with
  | none => rfl
  | some p =>
    obtain ⟨d, ρ⟩ := p
    cases d <;> rfl
theorem w_tnot {m : MT} : W (mTNot m ρ) R = W (m ρ) fun b ρ => R (!b) ρ := by
  unfold mTNot
  cases m ρ <;> rfl
theorem w_tand {m n : MT} : W (mTAnd m n ρ) R = W (m ρ) fun b ρ => IfB b (W (n ρ) R) (R false ρ) := by
  unfold mTAnd
  cases m ρ with
  | none => rfl
  | some p =>
    obtain ⟨b, ρ⟩ := p
    cases b <;> first | exact eq_t _ _ | exact eq_f _ _
theorem w_tor {m n : MT} : W (mTOr m n ρ) R = W (m ρ) fun b ρ => IfB b (R true ρ) (W (n ρ) R) := by
  unfold mTOr
  cases m ρ with
  | none => rfl
  | some p =>
    obtain ⟨b, ρ⟩ := p
    cases b <;> first | exact eq_t _ _ | exact eq_f _ _
theorem w_not {m : MV} : W (mNot m ρ) Q = W (m ρ) fun d ρ => W1 (boolOf d) fun b => Q (.bool (!b)) ρ := by
  unfold mNot
  cases m ρ with
  | none => rfl
  | some p =>
    obtain ⟨d, ρ⟩ := p
    cases d <;> rfl
theorem w_andV {m n : MV} : W (mAnd m n ρ) Q = W (m ρ) fun d ρ => W1 (boolOf d) fun b => IfB b (W (n ρ) Q) (Q (.bool false) ρ) := by
  unfold mAnd
  cases m ρ with
  | none => rfl
  | some p =>
    obtain ⟨d, ρ⟩ := p
    cases d with
    | bool b => cases b <;> first | exact eq_t _ _ | exact eq_f _ _
    | _ => rfl
theorem w_orV {m n : MV} : W (mOr m n ρ) Q = W (m ρ) fun d ρ => W1 (boolOf d) fun b => IfB b (Q (.bool true) ρ) (W (n ρ) Q) := by
  unfold mOr
  cases m ρ with
  | none => rfl
  | some p =>
    obtain ⟨d, ρ⟩ := p
    cases d with
    | bool b => cases b <;> first | exact eq_t _ _ | exact eq_f _ _
    | _ => rfl
theorem w_if {t : MT} {m n : En → Option (α × β)} {Q : α → β → Prop} : W (mIf t m n ρ) Q = W (t ρ) fun b ρ => IfB b (W (m ρ) Q) (W (n ρ) Q) := by
  unfold mIf
  cases t ρ with
  | none => rfl
  | some p =>
    obtain ⟨b, ρ⟩ := p
    cases b <;> first | exact eq_t _ _ | exact eq_f _ _
theorem w_ifS {t : MT} {m n : MS} : W1 (mIf t m n ρ) Z = W (t ρ) fun b ρ => IfB b (W1 (m ρ) Z) (W1 (n ρ) Z) := by
  unfold mIf
  cases t ρ with
  | none => rfl
  | some p =>
    obtain ⟨b, ρ⟩ := p
    cases b <;> first | exact eq_t _ _ | exact eq_f _ _
theorem w_chain {g g' : PyData → PyData → Option PyData} {a b c : MV} : W (mChain g g' a b c ρ) Q = W (a ρ) fun x ρ => W (b ρ) fun y ρ => W1 (g x y) fun r => W1 (boolOf r) fun k => IfB k (W (c ρ) fun z ρ => W1 (g' y z) fun r => Q r ρ) (Q (.bool false) ρ) := by
  unfold mChain
  cases a ρ with
  | none => rfl
  | some p =>
    obtain ⟨x, ρ⟩ := p
    simp only [W_some]
    cases b ρ with
    | none => rfl
    | some p =>
      obtain ⟨y, ρ⟩ := p
      simp only [W_some]
      cases g x y with
      | none => rfl
      | some r =>
        cases r with
        | bool k =>
          cases k with
          | false => exact propext ⟨fun h => ⟨(fun z => by cases z), fun _ => h⟩, fun h => h.2 rfl⟩
          | true =>
            refine propext ⟨fun h => ⟨fun _ => ?_, (fun z => by cases z)⟩, fun h => ?_⟩
            · cases hc : c ρ with
              | none => rw [hc] at h; exact h
              | some p =>
                rw [hc] at h
                obtain ⟨z, ρ⟩ := p
                simp only [W_some] at h ⊢
                cases hg : g' y z with
                | none => rw [hg] at h; exact h
                | some r => rw [hg] at h; exact h
            · have h := h.1 rfl
              cases hc : c ρ with
              | none => rw [hc] at h; exact h
              | some p =>
                rw [hc] at h
                obtain ⟨z, ρ⟩ := p
                simp only [W_some] at h ⊢
                cases hg : g' y z with
                | none => rw [hg] at h; exact h
                | some r => rw [hg] at h; exact h
        | _ => rfl
theorem w_nil : W (mNil ρ) A = A [] ρ := rfl
theorem w_cons {m : MV} {n : MA} : W (mCons m n ρ) A = W (m ρ) fun d ρ => W (n ρ) fun ds ρ => A (d :: ds) ρ := by
  unfold mCons
  cases m ρ with
  | none => rfl
  | some p =>
    obtain ⟨d, ρ⟩ := p
    simp only [W_some]
    cases n ρ <;> rfl
theorem w_tup {n : MA} : W (mTup n ρ) Q = W (n ρ) fun ds ρ => ds.length ≤ 100000 ∧ Q (.tuple ds) ρ := by
  unfold mTup
  cases n ρ with
  | none => rfl
  | some p =>
    obtain ⟨ds, ρ⟩ := p
    show W (if ds.length ≤ 100000 then some (.tuple ds, ρ) else none) Q = (ds.length ≤ 100000 ∧ Q (.tuple ds) ρ)
    by_cases h : ds.length ≤ 100000
    · rw [if_pos h]
      exact propext ⟨fun z => ⟨h, z⟩, fun z => z.2⟩
    · rw [if_neg h]
      exact propext ⟨fun z => z.elim, fun z => absurd z.1 h⟩
theorem w_lst {n : MA} : W (mLst n ρ) S = W (n ρ) fun ds ρ => ds.length ≤ 100000 ∧ S (.own true (.lst ds)) ρ := by
  unfold mLst
  cases n ρ with
  | none => rfl
  | some p =>
    obtain ⟨ds, ρ⟩ := p
    show W (if ds.length ≤ 100000 then some (.own true (.lst ds), ρ) else none) S = (ds.length ≤ 100000 ∧ S (.own true (.lst ds)) ρ)
    by_cases h : ds.length ≤ 100000
    · rw [if_pos h]
      exact propext ⟨fun z => ⟨h, z⟩, fun z => z.2⟩
    · rw [if_neg h]
      exact propext ⟨fun z => z.elim, fun z => absurd z.1 h⟩
theorem w_cat {a b : MV} : W (mCat a b ρ) S = W (a ρ) fun x ρ => W (b ρ) fun y ρ => ∃ xs ys, x = .list xs ∧ y = .list ys ∧ xs.length + ys.length ≤ 100000 ∧ S (.own true (.lst (xs ++ ys))) ρ := by
  unfold mCat
  cases a ρ with
  | none => rfl
  | some p =>
    obtain ⟨x, ρ⟩ := p
    simp only [W_some]
    cases b ρ with
    | none => rfl
    | some p =>
      obtain ⟨y, ρ⟩ := p
      simp only [W_some]
      cases x with
      | list xs =>
        cases y with
        | list ys =>
          refine propext ⟨fun h => ?_, fun ⟨xs, ys, e1, e2, h1, h2⟩ => ?_⟩
          · simp only at h
            split at h
            · rename_i hl
              exact ⟨xs, ys, rfl, rfl, hl, h⟩
            · exact h.elim
          · cases e1
            cases e2
            simp only [h1, if_true]
            exact h2
        | _ => exact propext ⟨fun h => h.elim, fun ⟨xs, ys, e1, e2, h1, h2⟩ => by cases e2⟩
      | _ => exact propext ⟨fun h => h.elim, fun ⟨xs, ys, e1, e2, h1, h2⟩ => by cases e1⟩
theorem w_p0 {B : Option Int → En → Prop} : W (mP0 ρ) B = B none ρ := rfl
theorem w_p1 {m : MV} {B : Option Int → En → Prop} : W (mP1 m ρ) B = W (m ρ) fun d ρ => W1 (intOf d) fun i => B (some i) ρ := by
  unfold mP1
  cases m ρ with
  | none => rfl
  | some p =>
    obtain ⟨d, ρ⟩ := p
    cases d <;> rfl
theorem w_sl {m : MV} {l h : MP} : W (mSl m l h ρ) S = W (m ρ) fun d ρ => W (l ρ) fun lo ρ => W (h ρ) fun hi ρ => W1 (gSl d lo hi) fun z => S z ρ := by
  unfold mSl
  cases m ρ with
  | none => rfl
  | some p =>
    obtain ⟨d, ρ⟩ := p
    simp only [W_some]
    cases l ρ with
    | none => rfl
    | some p =>
      obtain ⟨lo, ρ⟩ := p
      simp only [W_some]
      cases h ρ with
      | none => rfl
      | some p =>
        obtain ⟨hi, ρ⟩ := p
        simp only [W_some]
        cases gSl d lo hi <;> rfl
theorem w_rev {m : MV} : W (mRev m ρ) S = W (m ρ) fun d ρ => W1 (listOf d) fun ds => S (.own true (.lst ds.reverse)) ρ := by
  unfold mRev
  cases m ρ with
  | none => rfl
  | some p =>
    obtain ⟨d, ρ⟩ := p
    cases d <;> rfl
theorem w_neg {m : MV} : W (mNeg m ρ) Q = W (m ρ) fun d ρ => W1 (intOf d) fun i => Q (.int (-i)) ρ := by
  unfold mNeg
  cases m ρ with
  | none => rfl
  | some p =>
    obtain ⟨d, ρ⟩ := p
    cases d <;> rfl
theorem w_scrSl {i : Nat} {l h : MP} : W (mScrSl i l h ρ) S = W1 ρ[i]? fun e => W1 (scrOf e) fun ns => W (l ρ) fun lo ρ => W (h ρ) fun hi ρ => S (.own true (.lst (cutD (ns.map .int) lo hi))) ρ := by
  unfold mScrSl
  cases ρ[i]? with
  | none => rfl
  | some e =>
    cases e with
    | scr ns =>
      simp only [W1_some]
      cases l ρ with
      | none => rfl
      | some p =>
        obtain ⟨lo, ρ⟩ := p
        simp only [W_some]
        cases h ρ <;> rfl
    | _ => rfl
theorem w_cb {g : List PyData → Option Ent} {n : MA} : W (mCB g n ρ) S = W (n ρ) fun ds ρ => W1 (g ds) fun z => S z ρ := by
  unfold mCB
  cases n ρ with
  | none => rfl
  | some p =>
    obtain ⟨ds, ρ⟩ := p
    simp only [W_some]
    cases g ds <;> rfl
theorem w_isi {T : String} {m : MV} : W (mIsi T m ρ) Q = W (m ρ) fun d ρ => W1 (kitB (tyN d) T) fun b => Q (.bool b) ρ := by
  unfold mIsi
  cases m ρ with
  | none => rfl
  | some p =>
    obtain ⟨d, ρ⟩ := p
    simp only [W_some]
    cases kitB (tyN d) T <;> rfl
theorem w_it {m : MV} : W (mIt m ρ) A = W (m ρ) fun d ρ => W1 (walkOf d) fun ds => A ds ρ := by
  unfold mIt
  cases m ρ with
  | none => rfl
  | some p =>
    obtain ⟨d, ρ⟩ := p
    cases d <;> rfl
theorem w_r1 {n : MA} : W (mR1 n ρ) A = W (n ρ) fun ds ρ => ∃ j, ds = [.int j] ∧ (-(2 ^ 62) ≤ j ∧ j < 2 ^ 62) ∧ A (rngD 0 j.toNat) ρ := by
  unfold mR1
  cases n ρ with
  | none => rfl
  | some p =>
    obtain ⟨ds, ρ⟩ := p
    simp only [W_some]
    refine propext ⟨fun h => ?_, fun ⟨j, e, h1, h2⟩ => ?_⟩
    · split at h
      · rename_i j _ hh
        cases hh
        split at h
        · rename_i hl
          exact ⟨j, rfl, hl, h⟩
        · exact h.elim
      · exact h.elim
    · subst e
      have h1 : R1ok j := h1
      simp only [if_pos h1]
      exact h2
theorem w_r2 {n : MA} : W (mR2 n ρ) A = W (n ρ) fun ds ρ => ∃ i j, ds = [.int i, .int j] ∧ (-(2 ^ 62) ≤ i ∧ i < 2 ^ 62 ∧ -(2 ^ 62) ≤ j ∧ j < 2 ^ 62) ∧ A (rngD i (j - i).toNat) ρ := by
  unfold mR2
  cases n ρ with
  | none => rfl
  | some p =>
    obtain ⟨ds, ρ⟩ := p
    simp only [W_some]
    refine propext ⟨fun h => ?_, fun ⟨i, j, e, h1, h2⟩ => ?_⟩
    · split at h
      · rename_i i j _ hh
        cases hh
        split at h
        · rename_i hl
          exact ⟨i, j, rfl, hl, h⟩
        · exact h.elim
      · exact h.elim
    · subst e
      have h1 : R2ok i j := h1
      simp only [if_pos h1]
      exact h2
theorem w_enum {n : MA} : W (mEnum n ρ) A = W (n ρ) fun ds ρ => ∃ xs, ds = [.list xs] ∧ A (enumD 0 xs) ρ := by
  unfold mEnum
  cases n ρ with
  | none => rfl
  | some p =>
    obtain ⟨ds, ρ⟩ := p
    simp only [W_some]
    refine propext ⟨fun h => ?_, fun ⟨xs, e, h2⟩ => ?_⟩
    · split at h
      · rename_i xs _ hh
        cases hh
        exact ⟨xs, rfl, h⟩
      · exact h.elim
    · subst e
      exact h2
-- targets
theorem w_N {i : Nat} {d : PyData} {B : En → Prop} : W1 (mN i d ρ) B = (freeE ρ i = true ∧ B (ρ.set i (.val d))) := by
  unfold mN
  exact W1_if
theorem w_N0 {B : En → Prop} : W1 (mN0 [] ρ) B = B ρ := rfl
theorem w_N1 {m : MG} {n : List PyData → En → Option En} {d : PyData} {ds : List PyData} {B : En → Prop} : W1 (mN1 m n (d :: ds) ρ) B = W1 (m d ρ) fun ρ => W1 (n ds ρ) B := by
  show W1 ((m d ρ).bind fun ρ => n ds ρ) B = _
  cases m d ρ <;> rfl
theorem w_TupG {k : Nat} {n : List PyData → En → Option En} {d : PyData} {B : En → Prop} : W1 (mTupG k n d ρ) B = W1 (rowOf d) fun ds => ds.length = k ∧ W1 (n ds ρ) B := by
  unfold mTupG
  cases d with
  | tuple ds =>
    show W1 (if ds.length = k then n ds ρ else none) B = (ds.length = k ∧ W1 (n ds ρ) B)
    by_cases h : ds.length = k
    · rw [if_pos h]
      exact propext ⟨fun z => ⟨h, z⟩, fun z => z.2⟩
    · rw [if_neg h]
      exact propext ⟨fun z => z.elim, fun z => absurd z.1 h⟩
  | list ds =>
    show W1 (if ds.length = k then n ds ρ else none) B = (ds.length = k ∧ W1 (n ds ρ) B)
    by_cases h : ds.length = k
    · rw [if_pos h]
      exact propext ⟨fun z => ⟨h, z⟩, fun z => z.2⟩
    · rw [if_neg h]
      exact propext ⟨fun z => z.elim, fun z => absurd z.1 h⟩
  | _ => rfl
-- statements
theorem w_nx : W1 (mNx ρ) Z = Z (.nx ρ) := rfl
def nxt (Q : En → Prop) (Z : Fl → Prop) : Fl → Prop
  | .nx ρ => Q ρ
  | f => Z f
theorem nxt_nx {Q : En → Prop} : nxt Q Z (.nx ρ) = Q ρ := rfl
theorem nxt_rt {Q : En → Prop} {e : Ent} : nxt Q Z (.rt e ρ) = Z (.rt e ρ) := rfl
theorem nxt_bk {Q : En → Prop} : nxt Q Z (.bk ρ) = Z (.bk ρ) := rfl
theorem nxt_ct {Q : En → Prop} : nxt Q Z (.ct ρ) = Z (.ct ρ) := rfl
theorem w_seq {m n : MS} : W1 (mSeq m n ρ) Z = W1 (m ρ) (nxt (fun ρ => W1 (n ρ) Z) Z) := by
  unfold mSeq
  cases m ρ with
  | none => rfl
  | some f => cases f <;> rfl
theorem w_frz {i : Nat} {m : MS} : W1 (mFrz i m ρ) Z = W1 (m (frz i ρ)) Z := rfl
theorem w_asg {m : MV} {g : MG} : W1 (mAsg m g ρ) Z = W (m ρ) fun d ρ => W1 (g d ρ) fun ρ => Z (.nx ρ) := by
  unfold mAsg
  cases m ρ with
  | none => rfl
  | some p =>
    obtain ⟨d, ρ⟩ := p
    simp only [W_some]
    cases g d ρ <;> rfl
theorem w_own {m : MO} {i : Nat} : W1 (mOwn m i ρ) Z = W (m ρ) fun e ρ => freeE ρ i = true ∧ Z (.nx (ρ.set i e)) := by
  unfold mOwn
  cases m ρ with
  | none => rfl
  | some p =>
    obtain ⟨d, ρ⟩ := p
    simp only [W_some]
    exact W1_if
theorem w_ret {m : MO} : W1 (mRet m ρ) Z = W (m ρ) fun e ρ => Z (.rt e ρ) := by
  unfold mRet
  cases m ρ <;> rfl
theorem w_drop {m : MO} : W1 (mDrop m ρ) Z = W (m ρ) fun _ ρ => Z (.nx ρ) := by
  unfold mDrop
  cases m ρ <;> rfl
theorem w_bad : W1 (mBad ρ) Z = False := rfl
theorem w_for {n : MI} {g : MG} {m : MS} : W1 (mFor n g m ρ) Z = W (n ρ) fun ds ρ => W1 (forL g m ds ρ) Z := by
  unfold mFor
  cases n ρ <;> rfl
theorem w_app {j : Nat} {m : MV} : W (mApp j m ρ) S = W1 ρ[j]? fun e => (match e with | .own _ (.lst _) => True | _ => False) ∧ W (m ρ) fun d ρ => W1 ρ[j]? fun e => ∃ fr ds, e = .own fr (.lst ds) ∧ ds.length < 100000 ∧ S (.val .none) (ρ.set j (.own fr (.lst (ds ++ [d])))) := by
  unfold mApp
  cases ρ[j]? with
  | none => rfl
  | some e =>
    cases e with
    | own fr ce =>
      cases ce with
      | lst ds =>
        simp only [W1_some, true_and]
        cases m ρ with
        | none => rfl
        | some p =>
          obtain ⟨d, ρ⟩ := p
          simp only [W_some]
          cases ρ[j]? with
          | none => rfl
          | some e =>
            refine propext ⟨fun h => ?_, fun h => ?_⟩
            · simp only [W1_some]
              split at h
              · rename_i fr ds hh
                cases hh
                split at h
                · rename_i hl
                  exact ⟨fr, ds, rfl, hl, h⟩
                · exact h.elim
              · exact h.elim
            · obtain ⟨fr, ds, rfl, hl, h⟩ := h
              simp only [hl, if_true]
              exact h
      | _ => exact propext ⟨fun h => h.elim, fun h => h.1.elim⟩
    | _ => exact propext ⟨fun h => h.elim, fun h => h.1.elim⟩
theorem w_ext {j : Nat} {m : MV} : W (mExt j m ρ) S = W1 ρ[j]? fun e => (match e with | .own _ (.lst _) => True | _ => False) ∧ W (m ρ) fun d ρ => W1 (listOf d) fun es => W1 ρ[j]? fun e => ∃ fr ds, e = .own fr (.lst ds) ∧ ds.length + es.length ≤ 100000 ∧ S (.val .none) (ρ.set j (.own fr (.lst (ds ++ es)))) := by
  unfold mExt
  cases ρ[j]? with
  | none => rfl
  | some e =>
    cases e with
    | own fr ce =>
      cases ce with
      | lst ds =>
        simp only [W1_some, true_and]
        cases m ρ with
        | none => rfl
        | some p =>
          obtain ⟨d, ρ⟩ := p
          simp only [W_some]
          cases d with
          | list es =>
            simp only [W1_some]
            cases ρ[j]? with
            | none => rfl
            | some e =>
              refine propext ⟨fun h => ?_, fun h => ?_⟩
              · simp only [W1_some]
                split at h
                · rename_i fr ds hh
                  cases hh
                  split at h
                  · rename_i hl
                    exact ⟨fr, ds, rfl, hl, h⟩
                  · exact h.elim
                · exact h.elim
              · obtain ⟨fr, ds, rfl, hl, h⟩ := h
                simp only [hl, if_true]
                exact h
          | _ => rfl
      | _ => exact propext ⟨fun h => h.elim, fun h => h.1.elim⟩
    | _ => exact propext ⟨fun h => h.elim, fun h => h.1.elim⟩
-- calls
def endF (ins : List Ent) (S : Ent → List Ent → Prop) : Fl → Prop
  | .rt e ρ => S e (outsE ins ρ)
  | .nx ρ => S (.val .none) (outsE ins ρ)
  | _ => False
theorem endF_rt {ins : List Ent} {S : Ent → List Ent → Prop} {e : Ent} : endF ins S (.rt e ρ) = S e (outsE ins ρ) := rfl
theorem endF_nx {ins : List Ent} {S : Ent → List Ent → Prop} : endF ins S (.nx ρ) = S (.val .none) (outsE ins ρ) := rfl
theorem w_fn {n : Nat} {body : MS} {ins : List Ent} {S : Ent → List Ent → Prop} : W (mFn n body ins) S = W1 (body (ins ++ List.replicate (n - ins.length) Ent.no)) (endF ins S) := by
  unfold mFn
  cases body (ins ++ List.replicate (n - ins.length) Ent.no) with
  | none => rfl
  | some f => cases f <;> rfl
theorem w_call {f : MF} {p : List Nat} {dd : List PyData} {n nk : MA} : W (mCall f p dd n nk ρ) S = W (n ρ) fun ds ρ => W (nk ρ) fun es ρ => W (f ((pick p (ds ++ es ++ dd)).map .val)) fun e _ => resE e = true ∧ S e ρ := by
  unfold mCall
  cases n ρ with
  | none => rfl
  | some z =>
    obtain ⟨ds, ρ⟩ := z
    simp only [W_some]
    cases nk ρ with
    | none => rfl
    | some z =>
      obtain ⟨es, ρ⟩ := z
      simp only [W_some]
      cases f ((pick p (ds ++ es ++ dd)).map .val) with
      | none => rfl
      | some z =>
        obtain ⟨e, o⟩ := z
        simp only [W_some]
        by_cases h : resE e = true
        · rw [if_pos h]
          exact propext ⟨fun z => ⟨h, z⟩, fun z => z.2⟩
        · rw [if_neg h]
          exact propext ⟨fun z => z.elim, fun z => absurd z.1 h⟩
theorem w_lend {i : Nat} {f : MF} {p : List Nat} {dd : List PyData} {n nk : MA} : W (mLend i f p dd n nk ρ) S = W1 ρ[i]? fun e => (match e with | .own _ _ => True | _ => False) ∧ W (n ρ) fun ds ρ => W (nk ρ) fun es ρ => W1 ρ[i]? fun e => ∃ fr ce, e = .own fr ce ∧
    W (f (.own false ce :: (pick p (ds ++ es ++ dd)).map .val)) fun e o => ∃ ce' r, o = .own false ce' :: r ∧ resE e = true ∧ S e (ρ.set i (.own fr ce')) := by
  unfold mLend
  cases ρ[i]? with
  | none => rfl
  | some e =>
    cases e with
    | own fr ce =>
      simp only [W1_some, true_and]
      cases n ρ with
      | none => rfl
      | some z =>
        obtain ⟨ds, ρ⟩ := z
        simp only [W_some]
        cases nk ρ with
        | none => rfl
        | some z =>
          obtain ⟨es, ρ⟩ := z
          simp only [W_some]
          cases ρ[i]? with
          | none => rfl
          | some e =>
            simp only [W1_some]
            cases e with
            | own fr ce =>
              simp only
              cases hf : f (.own false ce :: (pick p (ds ++ es ++ dd)).map .val) with
              | none =>
                refine propext ⟨fun z => z.elim, fun ⟨fr', ce', e, h⟩ => ?_⟩
                cases e
                rw [hf] at h
                exact h.elim
              | some z =>
                obtain ⟨e, o⟩ := z
                refine propext ⟨fun h => ⟨fr, ce, rfl, ?_⟩, fun ⟨fr', ce', e', h⟩ => ?_⟩
                · rw [hf]
                  split at h
                  · rename_i e1 ce' r hh
                    cases hh
                    split at h
                    · rename_i hr
                      exact ⟨ce', r, rfl, hr, h⟩
                    · exact h.elim
                  · exact h.elim
                · cases e'
                  rw [hf] at h
                  obtain ⟨ce', r, rfl, hr, h⟩ := h
                  simp only [hr, if_true]
                  exact h
            | _ => exact propext ⟨fun z => z.elim, fun ⟨fr', ce', e, h⟩ => by cases e⟩
    | _ => exact propext ⟨fun h => h.elim, fun h => h.1.elim⟩
theorem w_scr {i : Nat} {f : MF} : W (mScr i f ρ) S = W1 ρ[i]? fun e => W1 (scrOf e) fun ns => W (f [.scr ns]) fun e _ => resE e = true ∧ S e ρ := by
  unfold mScr
  cases ρ[i]? with
  | none => rfl
  | some e =>
    cases e with
    | scr ns =>
      simp only [W1_some, scrOf]
      cases f [.scr ns] with
      | none => rfl
      | some z =>
        obtain ⟨e, o⟩ := z
        simp only [W_some]
        by_cases h : resE e = true
        · rw [if_pos h]
          exact propext ⟨fun z => ⟨h, z⟩, fun z => z.2⟩
        · rw [if_neg h]
          exact propext ⟨fun z => z.elim, fun z => absurd z.1 h⟩
    | _ => rfl
theorem w_bor {m : MO} : W (mBor m ρ) S = (borOk ρ = true ∧ W (m (ρ.map borS)) fun e ρ2 => nlE e = true ∧ dkKept ρ ρ2 = true ∧ S e (merE ρ ρ2)) := by
  unfold mBor
  by_cases h : borOk ρ = true
  · rw [if_pos h]
    cases hm : m (ρ.map borS) with
    | none => exact propext ⟨fun z => z.elim, fun z => z.2.elim⟩
    | some z =>
      obtain ⟨e, ρ2⟩ := z
      refine propext ⟨fun z => ⟨h, ?_⟩, fun z => ?_⟩
      · simp only at z
        split at z
        · rename_i hh
          exact ⟨hh.1, hh.2, z⟩
        · exact z.elim
      · obtain ⟨_, h1, h2, h3⟩ := z
        simp only [h1, h2, and_self, if_true]
        exact h3
  · rw [if_neg h]
    exact propext ⟨fun z => z.elim, fun z => absurd z.1 h⟩
theorem w_borT {m : MT} : W (mBorT m ρ) R = (borOk ρ = true ∧ W (m (ρ.map borS)) fun e ρ2 => dkKept ρ ρ2 = true ∧ R e (merE ρ ρ2)) := by
  unfold mBorT
  by_cases h : borOk ρ = true
  · rw [if_pos h]
    cases hm : m (ρ.map borS) with
    | none => exact propext ⟨fun z => z.elim, fun z => z.2.elim⟩
    | some z =>
      obtain ⟨e, ρ2⟩ := z
      refine propext ⟨fun z => ⟨h, ?_⟩, fun z => ?_⟩
      · simp only at z
        split at z
        · rename_i hh
          exact ⟨hh, z⟩
        · exact z.elim
      · obtain ⟨_, h1, h2⟩ := z
        simp only [h1, if_true]
        exact h2
  · rw [if_neg h]
    exact propext ⟨fun z => z.elim, fun z => absurd z.1 h⟩
theorem w_lc {n : MI} {g : MG} {t : MT} {m : MV} {vs : List Nat} : W (mLc n g t m vs ρ) S = W (n ρ) fun ds ρ => vs.all (freeE ρ) = true ∧ W (lcL g t m vs ds [] (wipeE ρ vs)) fun ys ρ => S (.own true (.lst ys)) ρ := by
  unfold mLc
  cases n ρ with
  | none => rfl
  | some z =>
    obtain ⟨ds, ρ⟩ := z
    simp only [W_some]
    by_cases h : vs.all (freeE ρ) = true
    · rw [if_pos h]
      cases lcL g t m vs ds [] (wipeE ρ vs) with
      | none => exact propext ⟨fun z => z.elim, fun z => z.2.elim⟩
      | some p => exact propext ⟨fun z => ⟨h, z⟩, fun z => z.2⟩
    · rw [if_neg h]
      exact propext ⟨fun z => z.elim, fun z => absurd z.1 h⟩
theorem w_move {i : Nat} : W (mMove i ρ) S = W1 ρ[i]? fun e => (∃ d, e = .val d ∧ S (.val d) ρ) ∨ ∃ ce, e = .own true ce ∧ S (.own true ce) (ρ.set i .lent) := by
  unfold mMove
  cases ρ[i]? with
  | none => rfl
  | some e =>
    refine propext ⟨fun h => ?_, fun h => ?_⟩
    · split at h
      · rename_i d hh
        cases hh
        exact .inl ⟨d, rfl, h⟩
      · rename_i ce hh
        cases hh
        exact .inr ⟨ce, rfl, h⟩
      · exact h.elim
    · rcases h with ⟨d, rfl, h⟩ | ⟨ce, rfl, h⟩ <;> exact h
theorem w_ownV {m : MV} {i : Nat} : W1 (mOwnV m i ρ) Z = W (m ρ) fun d ρ => freeE ρ i = true ∧ Z (.nx (ρ.set i (.val d))) := by
  unfold mOwnV
  rw [w_own, w_val]
theorem w_yes : W (mYes ρ) R = R true ρ := rfl
-- decks
theorem w_dkM {s i : Nat} : W (mDkM s i ρ) Q = W1 ρ[i]? fun e => ∃ fr l m t, e = .own fr (.deck s l m t) ∧ Q (.int m) ρ := by
  unfold mDkM
  cases ρ[i]? with
  | none => rfl
  | some e =>
    refine propext ⟨fun h => ?_, fun h => ?_⟩
    · split at h
      · rename_i fr s1 l m t hh
        cases hh
        split at h
        · rename_i hs
          subst hs
          exact ⟨fr, l, m, t, rfl, h⟩
        · exact h.elim
      · exact h.elim
    · obtain ⟨fr, l, m, t, rfl, h⟩ := h
      simp only [if_true]
      exact h
theorem w_dkT {s i : Nat} : W (mDkT s i ρ) Q = W1 ρ[i]? fun e => ∃ fr l m t, e = .own fr (.deck s l m t) ∧ Q (.int t) ρ := by
  unfold mDkT
  cases ρ[i]? with
  | none => rfl
  | some e =>
    refine propext ⟨fun h => ?_, fun h => ?_⟩
    · split at h
      · rename_i fr s1 l m t hh
        cases hh
        split at h
        · rename_i hs
          subst hs
          exact ⟨fr, l, m, t, rfl, h⟩
        · exact h.elim
      · exact h.elim
    · obtain ⟨fr, l, m, t, rfl, h⟩ := h
      simp only [if_true]
      exact h
theorem w_dkL {s i : Nat} : W (mDkL s i ρ) R = W1 ρ[i]? fun e => ∃ fr l m t, e = .own fr (.deck s l m t) ∧ R (!l.isEmpty) ρ := by
  unfold mDkL
  cases ρ[i]? with
  | none => rfl
  | some e =>
    refine propext ⟨fun h => ?_, fun h => ?_⟩
    · split at h
      · rename_i fr s1 l m t hh
        cases hh
        split at h
        · rename_i hs
          subst hs
          exact ⟨fr, l, m, t, rfl, h⟩
        · exact h.elim
      · exact h.elim
    · obtain ⟨fr, l, m, t, rfl, h⟩ := h
      simp only [if_true]
      exact h
theorem w_dkPop {s i : Nat} : W (mDkPop s i ρ) Q = W1 ρ[i]? fun e => ∃ fr l m t, e = .own fr (.deck s l m t) ∧ ∃ x, l.getLast? = some x ∧ Q (.int x) (ρ.set i (.own fr (.deck s l.dropLast m t))) := by
  unfold mDkPop
  cases ρ[i]? with
  | none => rfl
  | some e =>
    refine propext ⟨fun h => ?_, fun h => ?_⟩
    · split at h
      · rename_i fr s1 l m t hh
        cases hh
        split at h
        · rename_i hs
          subst hs
          split at h
          · rename_i x hx
            exact ⟨fr, l, m, t, rfl, x, hx, h⟩
          · exact h.elim
        · exact h.elim
      · exact h.elim
    · obtain ⟨fr, l, m, t, rfl, x, hx, h⟩ := h
      simp only [if_true, hx]
      exact h
theorem w_dkApp {s i : Nat} {m : MV} : W (mDkApp s i m ρ) S = W1 ρ[i]? fun e => ∃ fr l mx t, e = .own fr (.deck s l mx t) ∧ l.length < 100000 ∧ W (m (ρ.map valS)) fun d _ => W1 (intOf d) fun x => S (.val .none) (ρ.set i (.own fr (.deck s (l ++ [x]) mx t))) := by
  unfold mDkApp
  cases ρ[i]? with
  | none => rfl
  | some e =>
    refine propext ⟨fun h => ?_, fun h => ?_⟩
    · split at h
      · rename_i fr s1 l mx t hh
        cases hh
        split at h
        · rename_i hs
          obtain ⟨hs, hl⟩ := hs
          subst hs
          refine ⟨fr, l, mx, t, rfl, hl, ?_⟩
          cases hm : m (ρ.map valS) with
          | none => rw [hm] at h; exact h
          | some z =>
            obtain ⟨d, ρ2⟩ := z
            rw [hm] at h
            cases d <;> exact h
        · exact h.elim
      · exact h.elim
    · obtain ⟨fr, l, mx, t, rfl, hl, h⟩ := h
      simp only [hl, and_self, if_true]
      cases hm : m (ρ.map valS) with
      | none => rw [hm] at h; exact h
      | some z =>
        obtain ⟨d, ρ2⟩ := z
        rw [hm] at h
        cases d <;> exact h
theorem w_dkSetM {s i : Nat} {m : MV} : W1 (mDkSetM s i m ρ) Z = W (m ρ) fun d ρ => W1 (intOf d) fun x => W1 ρ[i]? fun e => ∃ fr l mx t, e = .own fr (.deck s l mx t) ∧ Z (.nx (ρ.set i (.own fr (.deck s l x t)))) := by
  unfold mDkSetM
  cases m ρ with
  | none => rfl
  | some z =>
    obtain ⟨d, ρ⟩ := z
    cases d with
    | int x =>
      simp only [W_some, W1_some]
      cases ρ[i]? with
      | none => rfl
      | some e =>
        refine propext ⟨fun h => ?_, fun h => ?_⟩
        · split at h
          · rename_i fr s1 l mx t hh
            cases hh
            split at h
            · rename_i hs
              subst hs
              exact ⟨fr, l, mx, t, rfl, h⟩
            · exact h.elim
          · exact h.elim
        · obtain ⟨fr, l, mx, t, rfl, h⟩ := h
          simp only [if_true]
          exact h
    | _ => rfl
theorem w_dkSetT {s i : Nat} {m : MV} : W1 (mDkSetT s i m ρ) Z = W (m ρ) fun d ρ => W1 (intOf d) fun x => W1 ρ[i]? fun e => ∃ fr l mx t, e = .own fr (.deck s l mx t) ∧ Z (.nx (ρ.set i (.own fr (.deck s l mx x)))) := by
  unfold mDkSetT
  cases m ρ with
  | none => rfl
  | some z =>
    obtain ⟨d, ρ⟩ := z
    cases d with
    | int x =>
      simp only [W_some, W1_some]
      cases ρ[i]? with
      | none => rfl
      | some e =>
        refine propext ⟨fun h => ?_, fun h => ?_⟩
        · split at h
          · rename_i fr s1 l mx t hh
            cases hh
            split at h
            · rename_i hs
              subst hs
              exact ⟨fr, l, mx, t, rfl, h⟩
            · exact h.elim
          · exact h.elim
        · obtain ⟨fr, l, mx, t, rfl, h⟩ := h
          simp only [if_true]
          exact h
    | _ => rfl
theorem w_dkNew {s : Nat} {a : MO} {b c : MV} : W (mDkNew s a b c ρ) S = W (a ρ) fun e ρ => ∃ ns : List Int, e = .own true (.lst (ns.map .int)) ∧ W (b ρ) fun d ρ => ∃ m, d = .int m ∧ W (c ρ) fun d ρ => ∃ t, d = .int t ∧ S (.own true (.deck s ns m t)) ρ := by
  unfold mDkNew
  cases a ρ with
  | none => rfl
  | some z =>
    obtain ⟨e, ρ⟩ := z
    simp only [W_some]
    refine propext ⟨fun h => ?_, fun h => ?_⟩
    · split at h
      · rename_i ds ρ1 hh
        cases hh
        split at h
        · rename_i l hl
          have := intsD_eq hl
          subst this
          refine ⟨l, rfl, ?_⟩
          cases hb : b ρ with
          | none => rw [hb] at h; exact h
          | some z =>
            obtain ⟨d, ρ2⟩ := z
            rw [hb] at h
            cases d with
            | int m =>
              refine ⟨m, rfl, ?_⟩
              simp only at h
              cases hc : c ρ2 with
              | none => rw [hc] at h; exact h
              | some z =>
                obtain ⟨d, ρ3⟩ := z
                rw [hc] at h
                cases d with
                | int t => exact ⟨t, rfl, h⟩
                | _ => exact h.elim
            | _ => exact h.elim
        · exact h.elim
      · exact h.elim
    · obtain ⟨ns, rfl, h⟩ := h
      simp only [intsD_map]
      cases hb : b ρ with
      | none => rw [hb] at h; exact h
      | some z =>
        obtain ⟨d, ρ2⟩ := z
        rw [hb] at h
        obtain ⟨m, rfl, h⟩ := h
        simp only
        cases hc : c ρ2 with
        | none => rw [hc] at h; exact h
        | some z =>
          obtain ⟨d, ρ3⟩ := z
          rw [hc] at h
          obtain ⟨t, rfl, h⟩ := h
          exact h
end
/-! ### loops -/
/-- a loop's invariant: I of what is still to be walked -/
theorem w_forL {g : MG} {m : MS} {Z : Fl → Prop} (I : List PyData → En → Prop) (body : ∀ d ds ρ, I (d :: ds) ρ → W1 (g d ρ) fun ρ => W1 (m ρ) fun f => match f with | .nx ρ => I ds ρ | .ct ρ => I ds ρ | .bk ρ => Z (.nx ρ) | .rt e ρ => Z (.rt e ρ)) (fin : ∀ ρ, I [] ρ → Z (.nx ρ)) :
    ∀ (ds : List PyData) (ρ : En), I ds ρ → W1 (forL g m ds ρ) Z
  | [], ρ, h => fin ρ h
  | d :: ds, ρ, h => by
    have b := body d ds ρ h
    unfold forL
    cases hg : g d ρ with
    | none =>
      rw [hg] at b
      exact b
    | some ρ1 =>
      rw [hg] at b
      simp only [W1_some] at b
      simp only
      cases hm : m ρ1 with
      | none =>
        rw [hm] at b
        exact b
      | some f =>
        rw [hm] at b
        cases f with
        | nx ρ2 => exact w_forL I body fin ds ρ2 b
        | ct ρ2 => exact w_forL I body fin ds ρ2 b
        | bk ρ2 => exact b
        | rt e ρ2 => exact b
theorem w_lcL {g : MG} {t : MT} {m : MV} {vs : List Nat} {Q : List PyData → En → Prop} (I : List PyData → List PyData → En → Prop)
    (body : ∀ d ds acc ρ, I (d :: ds) acc ρ → W1 (g d ρ) fun ρ => W (t ρ) fun b ρ => (b = true → W (m ρ) fun y ρ => acc.length < 100000 ∧ vs.all (freeE ρ) = true ∧ I ds (acc ++ [y]) (wipeE ρ vs)) ∧ (b = false → vs.all (freeE ρ) = true ∧ I ds acc (wipeE ρ vs))) (fin : ∀ acc ρ, I [] acc ρ → Q acc ρ) :
    ∀ (ds acc : List PyData) (ρ : En), I ds acc ρ → W (lcL g t m vs ds acc ρ) Q
  | [], acc, ρ, h => fin acc ρ h
  | d :: ds, acc, ρ, h => by
    have b := body d ds acc ρ h
    unfold lcL
    cases hg : g d ρ with
    | none =>
      rw [hg] at b
      exact b
    | some ρ1 =>
      rw [hg] at b
      simp only [W1_some] at b
      simp only
      cases ht : t ρ1 with
      | none =>
        rw [ht] at b
        exact b
      | some z =>
        obtain ⟨k, ρ2⟩ := z
        rw [ht] at b
        simp only [W_some] at b
        cases k with
        | false =>
          obtain ⟨h1, h2⟩ := b.2 rfl
          simp only [h1, if_true]
          exact w_lcL I body fin ds acc _ h2
        | true =>
          have b := b.1 rfl
          simp only
          cases hm : m ρ2 with
          | none =>
            rw [hm] at b
            exact b
          | some z =>
            obtain ⟨y, ρ3⟩ := z
            rw [hm] at b
            obtain ⟨h0, h1, h2⟩ := b
            simp only [h0, h1, and_self, if_true]
            exact w_lcL I body fin ds _ _ h2
end Fj

set_option Elab.async false
set_option linter.all false
set_option maxRecDepth 100000
set_option maxHeartbeats 4000000
set_option autoImplicit false
/-! What the operations say of numbers; decks. -/
namespace Fj
open PySem PySem.Spec PyProof.Rows L2

section
variable {Q : PyData → Prop} {S : Ent → Prop} {i j : Int}
theorem g_add : W1 (gAdd (.int i) (.int j)) Q = Q (.int (i + j)) := rfl
theorem g_sub : W1 (gSub (.int i) (.int j)) Q = Q (.int (i - j)) := rfl
theorem g_addT {xs ys : List PyData} : W1 (gAdd (.tuple xs) (.tuple ys)) Q = (xs.length + ys.length ≤ 100000 ∧ Q (.tuple (xs ++ ys))) := by
  unfold gAdd gI gAddS gAddT gAddL
  simp only [Option.none_or, Option.or_none]
  exact W1_if
theorem g_addL {xs ys : List PyData} : W1 (gAdd (.list xs) (.list ys)) Q = (xs.length + ys.length ≤ 100000 ∧ Q (.list (xs ++ ys))) := by
  unfold gAdd gI gAddS gAddT gAddL
  simp only [Option.none_or]
  exact W1_if
theorem g_addS {x y : Str} : W1 (gAdd (.str x) (.str y)) Q = (x.length + y.length ≤ 100000 ∧ Q (.str (x ++ y))) := by
  unfold gAdd gI gAddS gAddT gAddL
  simp only [Option.none_or, Option.or_none]
  exact W1_if
theorem g_mul : W1 (gMul (.int i) (.int j)) Q = (gMulC i j = true ∧ Q (.int (i * j))) := by
  unfold gMul gMulI gMulL gI
  simp only [Option.or_none]
  exact W1_if
theorem g_div : W1 (gDiv (.int i) (.int j)) Q = (gDivC i j = true ∧ Q (.int (i / j))) := by
  unfold gDiv gI
  exact W1_if
theorem g_mod : W1 (gMod (.int i) (.int j)) Q = (0 < j ∧ Q (.int (i % j))) := by
  unfold gMod gI
  refine W1_if.trans ?_
  unfold gModC
  rw [decide_eq_true_eq]
theorem g_pow : W1 (gPow (.int i) (.int j)) Q = (gPowC i j = true ∧ Q (.int (i ^ j.toNat))) := by
  unfold gPow gI
  exact W1_if
theorem g_lt : W1 (gLt (.int i) (.int j)) Q = Q (.bool (decide (i < j))) := rfl
theorem g_le : W1 (gLe (.int i) (.int j)) Q = Q (.bool (decide (i ≤ j))) := rfl
theorem g_gt : W1 (gGt (.int i) (.int j)) Q = Q (.bool (decide (j < i))) := rfl
theorem g_ge : W1 (gGe (.int i) (.int j)) Q = Q (.bool (decide (j ≤ i))) := rfl
theorem shaped_int : SeqAt.shaped (.int i) = true := by
  unfold SeqAt.shaped
  simp [PyData.canLay0, PyData.depth]
theorem shaped_nil : SeqAt.shaped (.list []) = true := by decide
theorem eqv_int : PyData.eqv (.int i) (.int j) = decide (i = j) := by
  unfold PyData.eqv
  by_cases h : i = j
  · rw [h, decide_eq_true rfl]
    exact beq_self_eq_true j
  · rw [decide_eq_false h]
    exact beq_false_of_ne h
theorem g_eq : W1 (gEq (.int i) (.int j)) Q = Q (.bool (decide (i = j))) := by
  unfold gEq gEqS gEqD
  simp only [Option.none_or]
  rw [shaped_int, shaped_int]
  simp only [Bool.and_self, if_true, W1_some, eqv_int]
theorem g_ne : W1 (gNe (.int i) (.int j)) Q = Q (.bool (!decide (i = j))) := by
  unfold gNe gNeS gNeD
  simp only [Option.none_or]
  rw [shaped_int, shaped_int]
  simp only [Bool.and_self, if_true, W1_some, eqv_int]
theorem eqv_nilL (ds : List PyData) : PyData.eqv (.list ds) (.list []) = ds.isEmpty := by
  cases ds <;> simp [PyData.eqv, PyData.eqvAll]
theorem g_neNil {ds : List PyData} : W1 (gNe (.list ds) (.list [])) Q = (SeqAt.shaped (.list ds) = true ∧ Q (.bool (!ds.isEmpty))) := by
  unfold gNe gNeS gNeD
  simp only [Option.none_or]
  rw [shaped_nil, Bool.and_true, eqv_nilL]
  exact W1_if
theorem g_eqNil {ds : List PyData} : W1 (gEq (.list ds) (.list [])) Q = (SeqAt.shaped (.list ds) = true ∧ Q (.bool ds.isEmpty)) := by
  unfold gEq gEqS gEqD
  simp only [Option.none_or]
  rw [shaped_nil, Bool.and_true, eqv_nilL]
  exact W1_if
theorem g_eqS {x y : Str} : W1 (gEq (.str x) (.str y)) Q = Q (.bool (decide (x = y))) := rfl
theorem g_neS {x y : Str} : W1 (gNe (.str x) (.str y)) Q = Q (.bool (!decide (x = y))) := rfl
theorem g_lenL {ds : List PyData} : W1 (gLen [.list ds]) S = S (.val (.int ds.length)) := rfl
theorem g_lenT {ds : List PyData} : W1 (gLen [.tuple ds]) S = S (.val (.int ds.length)) := rfl
theorem g_int : W1 (gInt [.int i]) S = S (.val (.int i)) := rfl
theorem g_max : W1 (gMax2 [.int i, .int j]) S = S (.val (.int (if j > i then j else i))) := rfl
theorem g_min : W1 (gMin2 [.int i, .int j]) S = S (.val (.int (if j < i then j else i))) := rfl
theorem g_list {ds : List PyData} : W1 (gList [.list ds]) S = S (.own true (.lst ds)) := rfl
theorem g_listT {ds : List PyData} : W1 (gList [.tuple ds]) S = S (.own true (.lst ds)) := rfl
theorem g_tupT {ds : List PyData} : W1 (gTuple [.tuple ds]) S = S (.val (.tuple ds)) := rfl
theorem g_tupL {ds : List PyData} : W1 (gTuple [.list ds]) S = S (.val (.tuple ds)) := rfl
theorem g_ixL {ds : List PyData} : W1 (gIx (.list ds) (.int i)) Q = W1 (L2.atI ds i) Q := rfl
theorem g_ixT {ds : List PyData} : W1 (gIx (.tuple ds) (.int i)) Q = W1 (L2.atI ds i) Q := rfl
/-! ### what is there -/
theorem ex_dk {s : Nat} {fr0 : Bool} {l0 : List Int} {m0 t0 : Int} {R : Bool → List Int → Int → Int → Prop} : (∃ fr l m t, Ent.own fr0 (.deck s l0 m0 t0) = .own fr (.deck s l m t) ∧ R fr l m t) = R fr0 l0 m0 t0 :=
  propext ⟨fun ⟨fr, l, m, t, e, h⟩ => by
    cases e
    exact h, fun h => ⟨_, _, _, _, rfl, h⟩⟩
theorem ex_own {fr0 : Bool} {c0 : Cell} {R : Bool → Cell → Prop} : (∃ fr ce, Ent.own fr0 c0 = .own fr ce ∧ R fr ce) = R fr0 c0 :=
  propext ⟨fun ⟨fr, ce, e, h⟩ => by
    cases e
    exact h, fun h => ⟨_, _, rfl, h⟩⟩
theorem ex_lst {fr0 : Bool} {d0 : List PyData} {R : Bool → List PyData → Prop} : (∃ fr ds, Ent.own fr0 (.lst d0) = .own fr (.lst ds) ∧ R fr ds) = R fr0 d0 :=
  propext ⟨fun ⟨fr, ds, e, h⟩ => by
    cases e
    exact h, fun h => ⟨_, _, rfl, h⟩⟩
theorem ex_out {c0 : Cell} {r0 : List Ent} {R : Cell → List Ent → Prop} : (∃ ce r, (Ent.own false c0 :: r0) = .own false ce :: r ∧ R ce r) = R c0 r0 :=
  propext ⟨fun ⟨ce, r, e, h⟩ => by
    cases e
    exact h, fun h => ⟨_, _, rfl, h⟩⟩
theorem ex_int {R : Int → Prop} : (∃ m, PyData.int i = .int m ∧ R m) = R i :=
  propext ⟨fun ⟨m, e, h⟩ => by
    cases e
    exact h, fun h => ⟨_, rfl, h⟩⟩
theorem ex_r1 {A : Prop} {R : Int → Prop} : (∃ j', [PyData.int j] = [.int j'] ∧ A ∧ R j') = (A ∧ R j) :=
  propext ⟨fun ⟨m, e, h⟩ => by
    cases e
    exact h, fun h => ⟨_, rfl, h⟩⟩
theorem ex_ls {xs ys : List PyData} {R : List PyData → List PyData → Prop} : (∃ xs' ys', PyData.list xs = .list xs' ∧ PyData.list ys = .list ys' ∧ R xs' ys') = R xs ys :=
  propext ⟨fun ⟨_, _, e1, e2, h⟩ => by
    cases e1
    cases e2
    exact h, fun h => ⟨_, _, rfl, rfl, h⟩⟩
theorem ex_en {xs : List PyData} {R : List PyData → Prop} : (∃ xs', [PyData.list xs] = [.list xs'] ∧ R xs') = R xs :=
  propext ⟨fun ⟨_, e1, h⟩ => by
    cases e1
    exact h, fun h => ⟨_, rfl, h⟩⟩
end
theorem pin_no : pinE .no = false := rfl
theorem pin_val {d : PyData} : pinE (.val d) = false := rfl
theorem pin_t {ce : Cell} : pinE (.own true ce) = false := rfl
theorem pin_f {ce : Cell} : pinE (.own false ce) = true := rfl
theorem pin_lent : pinE .lent = true := rfl
theorem pin_scr {ns : List Int} : pinE (.scr ns) = false := rfl
/-! ### the rules, each step seen by what it looks at -/
section
variable {ρ : En} {Q : PyData → En → Prop} {R : Bool → En → Prop} {S : Ent → En → Prop} {Z : Fl → Prop} {A : List PyData → En → Prop}
theorem own_of {fr : Bool} {ce : Cell} : ownOf (.own fr ce) = some (fr, ce) := rfl
theorem lst_of {fr : Bool} {ds : List PyData} : lstOf (.own fr (.lst ds)) = some (fr, ds) := rfl
theorem dk_of {s : Nat} {fr : Bool} {l : List Int} {m t : Int} : dkOf s (.own fr (.deck s l m t)) = some (fr, l, m, t) := if_pos rfl
theorem out_of {ce : Cell} {r : List Ent} : outOf (.own false ce :: r) = some ce := rfl
theorem list_of {ds : List PyData} : listOf (.list ds) = some ds := rfl
theorem bool_of {b : Bool} : boolOf (.bool b) = some b := rfl
theorem val_of {d : PyData} : valOf (.val d) = some d := rfl
theorem scr_of {ns : List Int} : scrOf (.scr ns) = some ns := rfl
theorem row_ofL {ds : List PyData} : rowOf (.list ds) = some ds := rfl
theorem row_ofT {ds : List PyData} : rowOf (.tuple ds) = some ds := rfl
theorem walk_ofL {ds : List PyData} : walkOf (.list ds) = some ds := rfl
theorem walk_ofT {ds : List PyData} : walkOf (.tuple ds) = some ds := rfl
theorem walk_ofS {x : Str} : walkOf (.str x) = some (signsD x) := rfl
theorem int_of {i : Int} : intOf (.int i) = some i := rfl
theorem exW_own {e : Ent} {R : Bool → Cell → Prop} : (∃ fr ce, e = .own fr ce ∧ R fr ce) = W1 (ownOf e) fun q => R q.1 q.2 := by
  refine propext ⟨fun ⟨fr, ce, h, r⟩ => by
    cases h
    exact r, fun h => ?_⟩
  cases e with
  | own fr ce => exact ⟨_, _, rfl, h⟩
  | _ => exact h.elim
theorem exW_lst {e : Ent} {R : Bool → List PyData → Prop} : (∃ fr ds, e = .own fr (.lst ds) ∧ R fr ds) = W1 (lstOf e) fun q => R q.1 q.2 := by
  refine propext ⟨fun ⟨fr, ce, h, r⟩ => by
    cases h
    exact r, fun h => ?_⟩
  cases e with
  | own fr ce =>
    cases ce with
    | lst ds => exact ⟨_, _, rfl, h⟩
    | _ => exact h.elim
  | _ => exact h.elim
theorem exW_dk {s : Nat} {e : Ent} {R : Bool → List Int → Int → Int → Prop} : (∃ fr l m t, e = .own fr (.deck s l m t) ∧ R fr l m t) = W1 (dkOf s e) fun q => R q.1 q.2.1 q.2.2.1 q.2.2.2 := by
  refine propext ⟨fun ⟨fr, l, m, t, h, r⟩ => by
    cases h
    rw [dk_of]
    exact r, fun h => ?_⟩
  cases e with
  | own fr ce =>
    cases ce with
    | deck s' l m t =>
      by_cases hs : s' = s
      · subst hs
        rw [dk_of] at h
        exact ⟨_, _, _, _, rfl, h⟩
      · have e : dkOf s (.own fr (.deck s' l m t)) = none := if_neg hs
        rw [e] at h
        exact h.elim
    | _ => exact h.elim
  | _ => exact h.elim
theorem exW_out {o : List Ent} {R : Cell → Prop} : (∃ ce r, o = .own false ce :: r ∧ R ce) = W1 (outOf o) R := by
  refine propext ⟨fun ⟨ce, r, h, q⟩ => by
    cases h
    exact q, fun h => ?_⟩
  cases o with
  | nil => exact h.elim
  | cons e r =>
    cases e with
    | own fr ce =>
      cases fr with
      | false => exact ⟨_, _, rfl, h⟩
      | true => exact h.elim
    | _ => exact h.elim
theorem exW_list {d : PyData} {R : List PyData → Prop} : (∃ ds, d = .list ds ∧ R ds) = W1 (listOf d) R := by
  refine propext ⟨fun ⟨ds, h, r⟩ => by
    cases h
    exact r, fun h => ?_⟩
  cases d with
  | list ds => exact ⟨_, rfl, h⟩
  | _ => exact h.elim
theorem exW_int {d : PyData} {R : Int → Prop} : (∃ i, d = .int i ∧ R i) = W1 (intOf d) R := by
  refine propext ⟨fun ⟨ds, h, r⟩ => by
    cases h
    exact r, fun h => ?_⟩
  cases d with
  | int i => exact ⟨_, rfl, h⟩
  | _ => exact h.elim
theorem x_lend {i : Nat} {f : MF} {p : List Nat} {dd : List PyData} {n nk : MA} : W (mLend i f p dd n nk ρ) S = W1 ρ[i]? fun e => W1 (ownOf e) fun _ => W (n ρ) fun ds ρ => W (nk ρ) fun es ρ => W1 ρ[i]? fun e => W1 (ownOf e) fun q =>
    W (f (.own false q.2 :: (pick p (ds ++ es ++ dd)).map .val)) fun e o => W1 (outOf o) fun ce => resE e = true ∧ S e (ρ.set i (.own q.1 ce)) := by
  rw [w_lend]
  refine W1_fn fun e => ?_
  refine Eq.trans ?_ (exW_own (R := fun _ _ => _))
  have inner : (W (n ρ) fun ds ρ => W (nk ρ) fun es ρ => W1 ρ[i]? fun e => ∃ fr ce, e = .own fr ce ∧ W (f (.own false ce :: (pick p (ds ++ es ++ dd)).map .val)) fun e o => ∃ ce' r, o = .own false ce' :: r ∧ resE e = true ∧ S e (ρ.set i (.own fr ce'))) =
      W (n ρ) fun ds ρ => W (nk ρ) fun es ρ => W1 ρ[i]? fun e => W1 (ownOf e) fun q => W (f (.own false q.2 :: (pick p (ds ++ es ++ dd)).map .val)) fun e o => W1 (outOf o) fun ce => resE e = true ∧ S e (ρ.set i (.own q.1 ce)) :=
    W_fn fun ds ρ => W_fn fun es ρ => W1_fn fun e => exW_own.trans (W1_fn fun q => W_fn fun e o => exW_out)
  rw [inner]
  refine propext ⟨fun ⟨h1, h2⟩ => ?_, fun ⟨fr, ce, h1, h2⟩ => ?_⟩
  · cases e with
    | own fr ce => exact ⟨fr, ce, rfl, h2⟩
    | _ => exact h1.elim
  · subst h1
    exact ⟨trivial, h2⟩
theorem x_app {j : Nat} {m : MV} : W (mApp j m ρ) S = W1 ρ[j]? fun e => W1 (lstOf e) fun _ => W (m ρ) fun d ρ => W1 ρ[j]? fun e => W1 (lstOf e) fun q => q.2.length < 100000 ∧ S (.val .none) (ρ.set j (.own q.1 (.lst (q.2 ++ [d])))) := by
  rw [w_app]
  refine W1_fn fun e => ?_
  refine Eq.trans ?_ (exW_lst (R := fun _ _ => _))
  have inner : (W (m ρ) fun d ρ => W1 ρ[j]? fun e => ∃ fr ds, e = .own fr (.lst ds) ∧ ds.length < 100000 ∧ S (.val .none) (ρ.set j (.own fr (.lst (ds ++ [d]))))) = W (m ρ) fun d ρ => W1 ρ[j]? fun e => W1 (lstOf e) fun q => q.2.length < 100000 ∧ S (.val .none) (ρ.set j (.own q.1 (.lst (q.2 ++ [d])))) :=
    W_fn fun d ρ => W1_fn fun e => exW_lst
  rw [inner]
  refine propext ⟨fun ⟨h1, h2⟩ => ?_, fun ⟨fr, ce, h1, h2⟩ => ?_⟩
  · cases e with
    | own fr ce =>
      cases ce with
      | lst ds => exact ⟨fr, ds, rfl, h2⟩
      | _ => exact h1.elim
    | _ => exact h1.elim
  · subst h1
    exact ⟨trivial, h2⟩
theorem x_ext {j : Nat} {m : MV} : W (mExt j m ρ) S = W1 ρ[j]? fun e => W1 (lstOf e) fun _ => W (m ρ) fun d ρ => W1 (listOf d) fun es => W1 ρ[j]? fun e => W1 (lstOf e) fun q => q.2.length + es.length ≤ 100000 ∧ S (.val .none) (ρ.set j (.own q.1 (.lst (q.2 ++ es)))) := by
  rw [w_ext]
  refine W1_fn fun e => ?_
  refine Eq.trans ?_ (exW_lst (R := fun _ _ => _))
  have inner : (W (m ρ) fun d ρ => W1 (listOf d) fun es => W1 ρ[j]? fun e => ∃ fr ds, e = .own fr (.lst ds) ∧ ds.length + es.length ≤ 100000 ∧ S (.val .none) (ρ.set j (.own fr (.lst (ds ++ es))))) = W (m ρ) fun d ρ => W1 (listOf d) fun es => W1 ρ[j]? fun e => W1 (lstOf e) fun q => q.2.length + es.length ≤ 100000 ∧ S (.val .none) (ρ.set j (.own q.1 (.lst (q.2 ++ es)))) :=
    W_fn fun d ρ => W1_fn fun es => W1_fn fun e => exW_lst
  rw [inner]
  refine propext ⟨fun ⟨h1, h2⟩ => ?_, fun ⟨fr, ce, h1, h2⟩ => ?_⟩
  · cases e with
    | own fr ce =>
      cases ce with
      | lst ds => exact ⟨fr, ds, rfl, h2⟩
      | _ => exact h1.elim
    | _ => exact h1.elim
  · subst h1
    exact ⟨trivial, h2⟩
theorem x_dkM {s i : Nat} : W (mDkM s i ρ) Q = W1 ρ[i]? fun e => W1 (dkOf s e) fun q => Q (.int q.2.2.1) ρ := by
  rw [w_dkM]
  refine W1_fn fun e => ?_
  exact exW_dk (R := fun _ _ m _ => Q (.int m) ρ)
theorem x_dkT {s i : Nat} : W (mDkT s i ρ) Q = W1 ρ[i]? fun e => W1 (dkOf s e) fun q => Q (.int q.2.2.2) ρ := by
  rw [w_dkT]
  refine W1_fn fun e => ?_
  exact exW_dk (R := fun _ _ _ t => Q (.int t) ρ)
theorem x_dkL {s i : Nat} : W (mDkL s i ρ) R = W1 ρ[i]? fun e => W1 (dkOf s e) fun q => R (!q.2.1.isEmpty) ρ := by
  rw [w_dkL]
  refine W1_fn fun e => ?_
  exact exW_dk (R := fun _ l _ _ => R (!l.isEmpty) ρ)
theorem x_dkPop {s i : Nat} : W (mDkPop s i ρ) Q = W1 ρ[i]? fun e => W1 (dkOf s e) fun q => W1 q.2.1.getLast? fun x => Q (.int x) (ρ.set i (.own q.1 (.deck s q.2.1.dropLast q.2.2.1 q.2.2.2))) := by
  rw [w_dkPop]
  refine W1_fn fun e => ?_
  refine (exW_dk (R := fun fr l m t => ∃ x, l.getLast? = some x ∧ Q (.int x) (ρ.set i (.own fr (.deck s l.dropLast m t))))).trans ?_
  refine W1_fn fun q => ?_
  cases q.2.1.getLast? with
  | none => exact propext ⟨fun ⟨x, h, _⟩ => (by cases h), fun h => h.elim⟩
  | some y => exact propext ⟨fun ⟨x, h, r⟩ => (by
      cases h
      exact r), fun h => ⟨_, rfl, h⟩⟩
theorem x_dkApp {s i : Nat} {m : MV} : W (mDkApp s i m ρ) S = W1 ρ[i]? fun e => W1 (dkOf s e) fun q => q.2.1.length < 100000 ∧ W (m (ρ.map valS)) fun d _ => W1 (intOf d) fun x => S (.val .none) (ρ.set i (.own q.1 (.deck s (q.2.1 ++ [x]) q.2.2.1 q.2.2.2))) := by
  rw [w_dkApp]
  refine W1_fn fun e => ?_
  exact exW_dk (R := fun fr l mx t => l.length < 100000 ∧ W (m (ρ.map valS)) fun d _ => W1 (intOf d) fun x => S (.val .none) (ρ.set i (.own fr (.deck s (l ++ [x]) mx t))))
theorem x_dkSetM {s i : Nat} {m : MV} : W1 (mDkSetM s i m ρ) Z = W (m ρ) fun d ρ => W1 (intOf d) fun x => W1 ρ[i]? fun e => W1 (dkOf s e) fun q => Z (.nx (ρ.set i (.own q.1 (.deck s q.2.1 x q.2.2.2)))) := by
  rw [w_dkSetM]
  show W (m ρ) (fun d ρ => W1 (intOf d) fun x => _) = _
  refine W_fn fun d ρ => ?_
  refine W1_fn fun x => ?_
  refine W1_fn fun e => ?_
  exact exW_dk (R := fun fr l _ t => Z (.nx (ρ.set i (.own fr (.deck s l x t)))))
theorem x_dkSetT {s i : Nat} {m : MV} : W1 (mDkSetT s i m ρ) Z = W (m ρ) fun d ρ => W1 (intOf d) fun x => W1 ρ[i]? fun e => W1 (dkOf s e) fun q => Z (.nx (ρ.set i (.own q.1 (.deck s q.2.1 q.2.2.1 x)))) := by
  rw [w_dkSetT]
  show W (m ρ) (fun d ρ => W1 (intOf d) fun x => _) = _
  refine W_fn fun d ρ => ?_
  refine W1_fn fun x => ?_
  refine W1_fn fun e => ?_
  exact exW_dk (R := fun fr l mx _ => Z (.nx (ρ.set i (.own fr (.deck s l mx x)))))
theorem x_cat {a b : MV} : W (mCat a b ρ) S = W (a ρ) fun x ρ => W (b ρ) fun y ρ => W1 (listOf x) fun xs => W1 (listOf y) fun ys => xs.length + ys.length ≤ 100000 ∧ S (.own true (.lst (xs ++ ys))) ρ := by
  rw [w_cat]
  refine W_fn fun x ρ => ?_
  refine W_fn fun y ρ => ?_
  refine propext ⟨fun ⟨xs, ys, h1, h2, h3⟩ => by
    subst h1 h2
    exact h3, fun h => ?_⟩
  cases x with
  | list xs =>
    cases y with
    | list ys => exact ⟨_, _, rfl, rfl, h⟩
    | _ => exact h.elim
  | _ => exact h.elim
def int1 : List PyData → Option Int
  | [.int i] => some i
  | _ => none
def int2 : List PyData → Option (Int × Int)
  | [.int i, .int j] => some (i, j)
  | _ => none
def list1 : List PyData → Option (List PyData)
  | [.list ds] => some ds
  | _ => none
theorem int1_of {i : Int} : int1 [.int i] = some i := rfl
theorem int2_of {i j : Int} : int2 [.int i, .int j] = some (i, j) := rfl
theorem list1_of {ds : List PyData} : list1 [.list ds] = some ds := rfl
theorem x_r1 {n : MA} : W (mR1 n ρ) A = W (n ρ) fun ds ρ => W1 (int1 ds) fun j => (-(2 ^ 62) ≤ j ∧ j < 2 ^ 62) ∧ A (rngD 0 j.toNat) ρ := by
  rw [w_r1]
  refine W_fn fun ds ρ => ?_
  refine propext ⟨fun ⟨j, h, r⟩ => by
    subst h
    exact r, fun h => ?_⟩
  unfold int1 at h
  split at h
  · exact ⟨_, rfl, h⟩
  · exact h.elim
theorem x_r2 {n : MA} : W (mR2 n ρ) A = W (n ρ) fun ds ρ => W1 (int2 ds) fun q => (-(2 ^ 62) ≤ q.1 ∧ q.1 < 2 ^ 62 ∧ -(2 ^ 62) ≤ q.2 ∧ q.2 < 2 ^ 62) ∧ A (rngD q.1 (q.2 - q.1).toNat) ρ := by
  rw [w_r2]
  refine W_fn fun ds ρ => ?_
  refine propext ⟨fun ⟨i, j, h, r⟩ => by
    subst h
    exact r, fun h => ?_⟩
  unfold int2 at h
  split at h
  · exact ⟨_, _, rfl, h⟩
  · exact h.elim
theorem x_enum {n : MA} : W (mEnum n ρ) A = W (n ρ) fun ds ρ => W1 (list1 ds) fun xs => A (enumD 0 xs) ρ := by
  rw [w_enum]
  refine W_fn fun ds ρ => ?_
  refine propext ⟨fun ⟨j, h, r⟩ => by
    subst h
    exact r, fun h => ?_⟩
  unfold list1 at h
  split at h
  · exact ⟨_, rfl, h⟩
  · exact h.elim
theorem x_dkNew {s : Nat} {a : MO} {b c : MV} : W (mDkNew s a b c ρ) S = W (a ρ) fun e ρ => W1 (lstOf e) fun q => q.1 = true ∧ W1 (intsD q.2) fun ns => W (b ρ) fun d ρ => W1 (intOf d) fun m => W (c ρ) fun d ρ => W1 (intOf d) fun t => S (.own true (.deck s ns m t)) ρ := by
  rw [w_dkNew]
  refine W_fn fun e ρ => ?_
  have inner : ∀ ns : List Int, (W (b ρ) fun d ρ => ∃ m, d = .int m ∧ W (c ρ) fun d ρ => ∃ t, d = .int t ∧ S (.own true (.deck s ns m t)) ρ) = W (b ρ) fun d ρ => W1 (intOf d) fun m => W (c ρ) fun d ρ => W1 (intOf d) fun t => S (.own true (.deck s ns m t)) ρ := fun ns => by
    refine W_fn fun d ρ => exW_int.trans (W1_fn fun m => W_fn fun d ρ => exW_int)
  refine propext ⟨fun ⟨ns, h, r⟩ => ?_, fun h => ?_⟩
  · subst h
    refine ⟨rfl, ?_⟩
    rw [inner] at r
    show W1 (intsD (ns.map PyData.int)) _
    rw [intsD_map]
    exact r
  · cases e with
    | own fr ce =>
      cases ce with
      | lst ds =>
        obtain ⟨h1, h2⟩ := h
        obtain ⟨ns, e, _⟩ := h2.at_
        have := intsD_eq e
        subst this
        have h1 : fr = true := h1
        subst h1
        refine ⟨ns, rfl, ?_⟩
        rw [inner]
        have h2 : W1 (intsD (ns.map PyData.int)) (fun ns => W (b ρ) fun d ρ => W1 (intOf d) fun m => W (c ρ) fun d ρ => W1 (intOf d) fun t => S (.own true (.deck s ns m t)) ρ) := h2
        rw [intsD_map] at h2
        exact h2
      | _ => exact h.elim
    | _ => exact h.elim
end
/-! ### numbers -/
theorem log2_small {i : Int} {k : Nat} (h : i.natAbs < 2 ^ k) (hk : 0 < k) : i.natAbs.log2 < k := by
  by_cases z : i.natAbs = 0
  · rw [z, Nat.log2_zero]
    exact hk
  · exact (Nat.log2_lt z).mpr h
theorem mulC {i j : Int} (h : i.natAbs < 2 ^ 128) (h' : j.natAbs < 2 ^ 128) : gMulC i j = true := by
  unfold gMulC
  refine decide_eq_true ?_
  have a := log2_small h (by decide)
  have b := log2_small h' (by decide)
  omega
theorem divC {i j : Int} (h : 0 < j) (h' : j.natAbs < 2 ^ 128) : gDivC i j = true := by
  unfold gDivC
  have b := log2_small h' (by decide)
  simp only [Bool.and_eq_true, decide_eq_true_eq]
  exact ⟨h, by omega⟩
/-- a deck in order: as many draws at most -/
def DkOk (n : Nat) (l : List Int) (m t : Int) : Prop := 0 ≤ m ∧ m < 4294967296 ∧ 0 ≤ t ∧ t ≤ n ∧ l.length ≤ 63
theorem mulCi {i j : Int} (h0 : 0 ≤ i) (h1 : i < 2 ^ 120) (h2 : 0 ≤ j) (h3 : j < 2 ^ 120) : gMulC i j = true := mulC (by omega) (by omega)
theorem divCi {i j : Int} (h : 0 < j) (h' : j < 2 ^ 120) : gDivC i j = true := divC h (by omega)
theorem atI_mem {ds : List PyData} {r : Int} (h0 : 0 ≤ r) (h1 : r < ds.length) : ∃ d, L2.atI ds r = some d ∧ d ∈ ds ∧ ds[r.toNat]? = some d := by
  have hr : r.toNat < ds.length := by omega
  refine ⟨ds[r.toNat], ?_, List.getElem_mem hr, List.getElem?_eq_getElem hr⟩
  unfold L2.atI L2.ixN
  rw [if_pos h0, if_pos h1]
  exact List.getElem?_eq_getElem hr
theorem dk_end {s n : Nat} {l : List Int} {m t : Int} {below x : Int} (hb : 0 < below) (h : DkOk (n + 1) l m t) : ∃ (r : Int) (l' : List Int) (m' t' : Int) (o : List Ent), Ent.val (PyData.int (x % below)) = Ent.val (PyData.int r) ∧ 0 ≤ r ∧ r < below ∧ [Ent.own false (Cell.deck s l m t), Ent.no] = Ent.own false (Cell.deck s l' m' t') :: o ∧ DkOk (n + 1) l' m' t' :=
  ⟨_, _, _, _, _, rfl, Int.emod_nonneg _ (by omega), Int.emod_lt_of_pos _ hb, rfl, h⟩
/-- what a draw does -/
def DrawS (s : Nat) (f : MF) : Prop := ∀ (n : Nat) (l : List Int) (m t below : Int), DkOk n l m t → n < 2 ^ 64 → 0 < below → below < 2 ^ 100 → W (f [.own false (.deck s l m t), .val (.int below)]) fun e outs => ∃ r l' m' t' o, e = .val (.int r) ∧ 0 ≤ r ∧ r < below ∧ outs = .own false (.deck s l' m' t') :: o ∧ DkOk (n + 1) l' m' t'
/-- what a pick does -/
def PickS (s : Nat) (f : MF) : Prop := ∀ (n : Nat) (l : List Int) (m t : Int) (ds : List PyData), DkOk n l m t → n < 2 ^ 64 → ds ≠ [] → ds.length ≤ 100000 → W (f [.own false (.deck s l m t), .val (.list ds)]) fun e outs => ∃ d l' m' t' o, d ∈ ds ∧ e = .val d ∧ outs = .own false (.deck s l' m' t') :: o ∧ DkOk (n + 1) l' m' t'
theorem cut63 {xs : List PyData} (h : xs.length ≤ 63) : cutD xs none (some 63) = xs := by
  unfold cutD HT.sIx
  simp only [List.drop_zero]
  refine List.take_of_length_le ?_
  simp
  omega
/-- the deck of a script -/
def DeckS (s : Nat) (f : MF) : Prop := ∀ ns : List Int, ns.length ≤ 63 → W (f [.scr ns]) fun e _ => ∃ l m t, e = .own true (.deck s l m t) ∧ DkOk 0 l m t
/-- texts of rows of numbers -/
theorem shown_ints {ns : List Int} (h : ∀ i ∈ ns, i.natAbs < 10 ^ 12) (hl : ns.length ≤ 1000) : (PyData.tuple (ns.map .int)).showable = true ∧ SeqAt.shaped (.tuple (ns.map .int)) = true ∧ (PyData.tuple (ns.map .int)).shown.length ≤ 100000 := by
  have h1 : ∀ ns : List Int, (∀ i ∈ ns, i.natAbs < 10 ^ 12) → PyData.showableAll (ns.map .int) = true ∧ PyData.leavesShortAll 13 (ns.map .int) = true ∧ PyData.bulkAll (ns.map .int) = ns.length := by
    intro ns
    induction ns with
    | nil => exact fun _ => ⟨rfl, rfl, rfl⟩
    | cons i ns ih =>
      intro h
      obtain ⟨a, b, c⟩ := ih fun j hj => h j (List.mem_cons_of_mem _ hj)
      have hi := h i (List.mem_cons_self ..)
      have hl : i.natAbs.log2 < 1920 := log2_small (Nat.lt_of_lt_of_le hi (Nat.le_trans (by decide : (10:Nat) ^ 12 ≤ 2 ^ 128) (Nat.pow_le_pow_right (by decide) (by decide)))) (by decide)
      refine ⟨?_, ?_, ?_⟩
      · rw [List.map_cons]
        unfold PyData.showableAll
        rw [a, Bool.and_true]
        unfold PyData.showable
        exact decide_eq_true hl
      · rw [List.map_cons]
        unfold PyData.leavesShortAll
        rw [b, Bool.and_true]
        unfold PyData.leavesShort
        exact decide_eq_true (PyData.shown_int_le hi)
      · rw [List.map_cons]
        unfold PyData.bulkAll
        rw [c, List.length_cons]
        simp only [PyData.bulk]
        omega
  obtain ⟨a, b, c⟩ := h1 ns h
  refine ⟨by unfold PyData.showable; exact a, ?_, ?_⟩
  · unfold SeqAt.shaped
    rw [show PyData.canLay0 (.tuple (ns.map .int)) = true from by unfold PyData.canLay0; exact canLay_ints ns]
    rw [show PyData.depth (.tuple (ns.map .int)) = 1 from by unfold PyData.depth; rw [depth_ints]]
    rfl
  · have := PyData.shown_le_bulk 13 (by decide) (.tuple (ns.map .int)) (by unfold PyData.leavesShort; exact b)
    have e : PyData.bulk (.tuple (ns.map .int)) = ns.length := by unfold PyData.bulk; exact c
    rw [e] at this
    omega
theorem g_repr {S : Ent → Prop} {d : PyData} (h : d.showable = true ∧ SeqAt.shaped d = true ∧ d.shown.length ≤ 100000) : W1 (gRepr [d]) S = S (.val (.str d.shown)) := by
  unfold gRepr
  simp only [h.1, h.2.1, h.2.2, decide_true, Bool.and_self, if_true]
  rfl
end Fj

set_option Elab.async false
set_option linter.all false
set_option maxRecDepth 100000
set_option maxHeartbeats 4000000
set_option autoImplicit false
/-! More of what mirrors say. -/
namespace Fj
open PySem PySem.Spec PyProof.Rows L2

theorem kt_NoneType_int : kitB "NoneType" "int" = some false := by decide +kernel
theorem kt_NoneType_bool : kitB "NoneType" "bool" = some false := by decide +kernel
theorem kt_NoneType_str : kitB "NoneType" "str" = some false := by decide +kernel
theorem kt_NoneType_list : kitB "NoneType" "list" = some false := by decide +kernel
theorem kt_NoneType_tuple : kitB "NoneType" "tuple" = some false := by decide +kernel
theorem kt_NoneType_dict : kitB "NoneType" "dict" = some false := by decide +kernel
theorem kt_bool_int : kitB "bool" "int" = some true := by decide +kernel
theorem kt_bool_bool : kitB "bool" "bool" = some true := by decide +kernel
theorem kt_bool_str : kitB "bool" "str" = some false := by decide +kernel
theorem kt_bool_list : kitB "bool" "list" = some false := by decide +kernel
theorem kt_bool_tuple : kitB "bool" "tuple" = some false := by decide +kernel
theorem kt_bool_dict : kitB "bool" "dict" = some false := by decide +kernel
theorem kt_int_int : kitB "int" "int" = some true := by decide +kernel
theorem kt_int_bool : kitB "int" "bool" = some false := by decide +kernel
theorem kt_int_str : kitB "int" "str" = some false := by decide +kernel
theorem kt_int_list : kitB "int" "list" = some false := by decide +kernel
theorem kt_int_tuple : kitB "int" "tuple" = some false := by decide +kernel
theorem kt_int_dict : kitB "int" "dict" = some false := by decide +kernel
theorem kt_str_int : kitB "str" "int" = some false := by decide +kernel
theorem kt_str_bool : kitB "str" "bool" = some false := by decide +kernel
theorem kt_str_str : kitB "str" "str" = some true := by decide +kernel
theorem kt_str_list : kitB "str" "list" = some false := by decide +kernel
theorem kt_str_tuple : kitB "str" "tuple" = some false := by decide +kernel
theorem kt_str_dict : kitB "str" "dict" = some false := by decide +kernel
theorem kt_list_int : kitB "list" "int" = some false := by decide +kernel
theorem kt_list_bool : kitB "list" "bool" = some false := by decide +kernel
theorem kt_list_str : kitB "list" "str" = some false := by decide +kernel
theorem kt_list_list : kitB "list" "list" = some true := by decide +kernel
theorem kt_list_tuple : kitB "list" "tuple" = some false := by decide +kernel
theorem kt_list_dict : kitB "list" "dict" = some false := by decide +kernel
theorem kt_tuple_int : kitB "tuple" "int" = some false := by decide +kernel
theorem kt_tuple_bool : kitB "tuple" "bool" = some false := by decide +kernel
theorem kt_tuple_str : kitB "tuple" "str" = some false := by decide +kernel
theorem kt_tuple_list : kitB "tuple" "list" = some false := by decide +kernel
theorem kt_tuple_tuple : kitB "tuple" "tuple" = some true := by decide +kernel
theorem kt_tuple_dict : kitB "tuple" "dict" = some false := by decide +kernel
theorem kt_dict_int : kitB "dict" "int" = some false := by decide +kernel
theorem kt_dict_bool : kitB "dict" "bool" = some false := by decide +kernel
theorem kt_dict_str : kitB "dict" "str" = some false := by decide +kernel
theorem kt_dict_list : kitB "dict" "list" = some false := by decide +kernel
theorem kt_dict_tuple : kitB "dict" "tuple" = some false := by decide +kernel
theorem kt_dict_dict : kitB "dict" "dict" = some true := by decide +kernel
section
variable {ρ : En} {Q : PyData → Prop} {S : Ent → Prop} {i j : Int}
theorem w_lcNil {g : MG} {t : MT} {m : MV} {vs : List Nat} {acc : List PyData} {A : List PyData → En → Prop} : W (lcL g t m vs [] acc ρ) A = A acc ρ := rfl
theorem w_lcCons {g : MG} {t : MT} {m : MV} {vs : List Nat} {d : PyData} {ds acc : List PyData} {A : List PyData → En → Prop} : W (lcL g t m vs (d :: ds) acc ρ) A = W1 (g d ρ) fun ρ => W (t ρ) fun b ρ =>
    IfB b (W (m ρ) fun y ρ => (acc.length < 100000 ∧ vs.all (freeE ρ) = true) ∧ W (lcL g t m vs ds (acc ++ [y]) (wipeE ρ vs)) A) (vs.all (freeE ρ) = true ∧ W (lcL g t m vs ds acc (wipeE ρ vs)) A) := by
  show W (match g d ρ with
      | none => none
      | some ρ => match t ρ with
        | none => none
        | some (false, ρ) => if vs.all (freeE ρ) = true then lcL g t m vs ds acc (wipeE ρ vs) else none
        | some (true, ρ) => match m ρ with
          | none => none
          | some (y, ρ) => if acc.length < 100000 ∧ vs.all (freeE ρ) = true then lcL g t m vs ds (acc ++ [y]) (wipeE ρ vs) else none) A = _
  cases g d ρ with
  | none => rfl
  | some ρ1 =>
    simp only [W1_some]
    cases t ρ1 with
    | none => rfl
    | some z =>
      obtain ⟨b, ρ2⟩ := z
      simp only [W_some]
      cases b with
      | false =>
        refine Eq.trans ?_ (eq_f _ _)
        simp only [W_ite, W_none]
        by_cases h : vs.all (freeE ρ2) = true
        · simp [h]
        · simp [h]
      | true =>
        refine Eq.trans ?_ (eq_t _ _)
        simp only
        cases m ρ2 with
        | none => rfl
        | some z =>
          obtain ⟨y, ρ3⟩ := z
          simp only [W_some, W_ite, W_none]
          by_cases h : acc.length < 100000 ∧ vs.all (freeE ρ3) = true
          · simp [h]
          · simp only [h, false_and, not_false_eq_true, false_implies, true_implies, and_false]
theorem g_all {ds : List PyData} : W1 (gAll [.list ds]) S = W1 (boolsD ds) fun bs => S (.val (.bool (bs.all id))) := by
  unfold gAll
  simp only
  cases boolsD ds <;> rfl
theorem g_any {ds : List PyData} : W1 (gAny [.list ds]) S = W1 (boolsD ds) fun bs => S (.val (.bool (bs.any id))) := by
  unfold gAny
  simp only
  cases boolsD ds <;> rfl
theorem g_sum {ds : List PyData} : W1 (gSum [.list ds]) S = W1 (intsD ds) fun bs => S (.val (.int bs.sum)) := by
  unfold gSum
  simp only
  cases intsD ds <;> rfl
theorem g_bools0 {R : List Bool → Prop} : W1 (boolsD []) R = R [] := rfl
theorem g_bools1 {b : Bool} {ds : List PyData} {R : List Bool → Prop} : W1 (boolsD (.bool b :: ds)) R = W1 (boolsD ds) fun bs => R (b :: bs) := by
  show W1 ((boolsD ds).map fun l => b :: l) R = _
  cases boolsD ds <;> rfl
theorem g_ltT {xs ys : List PyData} : W1 (gLt (.tuple xs) (.tuple ys)) Q = W1 (intsD xs) fun ns => W1 (intsD ys) fun ms => Q (.bool (HT.lexLt ns ms)) := by
  unfold gLt gB gLtS gLtT
  simp only [Option.none_or]
  cases intsD xs with
  | none => rfl
  | some ns =>
    simp only [W1_some]
    cases intsD ys <;> rfl
theorem g_ints0 {R : List Int → Prop} : W1 (intsD []) R = R [] := rfl
theorem g_ints1 {i : Int} {ds : List PyData} {R : List Int → Prop} : W1 (intsD (.int i :: ds)) R = W1 (intsD ds) fun bs => R (i :: bs) := by
  show W1 ((intsD ds).map fun l => i :: l) R = _
  cases intsD ds <;> rfl
theorem g_intsM {ns : List Int} {R : List Int → Prop} : W1 (intsD (ns.map .int)) R = R ns := by
  rw [intsD_map]
  rfl
theorem g_slT {ds : List PyData} {lo hi : Option Int} : W1 (gSl (.tuple ds) lo hi) S = S (.val (.tuple (cutD ds lo hi))) := rfl
theorem g_slL {ds : List PyData} {lo hi : Option Int} : W1 (gSl (.list ds) lo hi) S = S (.own true (.lst (cutD ds lo hi))) := rfl
theorem g_isTrue {b : Bool} : W1 (gIs (.bool b) (.bool true)) Q = Q (.bool b) := by
  cases b <;> rfl
theorem g_notTrue {b : Bool} : W1 (gNot (.bool b) (.bool true)) Q = Q (.bool (!b)) := by
  cases b <;> rfl
theorem g_isNone {d : PyData} : W1 (gIs d .none) Q = Q (.bool (isND d)) := by
  cases d <;> rfl
theorem g_notNone {d : PyData} : W1 (gNot d .none) Q = Q (.bool (!isND d)) := by
  cases d <;> rfl
theorem W_eq {α β : Type} {r : Option (α × β)} {a : α} {b : β} (h : W r fun x y => x = a ∧ y = b) : r = some (a, b) := by
  obtain ⟨x, y, e, rfl, rfl⟩ := h.at_
  exact e
theorem at_lit {ds : List PyData} {k : Nat} : L2.atI ds (@OfNat.ofNat Int k instOfNat) = ds[k]? := by
  show L2.atI ds ((k : Nat) : Int) = ds[k]?
  unfold L2.atI L2.ixN
  rw [if_pos (Int.natCast_nonneg k)]
  by_cases h : k < ds.length
  · rw [if_pos (by omega)]
    rfl
  · rw [if_neg (by omega), List.getElem?_eq_none (by omega)]
    rfl
theorem at_0 {x0 : PyData} {l : List PyData} : L2.atI (x0 :: l) 0 = some x0 := @at_lit (x0 :: l) 0
theorem at_1 {x0 x1 : PyData} {l : List PyData} : L2.atI (x0 :: x1 :: l) 1 = some x1 := @at_lit (x0 :: x1 :: l) 1
theorem at_2 {x0 x1 x2 : PyData} {l : List PyData} : L2.atI (x0 :: x1 :: x2 :: l) 2 = some x2 := @at_lit (x0 :: x1 :: x2 :: l) 2
theorem at_3 {x0 x1 x2 x3 : PyData} {l : List PyData} : L2.atI (x0 :: x1 :: x2 :: x3 :: l) 3 = some x3 := @at_lit (x0 :: x1 :: x2 :: x3 :: l) 3
theorem at_4 {x0 x1 x2 x3 x4 : PyData} {l : List PyData} : L2.atI (x0 :: x1 :: x2 :: x3 :: x4 :: l) 4 = some x4 := @at_lit (x0 :: x1 :: x2 :: x3 :: x4 :: l) 4
theorem at_5 {x0 x1 x2 x3 x4 x5 : PyData} {l : List PyData} : L2.atI (x0 :: x1 :: x2 :: x3 :: x4 :: x5 :: l) 5 = some x5 := @at_lit (x0 :: x1 :: x2 :: x3 :: x4 :: x5 :: l) 5
theorem at_6 {x0 x1 x2 x3 x4 x5 x6 : PyData} {l : List PyData} : L2.atI (x0 :: x1 :: x2 :: x3 :: x4 :: x5 :: x6 :: l) 6 = some x6 := @at_lit (x0 :: x1 :: x2 :: x3 :: x4 :: x5 :: x6 :: l) 6
theorem at_7 {x0 x1 x2 x3 x4 x5 x6 x7 : PyData} {l : List PyData} : L2.atI (x0 :: x1 :: x2 :: x3 :: x4 :: x5 :: x6 :: x7 :: l) 7 = some x7 := @at_lit (x0 :: x1 :: x2 :: x3 :: x4 :: x5 :: x6 :: x7 :: l) 7
theorem at_8 {x0 x1 x2 x3 x4 x5 x6 x7 x8 : PyData} {l : List PyData} : L2.atI (x0 :: x1 :: x2 :: x3 :: x4 :: x5 :: x6 :: x7 :: x8 :: l) 8 = some x8 := @at_lit (x0 :: x1 :: x2 :: x3 :: x4 :: x5 :: x6 :: x7 :: x8 :: l) 8
theorem at_9 {x0 x1 x2 x3 x4 x5 x6 x7 x8 x9 : PyData} {l : List PyData} : L2.atI (x0 :: x1 :: x2 :: x3 :: x4 :: x5 :: x6 :: x7 :: x8 :: x9 :: l) 9 = some x9 := @at_lit (x0 :: x1 :: x2 :: x3 :: x4 :: x5 :: x6 :: x7 :: x8 :: x9 :: l) 9
theorem nc_0 : ((0 : Nat) : Int) = 0 := rfl
theorem nc_1 : ((1 : Nat) : Int) = 1 := rfl
theorem nc_2 : ((2 : Nat) : Int) = 2 := rfl
theorem nc_3 : ((3 : Nat) : Int) = 3 := rfl
theorem nc_4 : ((4 : Nat) : Int) = 4 := rfl
theorem nc_5 : ((5 : Nat) : Int) = 5 := rfl
theorem nc_6 : ((6 : Nat) : Int) = 6 := rfl
theorem nc_7 : ((7 : Nat) : Int) = 7 := rfl
theorem nc_8 : ((8 : Nat) : Int) = 8 := rfl
theorem nc_9 : ((9 : Nat) : Int) = 9 := rfl
theorem nc_10 : ((10 : Nat) : Int) = 10 := rfl
theorem nc_11 : ((11 : Nat) : Int) = 11 := rfl
theorem nc_12 : ((12 : Nat) : Int) = 12 := rfl
theorem nc_13 : ((13 : Nat) : Int) = 13 := rfl
theorem nc_14 : ((14 : Nat) : Int) = 14 := rfl
theorem nc_15 : ((15 : Nat) : Int) = 15 := rfl
theorem nc_16 : ((16 : Nat) : Int) = 16 := rfl
theorem nc_17 : ((17 : Nat) : Int) = 17 := rfl
theorem nc_18 : ((18 : Nat) : Int) = 18 := rfl
theorem nc_19 : ((19 : Nat) : Int) = 19 := rfl
theorem nc_20 : ((20 : Nat) : Int) = 20 := rfl
theorem DkOk.mono {n n' : Nat} {l : List Int} {m t : Int} (h : DkOk n l m t) (hn : n ≤ n') : DkOk n' l m t := ⟨h.1, h.2.1, h.2.2.1, by have := h.2.2.2.1; omega, h.2.2.2.2⟩
theorem rng_len (lo : Int) (n : Nat) : (rngD lo n).length = n := by
  unfold rngD
  rw [List.length_map, List.length_range]
theorem rng_zero (lo : Int) : rngD lo 0 = [] := rfl
theorem rng_succ (lo : Int) (n : Nat) : rngD lo (n + 1) = .int lo :: rngD (lo + 1) n := by
  unfold rngD
  rw [List.range_succ_eq_map, List.map_cons, List.map_map]
  congr 1
  · show PyData.int (lo + ((0 : Nat) : Int)) = _
    rw [Int.natCast_zero, Int.add_zero]
  · refine List.map_congr_left fun i _ => ?_
    show PyData.int (lo + ((i + 1 : Nat) : Int)) = PyData.int (lo + 1 + (i : Int))
    congr 1
    omega
end
theorem eb_no  : borS .no = .no := rfl
theorem ev_no  : valS .no = .no := rfl
theorem ed_no  : isDk .no = false := rfl
theorem ef_no  {k : Bool} : dkFit k .no = true := rfl
theorem em_no  {x : Ent} : merS .no x = .no := rfl
theorem ek_no  : keepS .no = .no := rfl
theorem eo_no  {x : Ent} : outE .no x = .no := rfl
theorem eb_val {d : PyData} : borS (.val d) = .val d := rfl
theorem ev_val {d : PyData} : valS (.val d) = .val d := rfl
theorem ed_val {d : PyData} : isDk (.val d) = false := rfl
theorem ef_val {d : PyData} {k : Bool} : dkFit k (.val d) = true := rfl
theorem em_val {d : PyData} {x : Ent} : merS (.val d) x = (.val d) := rfl
theorem ek_val {d : PyData} : keepS (.val d) = (.val d) := rfl
theorem eo_val {d : PyData} {x : Ent} : outE (.val d) x = .no := rfl
theorem eb_lst {fr : Bool} {ds : List PyData} : borS (.own fr (.lst ds)) = .val (.list ds) := rfl
theorem ev_lst {fr : Bool} {ds : List PyData} : valS (.own fr (.lst ds)) = .no := rfl
theorem ed_lst {fr : Bool} {ds : List PyData} : isDk (.own fr (.lst ds)) = false := rfl
theorem ef_lst {fr : Bool} {ds : List PyData} {k : Bool} : dkFit k (.own fr (.lst ds)) = true := rfl
theorem em_lst {fr : Bool} {ds : List PyData} {x : Ent} : merS (.own fr (.lst ds)) x = (.own fr (.lst ds)) := rfl
theorem ek_lst {fr : Bool} {ds : List PyData} : keepS (.own fr (.lst ds)) = (.own fr (.lst ds)) := rfl
theorem eb_dk {fr : Bool} {s : Nat} {l : List Int} {m t : Int} : borS (.own fr (.deck s l m t)) = .own false (.deck s l m t) := rfl
theorem ev_dk {fr : Bool} {s : Nat} {l : List Int} {m t : Int} : valS (.own fr (.deck s l m t)) = .no := rfl
theorem ed_dk {fr : Bool} {s : Nat} {l : List Int} {m t : Int} : isDk (.own fr (.deck s l m t)) = true := rfl
theorem ef_dk {fr : Bool} {s : Nat} {l : List Int} {m t : Int} {k : Bool} : dkFit k (.own fr (.deck s l m t)) = (fr == k) := rfl
theorem eb_scr {ns : List Int} : borS (.scr ns) = .no := rfl
theorem ev_scr {ns : List Int} : valS (.scr ns) = .no := rfl
theorem ed_scr {ns : List Int} : isDk (.scr ns) = false := rfl
theorem ef_scr {ns : List Int} {k : Bool} : dkFit k (.scr ns) = true := rfl
theorem em_scr {ns : List Int} {x : Ent} : merS (.scr ns) x = (.scr ns) := rfl
theorem ek_scr {ns : List Int} : keepS (.scr ns) = (.scr ns) := rfl
theorem eo_scr {ns : List Int} {x : Ent} : outE (.scr ns) x = .no := rfl
theorem eb_lent  : borS .lent = .no := rfl
theorem ev_lent  : valS .lent = .no := rfl
theorem ed_lent  : isDk .lent = false := rfl
theorem ef_lent  {k : Bool} : dkFit k .lent = true := rfl
theorem em_lent  {x : Ent} : merS .lent x = .lent := rfl
theorem ek_lent  : keepS .lent = .lent := rfl
theorem eo_lent  {x : Ent} : outE .lent x = .no := rfl
theorem em_dk {fr fr2 : Bool} {s s2 : Nat} {l l2 : List Int} {m t m2 t2 : Int} : merS (.own fr (.deck s l m t)) (.own fr2 (.deck s2 l2 m2 t2)) = .own fr (.deck s2 l2 m2 t2) := rfl
theorem eo_own {fr fr2 : Bool} {c c2 : Cell} : outE (.own fr c) (.own fr2 c2) = .own fr2 c2 := rfl
theorem er_val {d : PyData} : resE (.val d) = true := rfl
theorem er_own {c : Cell} : resE (.own true c) = true := rfl
theorem ez_val {d : PyData} : fz (.val d) = some d := rfl
theorem ez_own {ds : List PyData} : fz (.own true (.lst ds)) = some (.list ds) := rfl
theorem en_val {d : PyData} : nlE (.val d) = nlD d := rfl
theorem en_own {ds : List PyData} : nlE (.own true (.lst ds)) = nlAll ds := rfl
theorem bq_tt : (true == true) = true := rfl
theorem bq_tf : (true == false) = false := rfl
theorem bq_ft : (false == true) = false := rfl
theorem bq_ff : (false == false) = true := rfl
theorem frz_t {ρ : En} {i : Nat} {ds : List PyData} (h : ρ[i]? = some (.own true (.lst ds))) : frz i ρ = ρ.set i (.val (.list ds)) := by
  unfold frz
  rw [h]
theorem cut_take {xs : List PyData} (k : Nat) (h : k ≤ xs.length) : cutD xs none (some (k : Int)) = xs.take k := by
  have e1 : HT.sIx xs.length 0 none = 0 := rfl
  have e2 : HT.sIx xs.length xs.length (some (k : Int)) = k := by
    unfold HT.sIx
    simp only
    rw [if_neg (by omega), Int.toNat_natCast]
    omega
  unfold cutD
  rw [e1, e2]
  rfl
theorem cut_drop {xs : List PyData} (k : Nat) (h : k ≤ xs.length) : cutD xs (some (k : Int)) none = xs.drop k := by
  have e1 : HT.sIx xs.length xs.length none = xs.length := rfl
  have e2 : HT.sIx xs.length 0 (some (k : Int)) = k := by
    unfold HT.sIx
    simp only
    rw [if_neg (by omega), Int.toNat_natCast]
    omega
  unfold cutD
  rw [e1, e2]
  exact List.take_of_length_le (by rw [List.length_drop]; exact Nat.le_refl _)
theorem cT_1 {x0 : PyData} {l : List PyData} : cutD (x0 :: l) none (some 1) = [x0] := cut_take 1 (by simp)
theorem cD_1 {x0 : PyData} {l : List PyData} : cutD (x0 :: l) (some 1) none = l := cut_drop 1 (by simp)
theorem cT_2 {x0 x1 : PyData} {l : List PyData} : cutD (x0 :: x1 :: l) none (some 2) = [x0, x1] := cut_take 2 (by simp)
theorem cD_2 {x0 x1 : PyData} {l : List PyData} : cutD (x0 :: x1 :: l) (some 2) none = l := cut_drop 2 (by simp)
theorem cT_3 {x0 x1 x2 : PyData} {l : List PyData} : cutD (x0 :: x1 :: x2 :: l) none (some 3) = [x0, x1, x2] := cut_take 3 (by simp)
theorem cD_3 {x0 x1 x2 : PyData} {l : List PyData} : cutD (x0 :: x1 :: x2 :: l) (some 3) none = l := cut_drop 3 (by simp)
theorem cT_4 {x0 x1 x2 x3 : PyData} {l : List PyData} : cutD (x0 :: x1 :: x2 :: x3 :: l) none (some 4) = [x0, x1, x2, x3] := cut_take 4 (by simp)
theorem cD_4 {x0 x1 x2 x3 : PyData} {l : List PyData} : cutD (x0 :: x1 :: x2 :: x3 :: l) (some 4) none = l := cut_drop 4 (by simp)
theorem cT_5 {x0 x1 x2 x3 x4 : PyData} {l : List PyData} : cutD (x0 :: x1 :: x2 :: x3 :: x4 :: l) none (some 5) = [x0, x1, x2, x3, x4] := cut_take 5 (by simp)
theorem cD_5 {x0 x1 x2 x3 x4 : PyData} {l : List PyData} : cutD (x0 :: x1 :: x2 :: x3 :: x4 :: l) (some 5) none = l := cut_drop 5 (by simp)
theorem cT_6 {x0 x1 x2 x3 x4 x5 : PyData} {l : List PyData} : cutD (x0 :: x1 :: x2 :: x3 :: x4 :: x5 :: l) none (some 6) = [x0, x1, x2, x3, x4, x5] := cut_take 6 (by simp)
theorem cD_6 {x0 x1 x2 x3 x4 x5 : PyData} {l : List PyData} : cutD (x0 :: x1 :: x2 :: x3 :: x4 :: x5 :: l) (some 6) none = l := cut_drop 6 (by simp)
theorem cT_7 {x0 x1 x2 x3 x4 x5 x6 : PyData} {l : List PyData} : cutD (x0 :: x1 :: x2 :: x3 :: x4 :: x5 :: x6 :: l) none (some 7) = [x0, x1, x2, x3, x4, x5, x6] := cut_take 7 (by simp)
theorem cD_7 {x0 x1 x2 x3 x4 x5 x6 : PyData} {l : List PyData} : cutD (x0 :: x1 :: x2 :: x3 :: x4 :: x5 :: x6 :: l) (some 7) none = l := cut_drop 7 (by simp)
/-- an entry that is no cell -/
def Pl (e : Ent) : Prop := e = .no ∨ ∃ d, e = .val d
theorem Pl.no : Pl .no := .inl rfl
theorem Pl.val {d : PyData} : Pl (.val d) := .inr ⟨d, rfl⟩
theorem Pl.bor {e : Ent} (h : Pl e) : borS e = e := by
  rcases h with rfl | ⟨d, rfl⟩ <;> rfl
theorem Pl.fit {e : Ent} (h : Pl e) {fr : Bool} : dkFit fr e = true := by
  rcases h with rfl | ⟨d, rfl⟩ <;> rfl
theorem Pl.dk {e : Ent} (h : Pl e) : isDk e = false := by
  rcases h with rfl | ⟨d, rfl⟩ <;> rfl
theorem Pl.mer {e x : Ent} (h : Pl e) : merS e x = e := by
  rcases h with rfl | ⟨d, rfl⟩ <;> rfl
theorem Pl.pin {e : Ent} (h : Pl e) : pinE e = false := by
  rcases h with rfl | ⟨d, rfl⟩ <;> rfl
theorem Pl.vs {e : Ent} (h : Pl e) : valS e = e := by
  rcases h with rfl | ⟨d, rfl⟩ <;> rfl
theorem lex5 {a b c d e a' b' c' d' e' : Int} : HT.lexLt [a, b, c, d, e] [a', b', c', d', e'] = decide (a < a' ∨ a = a' ∧ (b < b' ∨ b = b' ∧ (c < c' ∨ c = c' ∧ (d < d' ∨ d = d' ∧ e < e')))) := by
  simp only [HT.lexLt]
  repeat' split
  all_goals rw [Bool.eq_iff_iff]
  all_goals simp only [decide_eq_true_eq, Bool.false_eq_true, false_iff]
  all_goals omega
theorem enum_nil (n : Nat) : enumD n [] = [] := rfl
theorem enum_cons (n : Nat) (d : PyData) (ds : List PyData) : enumD n (d :: ds) = .tuple [.int n, d] :: enumD (n + 1) ds := rfl
end Fj

set_option Elab.async false
set_option linter.all false
set_option maxRecDepth 100000
set_option maxHeartbeats 4000000
set_option autoImplicit false
/-! More rules: several names, sorted, isinstance of two. -/
namespace Fj
open PySem PySem.Spec PyProof.Rows L2

section
variable {ρ : En} {Q : PyData → En → Prop} {S : Ent → En → Prop} {Z : Fl → Prop} {A : List PyData → En → Prop} {E : List Ent → En → Prop} {B : En → Prop}
theorem w_E0 : W (mE0 ρ) E = E [] ρ := rfl
theorem w_E1 {m : MO} {n : ME} : W (mE1 m n ρ) E = W (m ρ) fun e ρ => W (n ρ) fun es ρ => E (e :: es) ρ := by
  unfold mE1
  cases m ρ with
  | none => rfl
  | some p =>
    obtain ⟨e, ρ⟩ := p
    simp only [W_some]
    cases n ρ <;> rfl
theorem w_par {is : List Nat} {n : ME} : W1 (mPar is n ρ) Z = W (n ρ) fun es ρ => W1 (mPuts is es ρ) fun ρ => Z (.nx ρ) := by
  unfold mPar
  cases n ρ with
  | none => rfl
  | some p =>
    obtain ⟨es, ρ⟩ := p
    simp only [W_some]
    cases mPuts is es ρ <;> rfl
theorem w_puts0 : W1 (mPuts [] [] ρ) B = B ρ := rfl
theorem w_puts1 {i : Nat} {is : List Nat} {e : Ent} {es : List Ent} : W1 (mPuts (i :: is) (e :: es) ρ) B = (freeE ρ i = true ∧ W1 (mPuts is es (ρ.set i e)) B) := by
  show W1 (if freeE ρ i = true then mPuts is es (ρ.set i e) else none) B = _
  by_cases h : freeE ρ i = true
  · rw [if_pos h]
    exact propext ⟨fun z => ⟨h, z⟩, fun z => z.2⟩
  · rw [if_neg h]
    exact propext ⟨fun z => z.elim, fun z => absurd z.1 h⟩
theorem w_ss {m : MV} : W (mSS m ρ) S = W (m ρ) fun d ρ => W1 (listOf d) fun ds => W1 (tupsD ds) fun nss => tupsOk nss = true ∧ S (.own true (.lst ((isort HT.lexLt (dedup nss)).map tupI))) ρ := by
  unfold mSS
  cases m ρ with
  | none => rfl
  | some p =>
    obtain ⟨d, ρ⟩ := p
    cases d with
    | list ds =>
      simp only [W_some, listOf, W1_some]
      cases tupsD ds with
      | none => rfl
      | some nss =>
        simp only [W1_some]
        by_cases h : tupsOk nss = true
        · rw [if_pos h]
          exact propext ⟨fun z => ⟨h, z⟩, fun z => z.2⟩
        · rw [if_neg h]
          exact propext ⟨fun z => z.elim, fun z => absurd z.1 h⟩
    | _ => rfl
theorem w_tups {nss : List (List Int)} {R : List (List Int) → Prop} : W1 (tupsD (nss.map tupI)) R = R nss := by
  rw [tupsD_map]
  rfl
theorem g_sortI {ns : List Int} {R : Ent → Prop} : W1 (gSorted [.list (ns.map .int)]) R = R (.own true (.lst ((isort (fun i j => decide (i < j)) ns).map .int))) := by
  unfold gSorted gSortI
  simp only [intsD_map, Option.map_some]
  rfl
theorem g_sortT {nss : List (List Int)} (h : tupsOk nss = true) {R : Ent → Prop} : W1 (gSorted [.list (nss.map tupI)]) R = R (.own true (.lst ((isort HT.lexLt nss).map tupI))) := by
  cases nss with
  | nil => rfl
  | cons n nss =>
    have e : gSortI [.list ((n :: nss).map tupI)] = none := rfl
    unfold gSorted
    rw [e, Option.none_or]
    unfold gSortT
    simp only [tupsD_map, h, if_true]
    rfl
theorem g_sortP {nss : List (List Int)} (h : ∀ n ∈ nss, n.length = 2) {R : Ent → Prop} : W1 (gSorted [.list (nss.map tupI)]) R = R (.own true (.lst ((isort HT.lexLt nss).map tupI))) := by
  cases nss with
  | nil => rfl
  | cons n nss =>
    have e : gSortI [.list ((n :: nss).map tupI)] = none := rfl
    have e2 : ((n :: nss).all fun ns => ns.length == 2) = true := List.all_eq_true.mpr fun m hm => beq_iff_eq.mpr (h m hm)
    have e3 : gSortP [.list ((n :: nss).map tupI)] = some (.own true (.lst ((isort HT.lexLt (n :: nss)).map tupI))) := by
      unfold gSortP
      simp only [tupsD_map, e2, if_true]
    by_cases ok : tupsOk (n :: nss) = true
    · exact g_sortT ok
    · have e4 : gSortT [.list ((n :: nss).map tupI)] = none := by
        unfold gSortT
        simp only [tupsD_map, if_neg ok]
      unfold gSorted
      rw [e, Option.none_or, e4, Option.none_or, e3]
      rfl
theorem w_isi2 {T U : String} {m : MV} : W (mIsi2 T U m ρ) Q = W (m ρ) fun d ρ => W1 (kitB (tyN d) T) fun a => IfB a (Q (.bool true) ρ) (W1 (kitB (tyN d) U) fun b => Q (.bool b) ρ) := by
  unfold mIsi2
  cases m ρ with
  | none => rfl
  | some p =>
    obtain ⟨d, ρ⟩ := p
    simp only [W_some]
    cases kitB (tyN d) T with
    | none => rfl
    | some a =>
      simp only [W1_some]
      cases a with
      | true => exact eq_t _ _
      | false =>
        refine Eq.trans ?_ (eq_f _ _)
        simp only
        cases kitB (tyN d) U <;> rfl
def mvOf : Ent → Option (Ent × Bool)
  | .val d => some (.val d, false)
  | .own true ce => some (.own true ce, true)
  | _ => none
theorem mv_val {d : PyData} : mvOf (.val d) = some (.val d, false) := rfl
theorem mv_own {ce : Cell} : mvOf (.own true ce) = some (.own true ce, true) := rfl
theorem x_move {i : Nat} : W (mMove i ρ) S = W1 ρ[i]? fun e => W1 (mvOf e) fun q => S q.1 (if q.2 = true then ρ.set i .lent else ρ) := by
  rw [w_move]
  refine W1_fn fun e => ?_
  apply propext
  constructor
  · rintro (⟨d, rfl, h⟩ | ⟨ce, rfl, h⟩)
    · exact h
    · exact h
  · intro h
    cases e with
    | val d => exact .inl ⟨d, rfl, h⟩
    | own fr ce =>
      cases fr with
      | true => exact .inr ⟨ce, rfl, h⟩
      | false => exact h.elim
    | no => exact h.elim
    | scr ns => exact h.elim
    | lent => exact h.elim
def int3 : List PyData → Option (Int × Int × Int)
  | [.int i, .int j, .int k] => some (i, j, k)
  | _ => none
theorem int3_of {i j k : Int} : int3 [.int i, .int j, .int k] = some (i, j, k) := rfl
theorem w_r3 {n : MA} : W (mR3 n ρ) A = W (n ρ) fun ds ρ => W1 (int3 ds) fun q => R3ok q.1 q.2.1 q.2.2 ∧ A (rngCD q.1 q.2.2 (Builtin.Range.rangeSize q.1 q.2.1 q.2.2).toNat) ρ := by
  unfold mR3
  cases n ρ with
  | none => rfl
  | some p =>
    obtain ⟨ds, ρ⟩ := p
    simp only [W_some]
    apply propext
    constructor
    · intro h
      split at h
      · rename_i i j k _ hh
        cases hh
        split at h
        · rename_i hc
          exact ⟨hc, h⟩
        · exact h.elim
      · exact h.elim
    · intro h
      unfold int3 at h
      split at h
      · obtain ⟨hc, h⟩ := h
        simp only [if_pos hc]
        exact h
      · exact h.elim
def zip2 : List PyData → Option (List PyData)
  | [.list xs, .list ys] => some (zipD xs ys)
  | [.tuple xs, .tuple ys] => some (zipD xs ys)
  | _ => none
theorem zip2_L {xs ys : List PyData} : zip2 [.list xs, .list ys] = some (zipD xs ys) := rfl
theorem zip2_T {xs ys : List PyData} : zip2 [.tuple xs, .tuple ys] = some (zipD xs ys) := rfl
theorem w_zip {n : MA} : W (mZip n ρ) A = W (n ρ) fun ds ρ => W1 (zip2 ds) fun zs => A zs ρ := by
  unfold mZip
  cases n ρ with
  | none => rfl
  | some p =>
    obtain ⟨ds, ρ⟩ := p
    rcases ds with _ | ⟨d, _ | ⟨e, _ | ⟨f, r⟩⟩⟩
    · rfl
    · cases d <;> rfl
    · cases d <;> cases e <;> rfl
    · cases d <;> cases e <;> rfl
end
end Fj

set_option Elab.async false
set_option linter.all false
set_option maxRecDepth 100000
set_option maxHeartbeats 4000000
set_option autoImplicit false
/-! Data of all kinds: shape, text, likeness; comprehensions that keep their surroundings. -/
namespace Fj
open PySem PySem.Spec PyProof.Rows L2

/-- data of depth k, bulk w, with short leaves -/
structure Dat (k w : Nat) (d : PyData) : Prop where
  lay : PyData.canLay0 d = true
  dep : PyData.depth d ≤ k
  sho : PyData.showable d = true
  sht : PyData.leavesShort 13 d = true
  blk : PyData.bulk d ≤ w
structure DatL (k w : Nat) (ds : List PyData) : Prop where
  lay : PyData.canLayAll0 ds = true
  dep : PyData.depthAll ds ≤ k
  sho : PyData.showableAll ds = true
  sht : PyData.leavesShortAll 13 ds = true
  blk : PyData.bulkAll ds ≤ w
theorem Dat.mono {k w k' w' : Nat} {d : PyData} (h : Dat k w d) (hk : k ≤ k') (hw : w ≤ w') : Dat k' w' d := ⟨h.lay, Nat.le_trans h.dep hk, h.sho, h.sht, Nat.le_trans h.blk hw⟩
theorem DatL.mono {k w k' w' : Nat} {d : List PyData} (h : DatL k w d) (hk : k ≤ k') (hw : w ≤ w') : DatL k' w' d := ⟨h.lay, Nat.le_trans h.dep hk, h.sho, h.sht, Nat.le_trans h.blk hw⟩
theorem Dat.none {k w : Nat} : Dat k w .none := ⟨by simp [PyData.canLay0], by simp [PyData.depth], by simp [PyData.showable], by simp [PyData.leavesShort], by simp [PyData.bulk]⟩
theorem Dat.bool {k w : Nat} {b : Bool} : Dat k w (.bool b) := ⟨by simp [PyData.canLay0], by simp [PyData.depth], by simp [PyData.showable], by simp [PyData.leavesShort], by simp [PyData.bulk]⟩
theorem Dat.int {k w : Nat} {i : Int} (h : i.natAbs < 10 ^ 12) : Dat k w (.int i) := by
  have hl : i.natAbs.log2 < 1920 := log2_small (Nat.lt_of_lt_of_le h (Nat.le_trans (by decide : (10:Nat) ^ 12 ≤ 2 ^ 128) (Nat.pow_le_pow_right (by decide) (by decide)))) (by decide)
  refine ⟨by simp [PyData.canLay0], by simp [PyData.depth], ?_, ?_, by simp [PyData.bulk]⟩
  · unfold PyData.showable
    exact decide_eq_true hl
  · unfold PyData.leavesShort
    exact decide_eq_true (PyData.shown_int_le h)
theorem DatL.nil {k w : Nat} : DatL k w [] := ⟨by simp [PyData.canLayAll0], by simp [PyData.depthAll], by simp [PyData.showableAll], by simp [PyData.leavesShortAll], by simp [PyData.bulkAll]⟩
theorem DatL.cons {k a b : Nat} {d : PyData} {ds : List PyData} (h : Dat k a d) (t : DatL k b ds) : DatL k (a + 1 + b) (d :: ds) := by
  obtain ⟨h1, h2, h3, h4, h5⟩ := h
  obtain ⟨t1, t2, t3, t4, t5⟩ := t
  refine ⟨by unfold PyData.canLayAll0; rw [h1, t1]; rfl, by unfold PyData.depthAll; omega, by unfold PyData.showableAll; rw [h3, t3]; rfl, by unfold PyData.leavesShortAll; rw [h4, t4]; rfl, by unfold PyData.bulkAll; omega⟩
theorem DatL.of {k w : Nat} : ∀ {ds : List PyData}, (∀ d ∈ ds, Dat k w d) → DatL k ((w + 1) * ds.length) ds
  | [], _ => .nil
  | d :: ds, h => by
    have := DatL.cons (h d (List.mem_cons_self ..)) (DatL.of fun x hx => h x (List.mem_cons_of_mem _ hx))
    refine this.mono (Nat.le_refl _) ?_
    rw [List.length_cons, Nat.mul_add, Nat.mul_one]
    omega
theorem Dat.tup {k w : Nat} {ds : List PyData} (h : DatL k w ds) : Dat (k + 1) w (.tuple ds) :=
  ⟨by unfold PyData.canLay0; exact h.lay, by unfold PyData.depth; exact Nat.succ_le_succ h.dep, by unfold PyData.showable; exact h.sho, by unfold PyData.leavesShort; exact h.sht, by unfold PyData.bulk; exact h.blk⟩
theorem Dat.lst {k w : Nat} {ds : List PyData} (h : DatL k w ds) : Dat (k + 1) w (.list ds) :=
  ⟨by unfold PyData.canLay0; exact h.lay, by unfold PyData.depth; exact Nat.succ_le_succ h.dep, by unfold PyData.showable; exact h.sho, by unfold PyData.leavesShort; exact h.sht, by unfold PyData.bulk; exact h.blk⟩
theorem Dat.shaped {k w : Nat} {d : PyData} (h : Dat k w d) (hk : k ≤ 64) : SeqAt.shaped d = true := by
  unfold SeqAt.shaped
  rw [h.lay]
  exact decide_eq_true (Nat.le_trans h.dep hk)
theorem Dat.rep {k w : Nat} {d : PyData} (h : Dat k w d) (hk : k ≤ 64) (hw : w ≤ 6000) : d.showable = true ∧ SeqAt.shaped d = true ∧ d.shown.length ≤ 100000 := by
  refine ⟨h.sho, h.shaped hk, ?_⟩
  have := PyData.shown_le_bulk 13 (by decide) d h.sht
  have := h.blk
  omega
/-! likeness -/
mutual
def sim : PyData → Bool
  | .none => true
  | .int _ => true
  | .str _ => true
  | .list xs => simAll xs
  | .tuple xs => simAll xs
  | .bool _ => false
  | .dict _ => false
def simAll : List PyData → Bool
  | [] => true
  | x :: xs => sim x && simAll xs
end
mutual
theorem eqv_iff : ∀ x y : PyData, sim x = true → sim y = true → (PyData.eqv x y = true ↔ x = y)
  | .none, y, _, hy => by cases y <;> simp [PyData.eqv]
  | .int i, y, _, hy => by
    cases y with
    | bool b => simp [sim] at hy
    | _ => simp [PyData.eqv]
  | .str i, y, _, hy => by cases y <;> simp [PyData.eqv]
  | .list xs, y, hx, hy => by
    cases y with
    | list ys =>
      have := eqvAll_iff xs ys (by simpa [sim] using hx) (by simpa [sim] using hy)
      simpa [PyData.eqv] using this
    | _ => simp [PyData.eqv]
  | .tuple xs, y, hx, hy => by
    cases y with
    | tuple ys =>
      have := eqvAll_iff xs ys (by simpa [sim] using hx) (by simpa [sim] using hy)
      simpa [PyData.eqv] using this
    | _ => simp [PyData.eqv]
  | .bool b, y, hx, _ => by simp [sim] at hx
  | .dict b, y, hx, _ => by simp [sim] at hx
theorem eqvAll_iff : ∀ xs ys : List PyData, simAll xs = true → simAll ys = true → (PyData.eqvAll xs ys = true ↔ xs = ys)
  | [], [], _, _ => by simp [PyData.eqvAll]
  | [], y :: ys, _, _ => by simp [PyData.eqvAll]
  | x :: xs, [], _, _ => by simp [PyData.eqvAll]
  | x :: xs, y :: ys, hx, hy => by
    have hx' : sim x = true ∧ simAll xs = true := by simpa [simAll] using hx
    have hy' : sim y = true ∧ simAll ys = true := by simpa [simAll] using hy
    have h1 := eqv_iff x y hx'.1 hy'.1
    have h2 := eqvAll_iff xs ys hx'.2 hy'.2
    simp [PyData.eqvAll, h1, h2]
end
theorem simAll_of : ∀ {ds : List PyData}, (∀ d ∈ ds, sim d = true) → simAll ds = true
  | [], _ => by simp [simAll]
  | d :: ds, h => by
    unfold simAll
    rw [h d (List.mem_cons_self ..), simAll_of fun x hx => h x (List.mem_cons_of_mem _ hx)]
    rfl
theorem simAll_ints : ∀ ns : List Int, simAll (ns.map .int) = true
  | [] => by simp [simAll]
  | n :: ns => by
    rw [List.map_cons]
    unfold simAll
    rw [simAll_ints ns]
    simp [sim]
theorem g_eqD {xs ys : List PyData} {Q : PyData → Prop} (h1 : SeqAt.shaped (.tuple xs) = true) (h2 : SeqAt.shaped (.tuple ys) = true) (s1 : simAll xs = true) (s2 : simAll ys = true) {b : Bool} (hb : b = true ↔ xs = ys) : W1 (gEq (.tuple xs) (.tuple ys)) Q = Q (.bool b) := by
  unfold gEq gEqS gEqD
  simp only [Option.none_or]
  rw [h1, h2]
  simp only [Bool.and_self, if_true, W1_some]
  have e : PyData.eqv (.tuple xs) (.tuple ys) = b := by
    rw [Bool.eq_iff_iff, hb]
    have := eqvAll_iff xs ys s1 s2
    simpa [PyData.eqv] using this
  rw [e]
theorem g_neD {xs ys : List PyData} {Q : PyData → Prop} (h1 : SeqAt.shaped (.tuple xs) = true) (h2 : SeqAt.shaped (.tuple ys) = true) (s1 : simAll xs = true) (s2 : simAll ys = true) {b : Bool} (hb : b = true ↔ xs = ys) : W1 (gNe (.tuple xs) (.tuple ys)) Q = Q (.bool (!b)) := by
  unfold gNe gNeS gNeD
  simp only [Option.none_or]
  rw [h1, h2]
  simp only [Bool.and_self, if_true, W1_some]
  have e : PyData.eqv (.tuple xs) (.tuple ys) = b := by
    rw [Bool.eq_iff_iff, hb]
    have := eqvAll_iff xs ys s1 s2
    simpa [PyData.eqv] using this
  rw [e]
theorem shaped_bool {b : Bool} : SeqAt.shaped (.bool b) = true := (Dat.bool (k := 1) (w := 0)).shaped (by decide)
theorem eqv_bool {a b : Bool} : PyData.eqv (.bool a) (.bool b) = (a == b) := by simp [PyData.eqv]
theorem g_eqB {a b : Bool} {Q : PyData → Prop} : W1 (gEq (.bool a) (.bool b)) Q = Q (.bool (a == b)) := by
  unfold gEq gEqS gEqD
  simp only [Option.none_or]
  rw [shaped_bool, shaped_bool]
  simp only [Bool.and_self, if_true, W1_some, eqv_bool]
theorem g_neB {a b : Bool} {Q : PyData → Prop} : W1 (gNe (.bool a) (.bool b)) Q = Q (.bool (!(a == b))) := by
  unfold gNe gNeS gNeD
  simp only [Option.none_or]
  rw [shaped_bool, shaped_bool]
  simp only [Bool.and_self, if_true, W1_some, eqv_bool]
theorem boolsM : ∀ bs : List Bool, boolsD (bs.map .bool) = some bs
  | [] => rfl
  | b :: bs => by
    rw [List.map_cons]
    show (boolsD (bs.map .bool)).map (fun l => b :: l) = _
    rw [boolsM bs]
    rfl
theorem g_boolsM {bs : List Bool} {R : List Bool → Prop} : W1 (boolsD (bs.map .bool)) R = R bs := by
  rw [boolsM]
  rfl
theorem g_boolsF {α : Type} {f : α → Bool} {xs : List α} {R : List Bool → Prop} : W1 (boolsD (xs.map fun x => .bool (f x))) R = R (xs.map f) := by
  rw [show (xs.map fun x => PyData.bool (f x)) = (xs.map f).map .bool by rw [List.map_map]; rfl, boolsM]
  rfl
theorem eqvAll_nil : ∀ ds : List PyData, PyData.eqvAll ds [] = ds.isEmpty
  | [] => by simp [PyData.eqvAll]
  | d :: ds => by simp [PyData.eqvAll]
theorem shaped_nilT : SeqAt.shaped (.tuple []) = true := by decide
theorem g_eqNilT {ds : List PyData} {Q : PyData → Prop} : W1 (gEq (.tuple ds) (.tuple [])) Q = (SeqAt.shaped (.tuple ds) = true ∧ Q (.bool ds.isEmpty)) := by
  have e : PyData.eqv (.tuple ds) (.tuple []) = ds.isEmpty := by
    have := eqvAll_nil ds
    simpa [PyData.eqv] using this
  unfold gEq gEqS gEqD
  simp only [Option.none_or]
  rw [shaped_nilT, Bool.and_true, e]
  exact W1_if
theorem g_neNilT {ds : List PyData} {Q : PyData → Prop} : W1 (gNe (.tuple ds) (.tuple [])) Q = (SeqAt.shaped (.tuple ds) = true ∧ Q (.bool (!ds.isEmpty))) := by
  have e : PyData.eqv (.tuple ds) (.tuple []) = ds.isEmpty := by
    have := eqvAll_nil ds
    simpa [PyData.eqv] using this
  unfold gNe gNeS gNeD
  simp only [Option.none_or]
  rw [shaped_nilT, Bool.and_true, e]
  exact W1_if
theorem cut_1 (xs : List PyData) : cutD xs (some 1) none = xs.drop 1 := by
  cases xs with
  | nil => rfl
  | cons x xs => exact cD_1
theorem all_true {α : Type} (xs : List α) : (xs.map fun _ => true).all id = true := by
  induction xs with
  | nil => rfl
  | cons x xs ih => rw [List.map_cons, List.all_cons, ih]; rfl
theorem Dat.str {k : Nat} {x : Str} (h1 : PyData.canLay0 (.str x) = true) (h2 : x.cps.toList.all (fun c => decide (c < 16 ^ 8)) = true) : Dat k x.cps.size (.str x) :=
  ⟨h1, by simp [PyData.depth], by simp [PyData.showable], by unfold PyData.leavesShort; exact h2, by unfold PyData.bulk; exact Nat.le_refl _⟩
/-! comprehensions -/
/-- the items for which p tells f, the surroundings stay -/
theorem w_lcFil {α : Type} {g : MG} {t : MT} {m : MV} {vs : List Nat} {Q : List PyData → En → Prop} {ρ : En} (gd : α → PyData) (p : α → Bool) (f : α → PyData) {xs : List α}
    (h : ∀ x ∈ xs, W1 (g (gd x) ρ) fun ρ1 => W (t ρ1) fun b ρ2 => b = p x ∧ (b = true → W (m ρ2) fun y ρ3 => y = f x ∧ vs.all (freeE ρ3) = true ∧ wipeE ρ3 vs = ρ) ∧ (b = false → vs.all (freeE ρ2) = true ∧ wipeE ρ2 vs = ρ)) (hl : xs.length ≤ 100000) (q : Q ((xs.filter p).map f) ρ) : W (lcL g t m vs (xs.map gd) [] ρ) Q := by
  refine w_lcL (fun ds acc ρ' => ∃ done rest, xs = done ++ rest ∧ ds = rest.map gd ∧ acc = (done.filter p).map f ∧ ρ' = ρ) ?_ ?_ _ [] ρ ⟨[], xs, rfl, rfl, rfl, rfl⟩
  · intro d ds acc ρ' ⟨done, rest, e, e2, e3, e4⟩
    subst e3 e4
    cases rest with
    | nil => cases e2
    | cons x rest =>
      rw [List.map_cons] at e2
      injection e2 with e5 e6
      subst e5 e6
      have hx : x ∈ xs := by rw [e]; exact List.mem_append_right _ (List.mem_cons_self ..)
      refine (h x hx).mono fun ρ1 h1 => h1.mono fun b ρ2 h2 => ⟨fun hb => (h2.2.1 hb).mono fun y ρ3 h3 => ⟨?_, h3.2.1, done ++ [x], rest, by rw [e]; simp, rfl, ?_, h3.2.2⟩, fun hb => ⟨(h2.2.2 hb).1, done ++ [x], rest, by rw [e]; simp, rfl, ?_, (h2.2.2 hb).2⟩⟩
      · have := congrArg List.length e
        rw [List.length_append, List.length_cons] at this
        rw [List.length_map]
        have := List.length_filter_le p done
        omega
      · rw [h3.1, List.filter_append, List.map_append, List.filter_cons_of_pos (by rw [← h2.1]; exact hb)]
        rfl
      · rw [List.filter_append, List.filter_cons_of_neg (by rw [← h2.1, hb]; exact Bool.false_ne_true), List.filter_nil, List.append_nil]
  · intro acc ρ' ⟨done, rest, e, e2, e3, e4⟩
    have : rest = [] := List.map_eq_nil_iff.mp e2.symm
    subst this e3 e4
    rw [List.append_nil] at e
    rw [← e]
    exact q
/-- each item tells f, the surroundings stay -/
theorem w_lcMap {α : Type} {g : MG} {t : MT} {m : MV} {vs : List Nat} {Q : List PyData → En → Prop} {ρ : En} (gd : α → PyData) (f : α → PyData) {xs : List α}
    (h : ∀ x ∈ xs, W1 (g (gd x) ρ) fun ρ1 => W (t ρ1) fun b ρ2 => b = true ∧ W (m ρ2) fun y ρ3 => y = f x ∧ vs.all (freeE ρ3) = true ∧ wipeE ρ3 vs = ρ) (hl : xs.length ≤ 100000) (q : Q (xs.map f) ρ) : W (lcL g t m vs (xs.map gd) [] ρ) Q := by
  refine w_lcFil gd (fun _ => true) f (fun x hx => (h x hx).mono fun ρ1 h1 => h1.mono fun b ρ2 h2 => ⟨h2.1, fun _ => h2.2, fun z => ?_⟩) hl ?_
  · rw [h2.1] at z
    cases z
  · rw [List.filter_eq_self.mpr fun _ _ => rfl]
    exact q
theorem any_filter {α β : Type} (p : α → Bool) (f : α → β) (xs : List α) : (!((xs.filter p).map f).isEmpty) = xs.any p := by
  induction xs with
  | nil => rfl
  | cons x xs ih =>
    rw [List.any_cons]
    cases h : p x with
    | true => rw [List.filter_cons_of_pos h]; rfl
    | false => rw [List.filter_cons_of_neg (by rw [h]; exact Bool.false_ne_true), ih]; rfl
theorem rngD_map (lo : Int) (n : Nat) : rngD lo n = (List.range n).map fun (i : Nat) => PyData.int (lo + (i : Int)) := rfl
theorem cut_mid {xs : List PyData} {i k : Nat} (h1 : i ≤ k) (h2 : k ≤ xs.length) : cutD xs (some (i : Int)) (some (k : Int)) = (xs.drop i).take (k - i) := by
  have e1 : HT.sIx xs.length 0 (some (i : Int)) = i := by
    unfold HT.sIx
    simp only
    rw [if_neg (by omega), Int.toNat_natCast]
    omega
  have e2 : HT.sIx xs.length xs.length (some (k : Int)) = k := by
    unfold HT.sIx
    simp only
    rw [if_neg (by omega), Int.toNat_natCast]
    omega
  unfold cutD
  rw [e1, e2]
theorem any_false (bs : List Bool) : (!(bs.map PyData.bool).any fun z => PyData.eqv z (.bool false)) = bs.all id := by
  induction bs with
  | nil => rfl
  | cons b bs ih =>
    rw [List.map_cons, List.any_cons, eqv_bool, Bool.not_or, ih, List.all_cons]
    cases b <;> rfl
theorem shaped_bools (bs : List Bool) : SeqAt.shaped (.list (bs.map .bool)) = true :=
  (Dat.lst (DatL.of (k := 0) (w := 0) fun d hd => by
    obtain ⟨b, _, rfl⟩ := List.mem_map.mp hd
    exact .bool)).shaped (by decide)
theorem g_noFalse {bs : List Bool} {Q : PyData → Prop} : W1 (gNotInD (.bool false) (.list (bs.map .bool))) Q = Q (.bool (bs.all id)) := by
  unfold gNotInD
  simp only
  rw [shaped_bool, shaped_bools, any_false]
  rfl
theorem g_min1 {n : List Int} {ns : List (List Int)} {S : Ent → Prop} : W1 (gMin1 [.list ((n :: ns).map tupI)]) S = S (.val (tupI (minRow n ns))) := by
  unfold gMin1
  simp only [tupsD_map]
  rfl
end Fj

set_option Elab.async false
set_option linter.all false
set_option maxRecDepth 100000
set_option maxHeartbeats 4000000
set_option autoImplicit false
/-! The rules in bundles. -/
namespace Fj
open PySem PySem.Spec PyProof.Rows L2

theorem wp0 : type_of% @Fj.w_C ∧ type_of% @Fj.w_var ∧ type_of% @Fj.w_fz ∧ type_of% @Fj.w_val ∧ type_of% @Fj.w_bin ∧ type_of% @Fj.w_test ∧ type_of% @Fj.w_tnot ∧ type_of% @Fj.w_tand ∧ type_of% @Fj.w_tor ∧ type_of% @Fj.w_not ∧ type_of% @Fj.w_andV ∧ type_of% @Fj.w_orV ∧ type_of% @Fj.w_if ∧ type_of% @Fj.w_ifS ∧ type_of% @Fj.w_chain ∧ type_of% @Fj.w_nil := ⟨@Fj.w_C, @Fj.w_var, @Fj.w_fz, @Fj.w_val, @Fj.w_bin, @Fj.w_test, @Fj.w_tnot, @Fj.w_tand, @Fj.w_tor, @Fj.w_not, @Fj.w_andV, @Fj.w_orV, @Fj.w_if, @Fj.w_ifS, @Fj.w_chain, @Fj.w_nil⟩
theorem wp1 : type_of% @Fj.w_cons ∧ type_of% @Fj.w_tup ∧ type_of% @Fj.w_lst ∧ type_of% @Fj.x_cat ∧ type_of% @Fj.w_p0 ∧ type_of% @Fj.w_p1 ∧ type_of% @Fj.w_sl ∧ type_of% @Fj.w_rev ∧ type_of% @Fj.w_neg ∧ type_of% @Fj.w_scrSl ∧ type_of% @Fj.w_cb ∧ type_of% @Fj.w_isi ∧ type_of% @Fj.w_it ∧ type_of% @Fj.x_r1 ∧ type_of% @Fj.x_r2 ∧ type_of% @Fj.x_enum := ⟨@Fj.w_cons, @Fj.w_tup, @Fj.w_lst, @Fj.x_cat, @Fj.w_p0, @Fj.w_p1, @Fj.w_sl, @Fj.w_rev, @Fj.w_neg, @Fj.w_scrSl, @Fj.w_cb, @Fj.w_isi, @Fj.w_it, @Fj.x_r1, @Fj.x_r2, @Fj.x_enum⟩
theorem wp2 : type_of% @Fj.w_N ∧ type_of% @Fj.w_N0 ∧ type_of% @Fj.w_N1 ∧ type_of% @Fj.w_TupG ∧ type_of% @Fj.w_nx ∧ type_of% @Fj.w_seq ∧ type_of% @Fj.w_frz ∧ type_of% @Fj.w_asg ∧ type_of% @Fj.w_own ∧ type_of% @Fj.w_ret ∧ type_of% @Fj.w_drop ∧ type_of% @Fj.w_bad ∧ type_of% @Fj.w_for ∧ type_of% @Fj.x_app ∧ type_of% @Fj.x_ext ∧ type_of% @Fj.w_fn := ⟨@Fj.w_N, @Fj.w_N0, @Fj.w_N1, @Fj.w_TupG, @Fj.w_nx, @Fj.w_seq, @Fj.w_frz, @Fj.w_asg, @Fj.w_own, @Fj.w_ret, @Fj.w_drop, @Fj.w_bad, @Fj.w_for, @Fj.x_app, @Fj.x_ext, @Fj.w_fn⟩
theorem wp3 : type_of% @Fj.w_call ∧ type_of% @Fj.x_lend ∧ type_of% @Fj.w_scr ∧ type_of% @Fj.w_bor ∧ type_of% @Fj.w_borT ∧ type_of% @Fj.w_lc ∧ type_of% @Fj.x_move ∧ type_of% @Fj.w_ownV ∧ type_of% @Fj.w_yes ∧ type_of% @Fj.x_dkM ∧ type_of% @Fj.x_dkT ∧ type_of% @Fj.x_dkL ∧ type_of% @Fj.x_dkPop ∧ type_of% @Fj.x_dkApp ∧ type_of% @Fj.x_dkSetM ∧ type_of% @Fj.x_dkSetT := ⟨@Fj.w_call, @Fj.x_lend, @Fj.w_scr, @Fj.w_bor, @Fj.w_borT, @Fj.w_lc, @Fj.x_move, @Fj.w_ownV, @Fj.w_yes, @Fj.x_dkM, @Fj.x_dkT, @Fj.x_dkL, @Fj.x_dkPop, @Fj.x_dkApp, @Fj.x_dkSetM, @Fj.x_dkSetT⟩
theorem wp4 : type_of% @Fj.x_dkNew ∧ type_of% @Fj.w_E0 ∧ type_of% @Fj.w_E1 ∧ type_of% @Fj.w_par ∧ type_of% @Fj.w_puts0 ∧ type_of% @Fj.w_puts1 ∧ type_of% @Fj.w_ss ∧ type_of% @Fj.w_isi2 ∧ type_of% @Fj.w_zip ∧ type_of% @Fj.g_add ∧ type_of% @Fj.g_sub ∧ type_of% @Fj.g_addT ∧ type_of% @Fj.g_addL ∧ type_of% @Fj.g_addS ∧ type_of% @Fj.g_mul ∧ type_of% @Fj.g_div := ⟨@Fj.x_dkNew, @Fj.w_E0, @Fj.w_E1, @Fj.w_par, @Fj.w_puts0, @Fj.w_puts1, @Fj.w_ss, @Fj.w_isi2, @Fj.w_zip, @Fj.g_add, @Fj.g_sub, @Fj.g_addT, @Fj.g_addL, @Fj.g_addS, @Fj.g_mul, @Fj.g_div⟩
theorem wp5 : type_of% @Fj.g_mod ∧ type_of% @Fj.g_pow ∧ type_of% @Fj.g_lt ∧ type_of% @Fj.g_le ∧ type_of% @Fj.g_gt ∧ type_of% @Fj.g_ge ∧ type_of% @Fj.g_eq ∧ type_of% @Fj.g_ne ∧ type_of% @Fj.g_neNil ∧ type_of% @Fj.g_eqNil ∧ type_of% @Fj.g_eqS ∧ type_of% @Fj.g_neS ∧ type_of% @Fj.w_tups ∧ type_of% @Fj.mv_val ∧ type_of% @Fj.mv_own ∧ type_of% @Fj.g_sortI := ⟨@Fj.g_mod, @Fj.g_pow, @Fj.g_lt, @Fj.g_le, @Fj.g_gt, @Fj.g_ge, @Fj.g_eq, @Fj.g_ne, @Fj.g_neNil, @Fj.g_eqNil, @Fj.g_eqS, @Fj.g_neS, @Fj.w_tups, @Fj.mv_val, @Fj.mv_own, @Fj.g_sortI⟩
theorem wp6 : type_of% @Fj.zip2_L ∧ type_of% @Fj.zip2_T ∧ type_of% @Fj.int3_of ∧ type_of% @Fj.g_all ∧ type_of% @Fj.g_any ∧ type_of% @Fj.g_sum ∧ type_of% @Fj.g_bools0 ∧ type_of% @Fj.g_bools1 ∧ type_of% @Fj.g_ltT ∧ type_of% @Fj.g_ints0 ∧ type_of% @Fj.g_ints1 ∧ type_of% @Fj.g_intsM ∧ type_of% @Fj.g_slT ∧ type_of% @Fj.g_slL ∧ type_of% @Fj.g_isTrue ∧ type_of% @Fj.g_notTrue := ⟨@Fj.zip2_L, @Fj.zip2_T, @Fj.int3_of, @Fj.g_all, @Fj.g_any, @Fj.g_sum, @Fj.g_bools0, @Fj.g_bools1, @Fj.g_ltT, @Fj.g_ints0, @Fj.g_ints1, @Fj.g_intsM, @Fj.g_slT, @Fj.g_slL, @Fj.g_isTrue, @Fj.g_notTrue⟩
theorem wp7 : type_of% @Fj.g_isNone ∧ type_of% @Fj.g_notNone ∧ type_of% @Fj.g_lenL ∧ type_of% @Fj.g_lenT ∧ type_of% @Fj.g_int ∧ type_of% @Fj.g_max ∧ type_of% @Fj.g_min ∧ type_of% @Fj.g_list ∧ type_of% @Fj.g_listT ∧ type_of% @Fj.g_tupT ∧ type_of% @Fj.g_tupL ∧ type_of% @Fj.g_ixL ∧ type_of% @Fj.g_ixT ∧ type_of% @Fj.IfB_true ∧ type_of% @Fj.IfB_false ∧ type_of% @Fj.bool_of := ⟨@Fj.g_isNone, @Fj.g_notNone, @Fj.g_lenL, @Fj.g_lenT, @Fj.g_int, @Fj.g_max, @Fj.g_min, @Fj.g_list, @Fj.g_listT, @Fj.g_tupT, @Fj.g_tupL, @Fj.g_ixL, @Fj.g_ixT, @Fj.IfB_true, @Fj.IfB_false, @Fj.bool_of⟩
theorem wp8 : type_of% @Fj.val_of ∧ type_of% @Fj.scr_of ∧ type_of% @Fj.row_ofL ∧ type_of% @Fj.row_ofT ∧ type_of% @Fj.walk_ofL ∧ type_of% @Fj.walk_ofT ∧ type_of% @Fj.walk_ofS ∧ type_of% @Fj.own_of ∧ type_of% @Fj.lst_of ∧ type_of% @Fj.dk_of ∧ type_of% @Fj.out_of ∧ type_of% @Fj.list_of ∧ type_of% @Fj.int_of ∧ type_of% @Fj.int1_of ∧ type_of% @Fj.int2_of ∧ type_of% @Fj.list1_of := ⟨@Fj.val_of, @Fj.scr_of, @Fj.row_ofL, @Fj.row_ofT, @Fj.walk_ofL, @Fj.walk_ofT, @Fj.walk_ofS, @Fj.own_of, @Fj.lst_of, @Fj.dk_of, @Fj.out_of, @Fj.list_of, @Fj.int_of, @Fj.int1_of, @Fj.int2_of, @Fj.list1_of⟩
theorem wp9 : type_of% @Fj.kt_NoneType_int ∧ type_of% @Fj.kt_NoneType_bool ∧ type_of% @Fj.kt_NoneType_str ∧ type_of% @Fj.kt_NoneType_list ∧ type_of% @Fj.kt_NoneType_tuple ∧ type_of% @Fj.kt_NoneType_dict ∧ type_of% @Fj.kt_bool_int ∧ type_of% @Fj.kt_bool_bool ∧ type_of% @Fj.kt_bool_str ∧ type_of% @Fj.kt_bool_list ∧ type_of% @Fj.kt_bool_tuple ∧ type_of% @Fj.kt_bool_dict ∧ type_of% @Fj.kt_int_int ∧ type_of% @Fj.kt_int_bool ∧ type_of% @Fj.kt_int_str ∧ type_of% @Fj.kt_int_list := ⟨@Fj.kt_NoneType_int, @Fj.kt_NoneType_bool, @Fj.kt_NoneType_str, @Fj.kt_NoneType_list, @Fj.kt_NoneType_tuple, @Fj.kt_NoneType_dict, @Fj.kt_bool_int, @Fj.kt_bool_bool, @Fj.kt_bool_str, @Fj.kt_bool_list, @Fj.kt_bool_tuple, @Fj.kt_bool_dict, @Fj.kt_int_int, @Fj.kt_int_bool, @Fj.kt_int_str, @Fj.kt_int_list⟩
theorem wp10 : type_of% @Fj.kt_int_tuple ∧ type_of% @Fj.kt_int_dict ∧ type_of% @Fj.kt_str_int ∧ type_of% @Fj.kt_str_bool ∧ type_of% @Fj.kt_str_str ∧ type_of% @Fj.kt_str_list ∧ type_of% @Fj.kt_str_tuple ∧ type_of% @Fj.kt_str_dict ∧ type_of% @Fj.kt_list_int ∧ type_of% @Fj.kt_list_bool ∧ type_of% @Fj.kt_list_str ∧ type_of% @Fj.kt_list_list ∧ type_of% @Fj.kt_list_tuple ∧ type_of% @Fj.kt_list_dict ∧ type_of% @Fj.kt_tuple_int ∧ type_of% @Fj.kt_tuple_bool := ⟨@Fj.kt_int_tuple, @Fj.kt_int_dict, @Fj.kt_str_int, @Fj.kt_str_bool, @Fj.kt_str_str, @Fj.kt_str_list, @Fj.kt_str_tuple, @Fj.kt_str_dict, @Fj.kt_list_int, @Fj.kt_list_bool, @Fj.kt_list_str, @Fj.kt_list_list, @Fj.kt_list_tuple, @Fj.kt_list_dict, @Fj.kt_tuple_int, @Fj.kt_tuple_bool⟩
theorem wp11 : type_of% @Fj.kt_tuple_str ∧ type_of% @Fj.kt_tuple_list ∧ type_of% @Fj.kt_tuple_tuple ∧ type_of% @Fj.kt_tuple_dict ∧ type_of% @Fj.kt_dict_int ∧ type_of% @Fj.kt_dict_bool ∧ type_of% @Fj.kt_dict_str ∧ type_of% @Fj.kt_dict_list ∧ type_of% @Fj.kt_dict_tuple ∧ type_of% @Fj.kt_dict_dict ∧ type_of% @Fj.cT_1 ∧ type_of% @Fj.cD_1 ∧ type_of% @Fj.cT_2 ∧ type_of% @Fj.cD_2 ∧ type_of% @Fj.cT_3 ∧ type_of% @Fj.cD_3 := ⟨@Fj.kt_tuple_str, @Fj.kt_tuple_list, @Fj.kt_tuple_tuple, @Fj.kt_tuple_dict, @Fj.kt_dict_int, @Fj.kt_dict_bool, @Fj.kt_dict_str, @Fj.kt_dict_list, @Fj.kt_dict_tuple, @Fj.kt_dict_dict, @Fj.cT_1, @Fj.cD_1, @Fj.cT_2, @Fj.cD_2, @Fj.cT_3, @Fj.cD_3⟩
theorem wp12 : type_of% @Fj.cT_4 ∧ type_of% @Fj.cD_4 ∧ type_of% @Fj.cT_5 ∧ type_of% @Fj.cD_5 ∧ type_of% @Fj.cT_6 ∧ type_of% @Fj.cD_6 ∧ type_of% @Fj.cT_7 ∧ type_of% @Fj.cD_7 ∧ type_of% @Fj.at_0 ∧ type_of% @Fj.at_1 ∧ type_of% @Fj.at_2 ∧ type_of% @Fj.at_3 ∧ type_of% @Fj.at_4 ∧ type_of% @Fj.at_5 ∧ type_of% @Fj.at_6 ∧ type_of% @Fj.at_7 := ⟨@Fj.cT_4, @Fj.cD_4, @Fj.cT_5, @Fj.cD_5, @Fj.cT_6, @Fj.cD_6, @Fj.cT_7, @Fj.cD_7, @Fj.at_0, @Fj.at_1, @Fj.at_2, @Fj.at_3, @Fj.at_4, @Fj.at_5, @Fj.at_6, @Fj.at_7⟩
theorem wp13 : type_of% @Fj.at_8 ∧ type_of% @Fj.at_9 ∧ type_of% @Fj.nc_0 ∧ type_of% @Fj.nc_1 ∧ type_of% @Fj.nc_2 ∧ type_of% @Fj.nc_3 ∧ type_of% @Fj.nc_4 ∧ type_of% @Fj.nc_5 ∧ type_of% @Fj.nc_6 ∧ type_of% @Fj.nc_7 ∧ type_of% @Fj.nc_8 ∧ type_of% @Fj.nc_9 ∧ type_of% @Fj.nc_10 ∧ type_of% @Fj.nc_11 ∧ type_of% @Fj.nc_12 ∧ type_of% @Fj.nc_13 := ⟨@Fj.at_8, @Fj.at_9, @Fj.nc_0, @Fj.nc_1, @Fj.nc_2, @Fj.nc_3, @Fj.nc_4, @Fj.nc_5, @Fj.nc_6, @Fj.nc_7, @Fj.nc_8, @Fj.nc_9, @Fj.nc_10, @Fj.nc_11, @Fj.nc_12, @Fj.nc_13⟩
theorem wp14 : type_of% @Fj.nc_14 ∧ type_of% @Fj.nc_15 ∧ type_of% @Fj.nc_16 ∧ type_of% @Fj.nc_17 ∧ type_of% @Fj.nc_18 ∧ type_of% @Fj.nc_19 ∧ type_of% @Fj.nc_20 ∧ type_of% @Fj.eb_no ∧ type_of% @Fj.ev_no ∧ type_of% @Fj.ed_no ∧ type_of% @Fj.ef_no ∧ type_of% @Fj.em_no ∧ type_of% @Fj.ek_no ∧ type_of% @Fj.eo_no ∧ type_of% @Fj.eb_val ∧ type_of% @Fj.ev_val := ⟨@Fj.nc_14, @Fj.nc_15, @Fj.nc_16, @Fj.nc_17, @Fj.nc_18, @Fj.nc_19, @Fj.nc_20, @Fj.eb_no, @Fj.ev_no, @Fj.ed_no, @Fj.ef_no, @Fj.em_no, @Fj.ek_no, @Fj.eo_no, @Fj.eb_val, @Fj.ev_val⟩
theorem wp15 : type_of% @Fj.ed_val ∧ type_of% @Fj.ef_val ∧ type_of% @Fj.em_val ∧ type_of% @Fj.ek_val ∧ type_of% @Fj.eo_val ∧ type_of% @Fj.eb_lst ∧ type_of% @Fj.ev_lst ∧ type_of% @Fj.ed_lst ∧ type_of% @Fj.ef_lst ∧ type_of% @Fj.em_lst ∧ type_of% @Fj.ek_lst ∧ type_of% @Fj.eb_dk ∧ type_of% @Fj.ev_dk ∧ type_of% @Fj.ed_dk ∧ type_of% @Fj.ef_dk ∧ type_of% @Fj.eb_scr := ⟨@Fj.ed_val, @Fj.ef_val, @Fj.em_val, @Fj.ek_val, @Fj.eo_val, @Fj.eb_lst, @Fj.ev_lst, @Fj.ed_lst, @Fj.ef_lst, @Fj.em_lst, @Fj.ek_lst, @Fj.eb_dk, @Fj.ev_dk, @Fj.ed_dk, @Fj.ef_dk, @Fj.eb_scr⟩
theorem wp16 : type_of% @Fj.ev_scr ∧ type_of% @Fj.ed_scr ∧ type_of% @Fj.ef_scr ∧ type_of% @Fj.em_scr ∧ type_of% @Fj.ek_scr ∧ type_of% @Fj.eo_scr ∧ type_of% @Fj.eb_lent ∧ type_of% @Fj.ev_lent ∧ type_of% @Fj.ed_lent ∧ type_of% @Fj.ef_lent ∧ type_of% @Fj.em_lent ∧ type_of% @Fj.ek_lent ∧ type_of% @Fj.eo_lent ∧ type_of% @Fj.em_dk ∧ type_of% @Fj.eo_own ∧ type_of% @Fj.er_val := ⟨@Fj.ev_scr, @Fj.ed_scr, @Fj.ef_scr, @Fj.em_scr, @Fj.ek_scr, @Fj.eo_scr, @Fj.eb_lent, @Fj.ev_lent, @Fj.ed_lent, @Fj.ef_lent, @Fj.em_lent, @Fj.ek_lent, @Fj.eo_lent, @Fj.em_dk, @Fj.eo_own, @Fj.er_val⟩
theorem wp17 : type_of% @Fj.er_own ∧ type_of% @Fj.ez_val ∧ type_of% @Fj.ez_own ∧ type_of% @Fj.en_val ∧ type_of% @Fj.en_own ∧ type_of% @Fj.bq_tt ∧ type_of% @Fj.bq_tf ∧ type_of% @Fj.bq_ft ∧ type_of% @Fj.bq_ff ∧ type_of% @Bool.or_self ∧ type_of% @Bool.or_true ∧ type_of% @Bool.true_or ∧ type_of% @Bool.or_false ∧ type_of% @Bool.false_or ∧ type_of% @Bool.not_false ∧ type_of% @decide_true := ⟨@Fj.er_own, @Fj.ez_val, @Fj.ez_own, @Fj.en_val, @Fj.en_own, @Fj.bq_tt, @Fj.bq_tf, @Fj.bq_ft, @Fj.bq_ff, @Bool.or_self, @Bool.or_true, @Bool.true_or, @Bool.or_false, @Bool.false_or, @Bool.not_false, @decide_true⟩
theorem wp18 : type_of% @decide_false ∧ type_of% @List.isEmpty_nil.{0} ∧ type_of% @List.isEmpty_cons.{0} ∧ type_of% @Fj.shaped_nil ∧ type_of% @W_some ∧ type_of% @W_none ∧ type_of% @W1_some ∧ type_of% @W1_none ∧ type_of% @nxt_nx ∧ type_of% @nxt_rt ∧ type_of% @nxt_bk ∧ type_of% @nxt_ct ∧ type_of% @endF_rt ∧ type_of% @endF_nx ∧ type_of% @Fj.pin_no ∧ type_of% @Fj.pin_val := ⟨@decide_false, @List.isEmpty_nil.{0}, @List.isEmpty_cons.{0}, @Fj.shaped_nil, @W_some, @W_none, @W1_some, @W1_none, @nxt_nx, @nxt_rt, @nxt_bk, @nxt_ct, @endF_rt, @endF_nx, @Fj.pin_no, @Fj.pin_val⟩
theorem wp19 : type_of% @Fj.pin_t ∧ type_of% @Fj.pin_f ∧ type_of% @Fj.pin_lent ∧ type_of% @Fj.pin_scr ∧ type_of% @List.getElem?_cons_zero.{0} ∧ type_of% @List.getElem?_cons_succ.{0} ∧ type_of% @List.getElem?_nil.{0} ∧ type_of% @List.set_cons_zero.{0} ∧ type_of% @List.set_cons_succ.{0} ∧ type_of% @List.length_cons.{0} ∧ type_of% @List.length_nil.{0} ∧ type_of% @List.map_cons.{0,0} ∧ type_of% @List.map_nil.{0,0} ∧ type_of% @List.cons_append.{0} ∧ type_of% @List.nil_append.{0} ∧ type_of% @List.append_nil.{0} := ⟨@Fj.pin_t, @Fj.pin_f, @Fj.pin_lent, @Fj.pin_scr, @List.getElem?_cons_zero.{0}, @List.getElem?_cons_succ.{0}, @List.getElem?_nil.{0}, @List.set_cons_zero.{0}, @List.set_cons_succ.{0}, @List.length_cons.{0}, @List.length_nil.{0}, @List.map_cons.{0,0}, @List.map_nil.{0,0}, @List.cons_append.{0}, @List.nil_append.{0}, @List.append_nil.{0}⟩
theorem wp20 : type_of% @List.replicate_succ.{0} ∧ type_of% @List.replicate_zero.{0} ∧ type_of% @List.filterMap_cons.{0,0} ∧ type_of% @List.filterMap_nil.{0,0} ∧ type_of% @List.all_cons.{0} ∧ type_of% @List.all_nil.{0} ∧ type_of% @Nat.zero_add ∧ type_of% @Nat.add_zero ∧ type_of% @Nat.sub_self ∧ type_of% @Bool.not_true ∧ type_of% @Bool.not_false ∧ type_of% @Bool.and_true ∧ type_of% @Bool.true_and ∧ type_of% @Bool.and_self ∧ type_of% @and_true ∧ type_of% @true_and := ⟨@List.replicate_succ.{0}, @List.replicate_zero.{0}, @List.filterMap_cons.{0,0}, @List.filterMap_nil.{0,0}, @List.all_cons.{0}, @List.all_nil.{0}, @Nat.zero_add, @Nat.add_zero, @Nat.sub_self, @Bool.not_true, @Bool.not_false, @Bool.and_true, @Bool.true_and, @Bool.and_self, @and_true, @true_and⟩
theorem wp21 : type_of% @false_implies ∧ type_of% @true_implies ∧ type_of% @Bool.false_eq_true ∧ type_of% @Option.some.injEq.{0} := ⟨@false_implies, @true_implies, @Bool.false_eq_true, @Option.some.injEq.{0}⟩
end Fj
namespace Fj
theorem Pl.all {e : Ent} (h : Pl e) : borS e = e ∧ (∀ fr, dkFit fr e = true) ∧ isDk e = false ∧ (∀ x, merS e x = e) ∧ pinE e = false ∧ valS e = e := ⟨h.bor, fun _ => h.fit, h.dk, fun _ => h.mer, h.pin, h.vs⟩
end Fj

set_option Elab.async false
set_option linter.all false
set_option maxRecDepth 100000
set_option maxHeartbeats 4000000
set_option autoImplicit false
/-! Ranges: rows of borders, and what lies within. -/
namespace Rg
/-- an order: strict, any two that are unlike stand in it -/
structure Lin {α : Type} (lt : α → α → Bool) : Prop where
  irr : ∀ x, lt x x = false
  tr : ∀ x y z, lt x y = true → lt y z = true → lt x z = true
  tot : ∀ x y, lt x y = false → lt y x = false → x = y
section
variable {α : Type} {lt : α → α → Bool} (O : Lin lt)
theorem Lin.asym (O : Lin lt) {x y : α} (h : lt x y = true) : lt y x = false := by
  cases z : lt y x with
  | false => rfl
  | true =>
    have := O.tr _ _ _ h z
    rw [O.irr] at this
    cases this
theorem Lin.lele (O : Lin lt) {x y z : α} (h : lt y x = false) (g : lt z y = false) : lt z x = false := by
  cases q : lt z x with
  | false => rfl
  | true =>
    cases h2 : lt x y with
    | true =>
      have := O.tr _ _ _ q h2
      rw [g] at this
      cases this
    | false =>
      have e := O.tot _ _ h h2
      rw [e] at g
      rw [g] at q
      cases q
theorem Lin.ltle (O : Lin lt) {x y z : α} (h : lt x y = true) (g : lt z y = false) : lt x z = true := by
  cases q : lt x z with
  | true => rfl
  | false =>
    have := O.lele g q
    rw [h] at this
    cases this
/-- strictly rising -/
abbrev Up (lt : α → α → Bool) (bs : List α) : Prop := bs.Pairwise fun a b => lt a b = true
/-- v is within by the borders bs: an odd number of them stands at v or below -/
def inB (lt : α → α → Bool) : List α → α → Bool
  | [], _ => false
  | b :: bs, v => if lt v b = true then false else !inB lt bs v
theorem inB_low (O : Lin lt) {b : α} {bs : List α} {v : α} (h : lt v b = true) : inB lt (b :: bs) v = false := if_pos h
theorem inB_up {b : α} {bs : List α} {v : α} (h : lt v b = false) : inB lt (b :: bs) v = !inB lt bs v := if_neg (by rw [h]; exact Bool.false_ne_true)
/-- the pairs of a row of borders -/
def prs : List α → List (α × Option α)
  | [] => []
  | [a] => [(a, none)]
  | a :: b :: r => (a, some b) :: prs r
def inP (lt : α → α → Bool) (p : α × Option α) (v : α) : Bool := !lt v p.1 && match p.2 with
  | none => true
  | some h => lt v h
def inR (lt : α → α → Bool) (ps : List (α × Option α)) (v : α) : Bool := ps.any fun p => inP lt p v
theorem inB_none (O : Lin lt) {bs : List α} {v : α} (h : ∀ b ∈ bs, lt v b = true) : inB lt bs v = false := by
  cases bs with
  | nil => rfl
  | cons b bs => exact if_pos (h b (List.mem_cons_self ..))
theorem inR_prs (O : Lin lt) : ∀ (bs : List α), Up lt bs → ∀ v, inR lt (prs bs) v = inB lt bs v
  | [], _, v => rfl
  | [a], _, v => by
    show (inP lt (a, none) v || false) = inB lt [a] v
    unfold inP inB
    cases h : lt v a <;> simp [inB]
  | a :: b :: r, h, v => by
    obtain ⟨h1, h2⟩ := List.pairwise_cons.mp h
    obtain ⟨h3, h4⟩ := List.pairwise_cons.mp h2
    show (inP lt (a, some b) v || inR lt (prs r) v) = inB lt (a :: b :: r) v
    rw [inR_prs O r h4 v]
    unfold inP
    show ((!lt v a && lt v b) || inB lt r v) = inB lt (a :: b :: r) v
    cases va : lt v a with
    | true =>
      rw [inB_low O va]
      have hb : lt v b = true := O.tr _ _ _ va (h1 b (List.mem_cons_self ..))
      rw [inB_none O fun x hx => O.tr _ _ _ hb (h3 x hx)]
      rfl
    | false =>
      rw [inB_up va]
      cases vb : lt v b with
      | true =>
        rw [inB_low O vb]
        rw [inB_none O fun x hx => O.tr _ _ _ vb (h3 x hx)]
        rfl
      | false =>
        rw [inB_up vb]
        cases inB lt r v <;> rfl
/-- rows of borders with the same within are the same -/
theorem inB_inj (O : Lin lt) : ∀ {bs cs : List α}, Up lt bs → Up lt cs → (∀ v, v ∈ bs ∨ v ∈ cs → inB lt bs v = inB lt cs v) → bs = cs
  | [], [], _, _, _ => rfl
  | [], c :: cs, _, h2, h => by
    have := h c (.inr (List.mem_cons_self ..))
    rw [inB_up (O.irr c)] at this
    rw [inB_none O (bs := cs) fun b hb => (List.pairwise_cons.mp h2).1 b hb] at this
    cases this
  | b :: bs, [], h1, _, h => by
    have := h b (.inl (List.mem_cons_self ..))
    rw [inB_up (O.irr b)] at this
    rw [inB_none O (bs := bs) fun c hc => (List.pairwise_cons.mp h1).1 c hc] at this
    cases this
  | b :: bs, c :: cs, h1, h2, h => by
    obtain ⟨g1, g2⟩ := List.pairwise_cons.mp h1
    obtain ⟨f1, f2⟩ := List.pairwise_cons.mp h2
    have e : b = c := by
      refine O.tot _ _ ?_ ?_
      · cases z : lt b c with
        | false => rfl
        | true =>
          have := h b (.inl (List.mem_cons_self ..))
          rw [inB_up (O.irr b), inB_low O z, inB_none O (bs := bs) fun x hx => g1 x hx] at this
          cases this
      · cases z : lt c b with
        | false => rfl
        | true =>
          have := h c (.inr (List.mem_cons_self ..))
          rw [inB_up (O.irr c), inB_low O z, inB_none O (bs := cs) fun x hx => f1 x hx] at this
          cases this
    subst e
    rw [inB_inj O g2 f2 fun v hv => ?_]
    have hb : lt v b = false := O.asym (hv.elim (g1 v) (f1 v))
    have := h v (hv.imp (List.mem_cons_of_mem _) (List.mem_cons_of_mem _))
    rw [inB_up hb, inB_up hb] at this
    exact Bool.not_inj this
/-- the places where f changes along a row -/
def chg (f : α → Bool) : Bool → List α → List α
  | _, [] => []
  | w, s :: ss => if f s = w then chg f w ss else s :: chg f (f s) ss
theorem chg_sub (f : α → Bool) : ∀ (w : Bool) (ss : List α), (chg f w ss).Sublist ss
  | _, [] => .slnil
  | w, s :: ss => by
    unfold chg
    split
    · exact .cons _ (chg_sub f w ss)
    · exact .cons₂ _ (chg_sub f _ ss)
theorem chg_up (f : α → Bool) (w : Bool) {ss : List α} (h : Up lt ss) : Up lt (chg f w ss) := h.sublist (chg_sub f w ss)
/-- what f says at the greatest of the row at v or below; d where there is none -/
def lastOf (lt : α → α → Bool) (f : α → Bool) : Bool → List α → α → Bool
  | d, [], _ => d
  | d, s :: ss, v => if lt v s = true then d else lastOf lt f (f s) ss v
theorem inB_chg (O : Lin lt) (f : α → Bool) : ∀ (w : Bool) (ss : List α), Up lt ss → ∀ v, (inB lt (chg f w ss) v != w) = lastOf lt f w ss v
  | w, [], _, v => by
    cases w <;> rfl
  | w, s :: ss, h, v => by
    obtain ⟨h1, h2⟩ := List.pairwise_cons.mp h
    unfold chg lastOf
    cases vs : lt v s with
    | true =>
      rw [if_pos rfl]
      have none : ∀ w', inB lt (chg f w' ss) v = false := fun w' => inB_none O fun x hx => O.tr _ _ _ vs (h1 x ((chg_sub f w' ss).mem hx))
      split
      · rw [none]
        cases w <;> rfl
      · rw [inB_low O vs]
        cases w <;> rfl
    | false =>
      simp only [Bool.false_eq_true, if_false]
      have ih := inB_chg O f (f s) ss h2 v
      by_cases e : f s = w
      · rw [if_pos e, ← ih, e]
      · rw [if_neg e, inB_up vs, ← ih]
        have e' : w = !f s := by
          cases hw : w <;> cases hf : f s <;> first | rfl | (rw [hw, hf] at e; exact absurd rfl e)
        rw [e']
        cases inB lt (chg f (f s) ss) v <;> cases f s <;> rfl
end
end Rg

set_option Elab.async false
set_option linter.all false
set_option maxRecDepth 100000
set_option maxHeartbeats 4000000
set_option autoImplicit false
/-! Ranges put together. -/
namespace Rg
section
variable {α : Type} {lt : α → α → Bool}
theorem inB_same : ∀ {bs : List α} {u v : α}, (∀ b ∈ bs, lt u b = lt v b) → inB lt bs u = inB lt bs v
  | [], _, _, _ => rfl
  | b :: bs, u, v, h => by
    unfold inB
    rw [h b (List.mem_cons_self ..), inB_same fun x hx => h x (List.mem_cons_of_mem _ hx)]
/-- the greatest of a row at v or below -/
theorem last_at (O : Lin lt) (f : α → Bool) : ∀ (d : Bool) (ss : List α), Up lt ss → ∀ v, (lastOf lt f d ss v = d ∧ ∀ s ∈ ss, lt v s = true) ∨ ∃ s ∈ ss, lt v s = false ∧ (∀ t ∈ ss, lt v t = false → lt s t = false) ∧ lastOf lt f d ss v = f s
  | d, [], _, v => .inl ⟨rfl, fun s z => (List.not_mem_nil z).elim⟩
  | d, s :: ss, h, v => by
    obtain ⟨h1, h2⟩ := List.pairwise_cons.mp h
    unfold lastOf
    cases vs : lt v s with
    | true =>
      left
      refine ⟨if_pos rfl, fun t ht => ?_⟩
      rcases List.mem_cons.mp ht with e | e
      · rw [e]
        exact vs
      · exact O.tr _ _ _ vs (h1 t e)
    | false =>
      right
      simp only [Bool.false_eq_true, if_false]
      rcases last_at O f (f s) ss h2 v with ⟨e, no⟩ | ⟨t, ht, h3, h4, e⟩
      · refine ⟨s, List.mem_cons_self .., vs, fun t ht hv => ?_, e⟩
        rcases List.mem_cons.mp ht with e | e
        · rw [e]
          exact O.irr s
        · rw [no t e] at hv
          cases hv
      · refine ⟨t, List.mem_cons_of_mem _ ht, h3, fun u hu hv => ?_, e⟩
        rcases List.mem_cons.mp hu with e | e
        · rw [e]
          exact O.asym (h1 t ht)
        · exact h4 u e hv
theorem last_mem (O : Lin lt) {f : α → Bool} {d : Bool} {ss : List α} (h : Up lt ss) {s : α} (hs : s ∈ ss) : lastOf lt f d ss s = f s := by
  rcases last_at O f d ss h s with ⟨_, no⟩ | ⟨t, ht, h3, h4, e⟩
  · have := no s hs
    rw [O.irr] at this
    cases this
  · rw [e, O.tot s t h3 (h4 s hs (O.irr s))]
/-- what hangs on borders of the row alone is what it says at the greatest below -/
theorem step_last (O : Lin lt) {g : α → Bool} {ss bs : List α} (h : Up lt ss) (hb : ∀ b ∈ bs, b ∈ ss) (hg : ∀ u v, (∀ b ∈ bs, lt u b = lt v b) → g u = g v) (h0 : ∀ v, (∀ b ∈ bs, lt v b = true) → g v = false) (v : α) : lastOf lt g false ss v = g v := by
  rcases last_at O g false ss h v with ⟨e, no⟩ | ⟨s, hs, h3, h4, e⟩
  · rw [e, h0 v fun b hb' => no b (hb b hb')]
  · rw [e]
    refine hg s v fun b hb' => ?_
    cases q : lt v b with
    | true =>
      cases q2 : lt s b with
      | true => rfl
      | false =>
        have := O.lele q2 h3
        rw [q] at this
        cases this
    | false => exact h4 b (hb b hb') q
/-- two ranges put together by W -/
theorem comb (O : Lin lt) {W : Bool → Bool → Bool} (hW : W false false = false) {as bs ss : List α} (ha : Up lt as) (hb : Up lt bs) (hs : Up lt ss) (h1 : ∀ x ∈ as, x ∈ ss) (h2 : ∀ x ∈ bs, x ∈ ss) (v : α) :
    inB lt (chg (fun s => W (inB lt as s) (inB lt bs s)) false ss) v = W (inB lt as v) (inB lt bs v) := by
  have e := inB_chg O (fun s => W (inB lt as s) (inB lt bs s)) false ss hs v
  rw [show ∀ x : Bool, (x != false) = x from fun x => by cases x <;> rfl] at e
  rw [e]
  refine step_last O (bs := as ++ bs) hs (fun x hx => (List.mem_append.mp hx).elim (h1 x) (h2 x)) (fun u w h => ?_) (fun w h => ?_) v
  · rw [inB_same fun b hb => h b (List.mem_append_left _ hb), inB_same (bs := bs) fun b hb => h b (List.mem_append_right _ hb)]
  · rw [inB_none O fun b hb => h b (List.mem_append_left _ hb), inB_none O (bs := bs) fun b hb => h b (List.mem_append_right _ hb)]
    exact hW
/-- made of borders and marks -/
def made : Option α → List (α × Bool) → List (α × Option α)
  | none, [] => []
  | some b, [] => [(b, none)]
  | none, (s, m) :: r => if m = true then made (some s) r else made none r
  | some b, (s, m) :: r => if m = true then made (some b) r else (b, some s) :: made none r
theorem made_eq (f : α → Bool) : ∀ ss : List α, made none (ss.map fun s => (s, f s)) = prs (chg f false ss) ∧ ∀ b, made (some b) (ss.map fun s => (s, f s)) = prs (b :: chg f true ss)
  | [] => ⟨rfl, fun _ => rfl⟩
  | s :: ss => by
    obtain ⟨h1, h2⟩ := made_eq f ss
    rw [List.map_cons]
    unfold made chg
    cases e : f s with
    | true => exact ⟨by simpa using h2 s, fun b => by simpa using h2 b⟩
    | false =>
      refine ⟨by simpa using h1, fun b => ?_⟩
      simp only [Bool.false_eq_true, if_false, h1]
      rfl
def ends : List (α × Option α) → List α
  | [] => []
  | (a, none) :: r => a :: ends r
  | (a, some b) :: r => a :: b :: ends r
theorem ends_prs : ∀ bs : List α, ends (prs bs) = bs
  | [] => rfl
  | [a] => rfl
  | a :: b :: r => by
    show a :: b :: ends (prs r) = _
    rw [ends_prs r]
theorem prs_inj {as bs : List α} (h : prs as = prs bs) : as = bs := by
  rw [← ends_prs as, ← ends_prs bs, h]
end
end Rg

set_option Elab.async false
set_option linter.all false
set_option maxRecDepth 100000
set_option maxHeartbeats 4000000
set_option autoImplicit false
/-! Rows of numbers: below or equal; ranges as data. -/
namespace Fj
open PySem PySem.Spec PyProof.Rows L2

theorem lexAt_shift {e r : Nat → Bool} {z : Bool} : ∀ (k i : Nat), Ob.lexAt e r z (i + 1) k = Ob.lexAt (fun j => e (j + 1)) (fun j => r (j + 1)) z i k
  | 0, i => rfl
  | k + 1, i => by
    rw [Ob.lexAt_succ, Ob.lexAt_succ, lexAt_shift k (i + 1)]
theorem leL_nil (ms : List Int) : leL [] ms = true := by
  unfold leL
  simp [Ob.lexAt_zero]
theorem leL_cons_nil (x : Int) (xs : List Int) : leL (x :: xs) [] = false := by
  unfold leL
  simp [Ob.lexAt_zero]
theorem leL_cons (x y : Int) (xs ys : List Int) : leL (x :: xs) (y :: ys) = if x = y then leL xs ys else decide (x ≤ y) := by
  unfold leL
  have e : min (x :: xs).length (y :: ys).length = min xs.length ys.length + 1 := by
    rw [List.length_cons, List.length_cons]
    omega
  rw [e, Ob.lexAt_succ]
  have e0 : (x :: xs).getD 0 0 = x := rfl
  have e1 : (y :: ys).getD 0 0 = y := rfl
  simp only [e0, e1]
  by_cases h : x = y
  · rw [if_pos (decide_eq_true h), if_pos h, lexAt_shift]
    have a1 : (fun j => decide ((x :: xs).getD (j + 1) 0 = (y :: ys).getD (j + 1) 0)) = fun j => decide (xs.getD j 0 = ys.getD j 0) := rfl
    have a2 : (fun j => decide ((x :: xs).getD (j + 1) 0 ≤ (y :: ys).getD (j + 1) 0)) = fun j => decide (xs.getD j 0 ≤ ys.getD j 0) := rfl
    have a3 : decide ((x :: xs).length ≤ (y :: ys).length) = decide (xs.length ≤ ys.length) := by
      rw [List.length_cons, List.length_cons]
      exact decide_eq_decide.mpr Nat.succ_le_succ_iff
    rw [a3]
    rfl
  · rw [if_neg (by simpa using h), if_neg h]
theorem leL_eq : ∀ xs ys : List Int, leL xs ys = !HT.lexLt ys xs
  | [], [] => by rw [leL_nil]; rfl
  | [], y :: ys => by rw [leL_nil]; rfl
  | x :: xs, [] => by rw [leL_cons_nil]; rfl
  | x :: xs, y :: ys => by
    rw [leL_cons, HT.lexLt_cons]
    by_cases h : x = y
    · rw [if_pos h, if_pos h.symm]
      exact leL_eq xs ys
    · rw [if_neg h, if_neg fun z => h z.symm]
      by_cases g : y < x
      · rw [decide_eq_true g, decide_eq_false (by omega)]
        rfl
      · rw [decide_eq_false g, decide_eq_true (by omega)]
        rfl
theorem g_leT {xs ys : List PyData} {Q : PyData → Prop} : W1 (gLe (.tuple xs) (.tuple ys)) Q = W1 (intsD xs) fun ns => W1 (intsD ys) fun ms => Q (.bool (!HT.lexLt ms ns)) := by
  unfold gLe gB gLeT
  simp only [Option.none_or]
  cases intsD xs with
  | none => rfl
  | some ns =>
    simp only [W1_some]
    cases intsD ys with
    | none => rfl
    | some ms =>
      simp only [W1_some, leL_eq]
theorem lin_lex : Rg.Lin HT.lexLt := by
  refine ⟨lex_irr, fun x y z h1 h2 => ?_, fun x y h1 h2 => lex_tot h1 h2⟩
  cases q : HT.lexLt x z with
  | true => rfl
  | false =>
    have := NtL.lex_tr z x y q (NtL.lex_asym x y h1)
    rw [h2] at this
    cases this
abbrev Vr := List Int
def rdH : Option Vr → PyData
  | none => .none
  | some h => tupI h
def rd (p : Vr × Option Vr) : PyData := .tuple [tupI p.1, rdH p.2]
abbrev rds (ps : List (Vr × Option Vr)) : PyData := .tuple (ps.map rd)
end Fj

set_option Elab.async false
set_option linter.all false
set_option maxRecDepth 100000
set_option maxHeartbeats 4000000
set_option autoImplicit false
/-! Steps of two. -/
namespace Fj
open PySem PySem.Spec PyProof.Rows L2
theorem size2 (n : Nat) : Builtin.Range.rangeSize 0 n 2 = (((n + 1) / 2 : Nat) : Int) := by
  unfold Builtin.Range.rangeSize
  rw [if_pos (by decide)]
  by_cases h : n = 0
  · subst h
    rfl
  · rw [if_pos (by omega)]
    omega
theorem prs_len {α : Type} : ∀ bs : List α, (Rg.prs bs).length = (bs.length + 1) / 2
  | [] => by simp [Rg.prs]
  | [a] => by simp [Rg.prs]
  | a :: b :: r => by
    show (Rg.prs r).length + 1 = _
    rw [prs_len r, List.length_cons, List.length_cons]
    omega
theorem prs_get {α : Type} : ∀ (bs : List α) (j : Nat), 2 * j < bs.length → ∃ x, bs[2 * j]? = some x ∧ (Rg.prs bs)[j]? = some (x, bs[2 * j + 1]?)
  | [], j, h => by simp at h
  | [a], j, h => by
    have : j = 0 := by simp at h; omega
    subst this
    exact ⟨a, rfl, rfl⟩
  | a :: b :: r, 0, _ => ⟨a, rfl, rfl⟩
  | a :: b :: r, j + 1, h => by
    have h' : 2 * j < r.length := by simp at h; omega
    obtain ⟨x, e1, e2⟩ := prs_get r j h'
    have i1 : 2 * (j + 1) = 2 * j + 1 + 1 := by omega
    refine ⟨x, ?_, ?_⟩
    · rw [i1]
      exact e1
    · rw [i1]
      exact e2
theorem rngC_len (lo st : Int) (n : Nat) : (rngCD lo st n).length = n := by
  unfold rngCD
  rw [List.length_map, List.length_range]
theorem rngC_get {lo st : Int} {n j : Nat} (h : j < n) : (rngCD lo st n)[j]? = some (.int (lo + (j : Nat) * st)) := by
  unfold rngCD
  rw [List.getElem?_map, List.getElem?_range h]
  rfl
theorem atI_nat {ds : List PyData} {k : Nat} : L2.atI ds (k : Int) = ds[k]? := by
  unfold L2.atI L2.ixN
  rw [if_pos (Int.natCast_nonneg k)]
  by_cases h : k < ds.length
  · rw [if_pos (by omega)]
    rfl
  · rw [if_neg (by omega), List.getElem?_eq_none (by omega)]
    rfl
theorem ends_get (bs : List Vr) (k : Nat) (h : k ≤ bs.length) : (bs.map tupI ++ [PyData.none])[k]? = some (rdH bs[k]?) := by
  by_cases g : k < bs.length
  · rw [List.getElem?_append_left (by rw [List.length_map]; exact g), List.getElem?_map, List.getElem?_eq_getElem g]
    rfl
  · have e : k = bs.length := by omega
    subst e
    rw [List.getElem?_append_right (by rw [List.length_map]; exact Nat.le_refl _), List.length_map, Nat.sub_self, List.getElem?_eq_none (Nat.le_refl _)]
    rfl
theorem fits {i : Int} (h0 : 0 ≤ i) (h : i < 2 ^ 40) : Builtin.Range.rangeFitsLong i = true := by
  unfold Builtin.Range.rangeFitsLong
  rw [Bool.and_eq_true]
  exact ⟨decide_eq_true (by omega), decide_eq_true (by omega)⟩
theorem small2 {n : Nat} (h : n ≤ 1000000) : Builtin.Range.small 0 n 2 = true := by
  unfold Builtin.Range.small
  rw [size2, fits (Int.le_refl 0) (by decide), fits (Int.natCast_nonneg n) (by omega), fits (i := 2) (by decide) (by decide), fits (Int.natCast_nonneg _) (by omega), if_pos (by decide), fits (i := (n : Int) + (2 - 1)) (by omega) (by omega)]
  exact Bool.or_true _
theorem r3_two {n : MA} {ρ ρ' : En} {k : Nat} {A : List PyData → En → Prop} (h : W (n ρ) fun ds r => ds = [.int 0, .int (k : Int), .int 2] ∧ r = ρ') (hk : k ≤ 1000000) (hA : A (rngCD 0 2 ((k + 1) / 2)) ρ') : W (mR3 n ρ) A := by
  obtain ⟨ds, r, e, rfl, rfl⟩ := h.at_
  have c : R3ok 0 (k : Int) 2 := ⟨by decide, by decide, small2 hk, by rw [size2]; omega⟩
  have e2 : mR3 n ρ = some (rngCD 0 2 (Builtin.Range.rangeSize 0 (k : Int) 2).toNat, r) := by
    unfold mR3
    rw [e]
    exact if_pos c
  rw [e2, size2, Int.toNat_natCast]
  exact hA
end Fj

set_option Elab.async false
set_option linter.all false
set_option maxRecDepth 100000
set_option maxHeartbeats 4000000
set_option autoImplicit false
/-! Rows of borders of versions: sorted, put together, held against one another. -/
namespace Fj
open PySem PySem.Spec PyProof.Rows L2

abbrev Upv (bs : List Vr) : Prop := Rg.Up HT.lexLt bs
abbrev inV (bs : List Vr) (v : Vr) : Bool := Rg.inB HT.lexLt bs v
abbrev srt (xs : List Vr) : List Vr := isort HT.lexLt (dedup xs)
theorem srt_up (xs : List Vr) : Upv (srt xs) := by
  have nd2 : (srt xs).Nodup := (isort_perm _ _).nodup_iff.mpr (nodup_dedup _)
  exact ((isort_sorted ord_lex _).and nd2).imp fun {a b} ⟨h1, h2⟩ => Bool.of_not_eq_false fun z => h2 (lex_tot z h1)
theorem mem_srt {xs : List Vr} {x : Vr} : x ∈ srt xs ↔ x ∈ xs := by
  rw [(isort_perm HT.lexLt _).mem_iff, mem_dedup]
theorem dedup_len {α : Type} [DecidableEq α] : ∀ xs : List α, (dedup xs).length ≤ xs.length
  | [] => Nat.le_refl _
  | x :: xs => by
    have := dedup_len xs
    unfold dedup
    split
    · rw [List.length_cons]; omega
    · rw [List.length_cons, List.length_cons]; omega
theorem srt_len (xs : List Vr) : (srt xs).length ≤ xs.length := by
  rw [(isort_perm HT.lexLt _).length_eq]
  exact dedup_len xs
/-- two rows put together by W -/
def cmb (W : Bool → Bool → Bool) (as bs : List Vr) : List Vr := Rg.chg (fun s => W (inV as s) (inV bs s)) false (srt (as ++ bs))
theorem cmb_up (W : Bool → Bool → Bool) (as bs : List Vr) : Upv (cmb W as bs) := Rg.chg_up _ _ (srt_up _)
theorem cmb_mem {W : Bool → Bool → Bool} {as bs : List Vr} {x : Vr} (h : x ∈ cmb W as bs) : x ∈ as ∨ x ∈ bs := List.mem_append.mp (mem_srt.mp ((Rg.chg_sub _ _ _).mem h))
theorem cmb_in {W : Bool → Bool → Bool} (hW : W false false = false) {as bs : List Vr} (ha : Upv as) (hb : Upv bs) (v : Vr) : inV (cmb W as bs) v = W (inV as v) (inV bs v) :=
  Rg.comb lin_lex hW ha hb (srt_up _) (fun x hx => mem_srt.mpr (List.mem_append_left _ hx)) (fun x hx => mem_srt.mpr (List.mem_append_right _ hx)) v
theorem cmb_len {W : Bool → Bool → Bool} {as bs : List Vr} : (cmb W as bs).length ≤ as.length + bs.length := by
  have h1 := (Rg.chg_sub (fun s => W (inV as s) (inV bs s)) false (srt (as ++ bs))).length_le
  have h2 := srt_len (as ++ bs)
  rw [List.length_append] at h2
  exact Nat.le_trans h1 h2
/-- the stretches of a row that are marked -/
def mrk (m : Vr → Bool) (ss : List Vr) : List Vr := Rg.chg m false ss
theorem mrk_up {m : Vr → Bool} {ss : List Vr} (h : Upv ss) : Upv (mrk m ss) := Rg.chg_up _ _ h
theorem mrk_mem {m : Vr → Bool} {ss : List Vr} {x : Vr} (h : x ∈ mrk m ss) : x ∈ ss := (Rg.chg_sub _ _ _).mem h
theorem mrk_len {m : Vr → Bool} {ss : List Vr} : (mrk m ss).length ≤ ss.length := (Rg.chg_sub _ _ _).length_le
theorem mrk_last {m : Vr → Bool} {ss : List Vr} (h : Upv ss) (v : Vr) : inV (mrk m ss) v = Rg.lastOf HT.lexLt m false ss v := by
  have e := Rg.inB_chg lin_lex m false ss h v
  rw [show ∀ x : Bool, (x != false) = x from fun x => by cases x <;> rfl] at e
  exact e
theorem mrk_in {m : Vr → Bool} {ss : List Vr} (h : Upv ss) {s : Vr} (hs : s ∈ ss) : inV (mrk m ss) s = m s := by
  rw [mrk_last h, Rg.last_mem lin_lex h hs]
/-- rows with borders of ss that hold the same of ss are the same -/
theorem row_eq {ss as bs : List Vr} (ha : Upv as) (hb : Upv bs) (h1 : ∀ x ∈ as, x ∈ ss) (h2 : ∀ x ∈ bs, x ∈ ss) (h : ∀ s ∈ ss, inV as s = inV bs s) : as = bs :=
  Rg.inB_inj lin_lex ha hb fun v hv => h v (hv.elim (h1 v) (h2 v))
theorem row_mrk {ss bs : List Vr} (hs : Upv ss) (hb : Upv bs) (h2 : ∀ x ∈ bs, x ∈ ss) : bs = mrk (inV bs) ss :=
  row_eq hb (mrk_up hs) h2 (fun x hx => mrk_mem hx) fun s h => (mrk_in hs h).symm
theorem row_len {ss bs : List Vr} (hs : Upv ss) (hb : Upv bs) (h2 : ∀ x ∈ bs, x ∈ ss) : bs.length ≤ ss.length := by
  rw [row_mrk hs hb h2]
  exact mrk_len
/-- marks by number are marks by name -/
theorem marks_fn : ∀ {ss : List Vr} {ms : List Bool}, Upv ss → ms.length = ss.length → ∃ m : Vr → Bool, ms = ss.map m
  | [], [], _, _ => ⟨fun _ => false, rfl⟩
  | s :: ss, b :: ms, hs, hl => by
    obtain ⟨h1, h2⟩ := List.pairwise_cons.mp hs
    obtain ⟨m, hm⟩ := marks_fn (ss := ss) (ms := ms) h2 (Nat.succ.inj hl)
    refine ⟨fun v => if v = s then b else m v, ?_⟩
    rw [List.map_cons]
    simp only [if_true]
    congr 1
    rw [hm]
    refine List.map_congr_left fun x hx => ?_
    rw [if_neg fun e => ?_]
    have := h1 x hx
    rw [e, lex_irr] at this
    cases this
  | [], _ :: _, _, hl => by cases hl
  | _ :: _, [], _, hl => by cases hl
/-- pairs, each below the next -/
def Chn : List (Vr × Option Vr) → Prop
  | [] => True
  | [_] => True
  | p :: q :: r => (∃ h, p.2 = some h ∧ HT.lexLt h q.1 = true) ∧ Chn (q :: r)
theorem prs_mem : ∀ {bs : List Vr}, Upv bs → ∀ p ∈ Rg.prs bs, p.1 ∈ bs ∧ ∀ h, p.2 = some h → h ∈ bs ∧ HT.lexLt p.1 h = true
  | [], _, p, hp => (List.not_mem_nil hp).elim
  | [a], _, p, hp => by
    rw [List.mem_singleton.mp hp]
    exact ⟨List.mem_cons_self .., fun h z => by cases z⟩
  | a :: b :: r, hu, p, hp => by
    obtain ⟨h1, h2⟩ := List.pairwise_cons.mp hu
    obtain ⟨h3, h4⟩ := List.pairwise_cons.mp h2
    rcases List.mem_cons.mp hp with e | e
    · rw [e]
      refine ⟨List.mem_cons_self .., fun h z => ?_⟩
      cases z
      exact ⟨List.mem_cons_of_mem _ (List.mem_cons_self ..), h1 b (List.mem_cons_self ..)⟩
    · obtain ⟨g1, g2⟩ := prs_mem h4 p e
      exact ⟨List.mem_cons_of_mem _ (List.mem_cons_of_mem _ g1), fun h z => ⟨List.mem_cons_of_mem _ (List.mem_cons_of_mem _ (g2 h z).1), (g2 h z).2⟩⟩
theorem prs_chn : ∀ {bs : List Vr}, Upv bs → Chn (Rg.prs bs)
  | [], _ => trivial
  | [a], _ => trivial
  | [a, b], _ => trivial
  | [a, b, c], hu => by
    obtain ⟨h1, h2⟩ := List.pairwise_cons.mp hu
    exact ⟨⟨b, rfl, (List.pairwise_cons.mp h2).1 c (List.mem_cons_self ..)⟩, trivial⟩
  | a :: b :: c :: d :: r, hu => by
    obtain ⟨h1, h2⟩ := List.pairwise_cons.mp hu
    obtain ⟨h3, h4⟩ := List.pairwise_cons.mp h2
    exact ⟨⟨b, rfl, h3 c (List.mem_cons_self ..)⟩, prs_chn h4⟩
theorem zip_chn : ∀ {ps : List (Vr × Option Vr)}, Chn ps → ∀ d ∈ zipD (ps.map rd) ((ps.map rd).drop 1), ∃ p q h, d = .tuple [rd p, rd q] ∧ p.2 = some h ∧ HT.lexLt h q.1 = true
  | [], _, d, hd => (List.not_mem_nil hd).elim
  | [p], _, d, hd => (List.not_mem_nil hd).elim
  | p :: q :: r, hc, d, hd => by
    obtain ⟨⟨h, h1, h2⟩, h3⟩ := hc
    have e : zipD ((p :: q :: r).map rd) (((p :: q :: r).map rd).drop 1) = .tuple [rd p, rd q] :: zipD ((q :: r).map rd) (((q :: r).map rd).drop 1) := rfl
    rw [e] at hd
    rcases List.mem_cons.mp hd with z | z
    · exact ⟨p, q, h, z, h1, h2⟩
    · exact zip_chn h3 d z
theorem unlike_nil {as bs : List Vr} (ha : Upv as) (hb : Upv bs) : cmb (fun a b => a || b) (cmb (fun a b => a && !b) as bs) (cmb (fun a b => a && !b) bs as) = [] ↔ as = bs := by
  have e : ∀ v, inV (cmb (fun a b => a || b) (cmb (fun a b => a && !b) as bs) (cmb (fun a b => a && !b) bs as)) v = ((inV as v && !inV bs v) || (inV bs v && !inV as v)) := fun v => by
    rw [cmb_in rfl (cmb_up ..) (cmb_up ..), cmb_in rfl ha hb, cmb_in rfl hb ha]
  constructor
  · intro z
    refine Rg.inB_inj lin_lex ha hb fun v _ => ?_
    have := e v
    rw [z] at this
    have this : false = _ := this
    show inV as v = inV bs v
    revert this
    cases inV as v <;> cases inV bs v <;> intro this <;> first | rfl | cases this
  · intro z
    subst z
    refine Rg.inB_inj lin_lex (cmb_up ..) .nil fun v _ => ?_
    have := e v
    refine this.trans ?_
    show _ = false
    cases inV as v <;> rfl
theorem prs_head (b : Vr) (r : List Vr) : ∃ x ps, Rg.prs (b :: r) = (b, x) :: ps := by
  cases r with
  | nil => exact ⟨none, [], rfl⟩
  | cons c r => exact ⟨some c, Rg.prs r, rfl⟩
theorem zip_fn {α β : Type} (m : α → β) : ∀ ss : List α, ss.zip (ss.map m) = ss.map fun s => (s, m s)
  | [] => rfl
  | s :: ss => by
    rw [List.map_cons, List.map_cons, List.zip_cons_cons, zip_fn m ss]
theorem zipD_sm {ss : List Vr} {ms : List Bool} : zipD (ss.map tupI) (ms.map .bool) = (ss.zip ms).map fun p => .tuple [tupI p.1, .bool p.2] := by
  unfold zipD
  rw [List.zip_map, List.map_map]
  rfl
theorem prs_le : ∀ bs : List Vr, (Rg.prs bs).length ≤ bs.length
  | [] => Nat.le_refl _
  | [a] => Nat.le_refl _
  | a :: b :: r => by
    have := prs_le r
    show (Rg.prs r).length + 1 ≤ r.length + 1 + 1
    omega
theorem rd_inj : ∀ {p q : Vr × Option Vr}, rd p = rd q → p = q
  | (a, x), (b, y), h => by
    have tI : ∀ {u v : Vr}, tupI u = tupI v → u = v := fun {u v} z => by
      injection z with z
      have := congrArg intsD z
      rw [intsD_map, intsD_map] at this
      exact Option.some.inj this
    unfold rd at h
    injection h with h
    injection h with h1 h2
    injection h2 with h2 _
    have e : a = b := tI h1
    subst e
    cases x with
    | none =>
      cases y with
      | none => rfl
      | some y => cases h2
    | some x =>
      cases y with
      | none => cases h2
      | some y =>
        have e : x = y := tI h2
        rw [e]
theorem rds_inj {ps qs : List (Vr × Option Vr)} (h : ps.map rd = qs.map rd) : ps = qs := by
  induction ps generalizing qs with
  | nil =>
    cases qs with
    | nil => rfl
    | cons q qs => cases h
  | cons p ps ih =>
    cases qs with
    | nil => cases h
    | cons q qs =>
      rw [List.map_cons, List.map_cons] at h
      injection h with h1 h2
      rw [rd_inj h1, ih h2]
theorem sim_tupI (v : Vr) : sim (tupI v) = true := by
  show sim (.tuple (v.map .int)) = true
  unfold sim
  exact simAll_ints v
theorem sim_rd (p : Vr × Option Vr) : sim (rd p) = true := by
  obtain ⟨a, x⟩ := p
  unfold rd
  cases x <;> simp [sim, simAll, rdH, simAll_ints]
theorem sim_rds (ps : List (Vr × Option Vr)) : simAll (ps.map rd) = true := simAll_of fun d hd => by
  obtain ⟨p, _, rfl⟩ := List.mem_map.mp hd
  exact sim_rd p
/-- a row of numbers of few figures -/
def Vsm (v : Vr) : Prop := v.length ≤ 5 ∧ ∀ i ∈ v, i.natAbs < 10 ^ 12
theorem Vsm.dat {v : Vr} (h : Vsm v) : Dat 1 5 (tupI v) := by
  refine Dat.tup (k := 0) ((DatL.of (k := 0) (w := 0) fun d hd => ?_).mono (Nat.le_refl _) ?_)
  · obtain ⟨i, hi, rfl⟩ := List.mem_map.mp hd
    exact .int (h.2 i hi)
  · rw [List.length_map]
    have := h.1
    omega
theorem rd_dat {p : Vr × Option Vr} (h : Vsm p.1) (h2 : ∀ x, p.2 = some x → Vsm x) : Dat 2 12 (rd p) := by
  have e : Dat 1 5 (rdH p.2) := by
    cases hp : p.2 with
    | none => exact .none
    | some x => exact (h2 x hp).dat
  exact (Dat.tup (k := 1) (.cons h.dat (.cons e .nil (b := 0)))).mono (Nat.le_refl _) (Nat.le_refl _)
theorem rds_dat {bs : List Vr} {n : Nat} (h : ∀ b ∈ bs, Vsm b) (hu : Upv bs) (hn : bs.length ≤ n) : Dat 3 (13 * n) (rds (Rg.prs bs)) := by
  refine Dat.tup (k := 2) ((DatL.of (k := 2) (w := 12) fun d hd => ?_).mono (Nat.le_refl _) ?_)
  · obtain ⟨p, hp, rfl⟩ := List.mem_map.mp hd
    obtain ⟨g1, g2⟩ := prs_mem hu p hp
    exact rd_dat (h _ g1) fun x hx => h _ (g2 x hx).1
  · rw [List.length_map]
    have := prs_le bs
    omega
theorem sub_dat {ps : List (Vr × Option Vr)} (h : ∀ p ∈ ps, Vsm p.1 ∧ ∀ x, p.2 = some x → Vsm x) : Dat 3 (13 * ps.length) (rds ps) := by
  refine Dat.tup (k := 2) ((DatL.of (k := 2) (w := 12) fun d hd => ?_).mono (Nat.le_refl _) ?_)
  · obtain ⟨p, hp, rfl⟩ := List.mem_map.mp hd
    exact rd_dat (h p hp).1 (h p hp).2
  · rw [List.length_map]
    exact Nat.le_refl _
theorem rds_eq {as bs : List Vr} {Q : PyData → Prop} (ha : ∀ b ∈ as, Vsm b) (hb : ∀ b ∈ bs, Vsm b) (ua : Upv as) (ub : Upv bs) : W1 (gEq (rds (Rg.prs as)) (rds (Rg.prs bs))) Q = Q (.bool (decide (as = bs))) :=
  g_eqD ((rds_dat ha ua (Nat.le_refl _)).shaped (by decide)) ((rds_dat hb ub (Nat.le_refl _)).shaped (by decide)) (sim_rds _) (sim_rds _) (by
    rw [decide_eq_true_iff]
    exact ⟨fun e => by rw [e], fun e => Rg.prs_inj (rds_inj e)⟩)
theorem tups_okD {d : Nat} {nss : List Vr} (hd : 1 ≤ d) (hl : nss.length < 64) (h : ∀ v ∈ nss, v.length = d ∧ ∀ i ∈ v, 0 ≤ i) : tupsOk nss = true := by
  unfold tupsOk
  rw [decide_eq_true hl, Bool.true_and, List.all_eq_true]
  intro v hv
  obtain ⟨h1, h2⟩ := h v hv
  rw [Bool.and_eq_true]
  refine ⟨List.all_eq_true.mpr fun i hi => decide_eq_true (h2 i hi), ?_⟩
  cases nss with
  | nil => exact (List.not_mem_nil hv).elim
  | cons m nss =>
    have := (h m (List.mem_cons_self ..)).1
    simp only [h1, this, beq_self_eq_true, Bool.true_and]
    exact decide_eq_true hd
theorem tups_ok5 {nss : List Vr} (hl : nss.length < 64) (h : ∀ v ∈ nss, v.length = 5 ∧ ∀ i ∈ v, 0 ≤ i) : tupsOk nss = true := tups_okD (by decide) hl h
/-- a stretch of a row -/
def seg (a : Vr) (hi : Option Vr) : List Vr := a :: hi.toList
theorem seg_prs (a : Vr) (hi : Option Vr) : Rg.prs (seg a hi) = [(a, hi)] := by
  cases hi <;> rfl
theorem up_get {ss : List Vr} (hs : Upv ss) {i j : Nat} (hij : i < j) (hj : j < ss.length) : HT.lexLt (ss[i]'(by omega)) ss[j] = true := List.pairwise_iff_getElem.mp hs i j (by omega) hj hij
theorem up_lt {ss : List Vr} (hs : Upv ss) {i j : Nat} (hi : i < ss.length) (hj : j < ss.length) (h : HT.lexLt ss[i] ss[j] = true) : i < j := by
  refine Nat.lt_of_not_le fun z => ?_
  rcases Nat.lt_or_eq_of_le z with e | e
  · have := lin_lex.asym (up_get hs e hi)
    rw [h] at this
    cases this
  · subst e
    rw [lex_irr] at h
    cases h
theorem up_ge {ss : List Vr} (hs : Upv ss) {i j : Nat} (hi : i < ss.length) (hj : j < ss.length) (h : HT.lexLt ss[i] ss[j] = false) : j ≤ i := by
  refine Nat.le_of_not_lt fun z => ?_
  rw [up_get hs z hj] at h
  cases h
/-- a range that holds marked ones of a row alone -/
def Good (ss : List Vr) (m : Vr → Bool) (r : List Vr) : Prop := Upv r ∧ (∀ x ∈ r, x ∈ ss) ∧ ∀ s ∈ ss, inV r s = true → m s = true
theorem seg_up {ss : List Vr} (hs : Upv ss) {i j : Nat} (hj : j < ss.length) (hij : i ≤ j) : Upv (seg (ss[i]'(by omega)) ss[j + 1]?) := by
  unfold seg
  by_cases h : j + 1 < ss.length
  · rw [List.getElem?_eq_getElem h]
    exact .cons (fun x hx => by rw [List.mem_singleton.mp hx]; exact up_get hs (by omega) h) (.cons (fun x hx => (List.not_mem_nil hx).elim) .nil)
  · rw [List.getElem?_eq_none (by omega)]
    exact .cons (fun x hx => (List.not_mem_nil hx).elim) .nil
theorem seg_mem {ss : List Vr} {i j : Nat} (hj : j < ss.length) (hij : i ≤ j) : ∀ x ∈ seg (ss[i]'(by omega)) ss[j + 1]?, x ∈ ss := by
  intro x hx
  rcases List.mem_cons.mp hx with e | e
  · rw [e]
    exact List.getElem_mem ..
  · by_cases h : j + 1 < ss.length
    · rw [List.getElem?_eq_getElem h] at e
      rw [List.mem_singleton.mp e]
      exact List.getElem_mem ..
    · rw [List.getElem?_eq_none (by omega)] at e
      exact (List.not_mem_nil e).elim
theorem seg_in {ss : List Vr} (hs : Upv ss) {i j k : Nat} (hj : j < ss.length) (hij : i ≤ j) (hk : k < ss.length) : inV (seg (ss[i]'(by omega)) ss[j + 1]?) ss[k] = decide (i ≤ k ∧ k ≤ j) := by
  have e0 : inV (seg (ss[i]'(by omega)) ss[j + 1]?) ss[k] = if HT.lexLt ss[k] (ss[i]'(by omega)) = true then false else !inV (ss[j + 1]?).toList ss[k] := rfl
  rw [e0]
  cases h1 : HT.lexLt ss[k] (ss[i]'(by omega)) with
  | true =>
    have := up_lt hs hk (by omega) h1
    rw [if_pos rfl, decide_eq_false (by omega)]
  | false =>
    have h1 := up_ge hs hk (by omega) h1
    rw [if_neg Bool.false_ne_true]
    by_cases h : j + 1 < ss.length
    · rw [List.getElem?_eq_getElem h]
      have e1 : inV (some ss[j + 1]).toList ss[k] = if HT.lexLt ss[k] ss[j + 1] = true then false else !false := rfl
      rw [e1]
      cases h2 : HT.lexLt ss[k] ss[j + 1] with
      | true =>
        have := up_lt hs hk h h2
        rw [if_pos rfl, decide_eq_true (by omega)]
        rfl
      | false =>
        have := up_ge hs hk h h2
        rw [if_neg Bool.false_ne_true, decide_eq_false (by omega)]
        rfl
    · rw [List.getElem?_eq_none (by omega), decide_eq_true (by omega)]
      rfl
theorem seg_good {ss : List Vr} {m : Vr → Bool} (hs : Upv ss) {i j : Nat} (hj : j < ss.length) (hij : i ≤ j) (hm : ∀ k, (hk : k < ss.length) → i ≤ k → k ≤ j → m ss[k] = true) : Good ss m (seg (ss[i]'(by omega)) ss[j + 1]?) := by
  refine ⟨seg_up hs hj hij, seg_mem hj hij, fun s h g => ?_⟩
  obtain ⟨k, hk, rfl⟩ := List.mem_iff_getElem.mp h
  rw [seg_in hs hj hij hk] at g
  have g := of_decide_eq_true g
  exact hm k hk g.1 g.2
theorem rows_of {P : Vr → Prop} : ∀ {ds : List PyData}, (∀ d ∈ ds, ∃ v, d = tupI v ∧ P v) → ∃ vs : List Vr, ds = vs.map tupI ∧ ∀ v ∈ vs, P v
  | [], _ => ⟨[], rfl, fun v hv => (List.not_mem_nil hv).elim⟩
  | d :: ds, h => by
    obtain ⟨v, rfl, hv⟩ := h d (List.mem_cons_self ..)
    obtain ⟨vs, rfl, hvs⟩ := rows_of fun x hx => h x (List.mem_cons_of_mem _ hx)
    exact ⟨v :: vs, rfl, fun x hx => (List.mem_cons.mp hx).elim (fun e => e ▸ hv) (hvs x)⟩
theorem ranges_of {P : List Vr → Prop} : ∀ {ds : List PyData}, (∀ d ∈ ds, ∃ r, d = rds (Rg.prs r) ∧ P r) → ∃ rs : List (List Vr), ds = rs.map (fun r => rds (Rg.prs r)) ∧ ∀ r ∈ rs, P r
  | [], _ => ⟨[], rfl, fun v hv => (List.not_mem_nil hv).elim⟩
  | d :: ds, h => by
    obtain ⟨v, rfl, hv⟩ := h d (List.mem_cons_self ..)
    obtain ⟨vs, rfl, hvs⟩ := ranges_of fun x hx => h x (List.mem_cons_of_mem _ hx)
    exact ⟨v :: vs, rfl, fun x hx => (List.mem_cons.mp hx).elim (fun e => e ▸ hv) (hvs x)⟩
theorem prs_inj' {r r' : List Vr} (h : rds (Rg.prs r) = rds (Rg.prs r')) : r = r' := by
  injection h with h
  exact Rg.prs_inj (rds_inj h)
end Fj

set_option Elab.async false
set_option linter.all false
set_option maxRecDepth 100000
set_option maxHeartbeats 4000000
set_option autoImplicit false
/-! More of rows; data that a law holds against itself; next ones. -/
namespace Fj
open PySem PySem.Spec PyProof.Rows L2
theorem g_isFalse {b : Bool} {Q : PyData → Prop} : W1 (gIs (.bool b) (.bool false)) Q = Q (.bool (!b)) := by
  cases b <;> rfl
theorem g_isBN {b : Bool} {Q : PyData → Prop} : W1 (gIs .none (.bool b)) Q = Q (.bool false) := rfl
/-- data of bounded depth -/
def Sm : Nat → PyData → Prop
  | _, .none => True
  | _, .bool _ => True
  | _, .int _ => True
  | _, .str _ => True
  | n + 1, .tuple xs => xs.length ≤ 1000 ∧ ∀ x ∈ xs, Sm n x
  | n + 1, .list xs => xs.length ≤ 1000 ∧ ∀ x ∈ xs, Sm n x
  | _, _ => False
theorem Sm.tup {n : Nat} {xs : List PyData} (h : xs.length ≤ 1000) (g : ∀ x ∈ xs, Sm n x) : Sm (n + 1) (.tuple xs) := ⟨h, g⟩
theorem Sm.lst {n : Nat} {xs : List PyData} (h : xs.length ≤ 1000) (g : ∀ x ∈ xs, Sm n x) : Sm (n + 1) (.list xs) := ⟨h, g⟩
theorem Sm.int {n : Nat} {i : Int} : Sm n (.int i) := by cases n <;> trivial
theorem Sm.bool {n : Nat} {i : Bool} : Sm n (.bool i) := by cases n <;> trivial
theorem Sm.none {n : Nat} : Sm n .none := by cases n <;> trivial
theorem Sm.str {n : Nat} {x : Str} : Sm n (.str x) := by cases n <;> trivial
theorem Sm.row {n : Nat} {v : Vr} (h : v.length ≤ 1000) : Sm (n + 1) (tupI v) := Sm.tup (by rw [List.length_map]; exact h) fun x hx => by
  obtain ⟨i, _, rfl⟩ := List.mem_map.mp hx
  exact .int
theorem Sm.rds {n : Nat} {bs : List Vr} (hl : bs.length ≤ 1000) (h : ∀ v ∈ bs, v.length ≤ 1000) (hu : Upv bs) : Sm (n + 3) (rds (Rg.prs bs)) := by
  refine Sm.tup (by rw [List.length_map]; exact Nat.le_trans (prs_le bs) hl) fun x hx => ?_
  obtain ⟨p, hp, rfl⟩ := List.mem_map.mp hx
  obtain ⟨g1, g2⟩ := prs_mem hu p hp
  refine Sm.tup (show 2 ≤ 1000 by decide) fun y hy => ?_
  rcases List.mem_cons.mp hy with e | e
  · rw [e]
    exact Sm.row (h _ g1)
  · rw [List.mem_singleton.mp e]
    cases hp2 : p.2 with
    | none => exact .none
    | some z => exact Sm.row (h _ (g2 z hp2).1)
theorem filter_none {α : Type} (xs : List α) : xs.filter (fun _ => false) = [] := List.filter_eq_nil_iff.mpr fun _ _ => Bool.false_ne_true
theorem cut_takeN {xs : List PyData} (k : Nat) : cutD xs none (some (k : Int)) = xs.take k := by
  by_cases h : k ≤ xs.length
  · exact cut_take k h
  · have e1 : HT.sIx xs.length 0 none = 0 := rfl
    have e2 : HT.sIx xs.length xs.length (some (k : Int)) = xs.length := by
      unfold HT.sIx
      simp only
      rw [if_neg (by omega), Int.toNat_natCast]
      omega
    unfold cutD
    rw [e1, e2, List.drop_zero, Nat.sub_zero, List.take_of_length_le (Nat.le_refl _), List.take_of_length_le (by omega)]
theorem atI_last {ds : List PyData} (h : ds ≠ []) : L2.atI ds (-1) = ds[ds.length - 1]? := by
  have hl : 0 < ds.length := List.length_pos_iff.mpr h
  unfold L2.atI L2.ixN
  rw [if_neg (by decide), if_pos (by omega)]
  show ds[_]? = _
  congr 1
  omega
/-- rows that hold the same are the same -/
theorem row_ext {as bs : List Vr} (ha : Upv as) (hb : Upv bs) (h : ∀ v, inV as v = inV bs v) : as = bs := Rg.inB_inj lin_lex ha hb fun v _ => h v
theorem cmb_mrk {W : Bool → Bool → Bool} (hW : W false false = false) {as bs ss : List Vr} (ha : Upv as) (hb : Upv bs) (hs : Upv ss) (h1 : ∀ x ∈ as, x ∈ ss) (h2 : ∀ x ∈ bs, x ∈ ss) : mrk (fun s => W (inV as s) (inV bs s)) ss = cmb W as bs :=
  row_eq (mrk_up hs) (cmb_up ..) (fun x hx => mrk_mem hx) (fun x hx => (cmb_mem hx).elim (h1 x) (h2 x)) fun s h => by rw [mrk_in hs h, cmb_in hW ha hb]
/-- the next version -/
def nx : Vr → Vr
  | [a, b, c, k, n] => if k < 3 then [a, b, c, k, n + 1] else [a, b, c + 1, 0, 0]
  | v => v
theorem inV2 (u v w : Vr) : inV [u, v] w = (!HT.lexLt w u && HT.lexLt w v) := by
  show (if HT.lexLt w u = true then false else !(if HT.lexLt w v = true then false else !false)) = _
  cases HT.lexLt w u <;> cases HT.lexLt w v <;> rfl
theorem tupI_inj {u v : Vr} (z : tupI u = tupI v) : u = v := by
  injection z with z
  have := congrArg intsD z
  rw [intsD_map, intsD_map] at this
  exact Option.some.inj this
theorem row_eqv {u v : Vr} {Q : PyData → Prop} (hu : Vsm u) (hv : Vsm v) : W1 (gEq (tupI u) (tupI v)) Q = Q (.bool (decide (u = v))) :=
  g_eqD (hu.dat.shaped (by decide)) (hv.dat.shaped (by decide)) (simAll_ints u) (simAll_ints v) (by
    rw [decide_eq_true_iff]
    exact ⟨fun e => by rw [e], fun e => tupI_inj (congrArg PyData.tuple e)⟩)
theorem min_spec : ∀ (ns : List (List Int)) (n : List Int), (minRow n ns = n ∨ minRow n ns ∈ ns) ∧ HT.lexLt n (minRow n ns) = false ∧ ∀ y ∈ ns, HT.lexLt y (minRow n ns) = false
  | [], n => ⟨.inl rfl, lex_irr n, fun y z => (List.not_mem_nil z).elim⟩
  | y :: ns, n => by
    have e : minRow n (y :: ns) = minRow (if HT.lexLt y n = true then y else n) ns := rfl
    rw [e]
    by_cases h : HT.lexLt y n = true
    · rw [if_pos h]
      obtain ⟨h1, h2, h3⟩ := min_spec ns y
      refine ⟨.inr (h1.elim (fun z => by rw [z]; exact List.mem_cons_self ..) fun z => List.mem_cons_of_mem _ z), ?_, fun x hx => ?_⟩
      · exact Rg.Lin.lele lin_lex h2 (Rg.Lin.asym lin_lex h)
      · rcases List.mem_cons.mp hx with z | z
        · rw [z]
          exact h2
        · exact h3 x z
    · rw [if_neg h]
      obtain ⟨h1, h2, h3⟩ := min_spec ns n
      refine ⟨h1.imp id fun z => List.mem_cons_of_mem _ z, h2, fun x hx => ?_⟩
      rcases List.mem_cons.mp hx with z | z
      · rw [z]
        exact Rg.Lin.lele lin_lex h2 (Bool.eq_false_iff.mpr h)
      · exact h3 x z
theorem map_bools {α : Type} (f : α → Bool) (xs : List α) : (xs.map fun x => PyData.bool (f x)) = (xs.map f).map .bool := by
  rw [List.map_map]
  rfl
end Fj

set_option Elab.async false
set_option linter.all false
set_option maxRecDepth 100000
set_option maxHeartbeats 4000000
set_option autoImplicit false
/-! Certificates about ranges; the least of what is drawn. -/
namespace Fj
open PySem PySem.Spec PyProof.Rows L2
def thD : Str ⊕ Vr → PyData
  | .inl s => .tuple [.str s]
  | .inr v => .tuple [.str "version", tupI v]
def pap (w : Str) : List Vr → Str ⊕ Vr
  | [] => .inl w
  | b :: _ => .inr b
def Gs : Str ⊕ Vr → Prop
  | .inl s => s = "within" ∨ s = "same"
  | .inr v => Vsm v
theorem dat_same : Dat 0 4 (.str ("same" : Str)) := Dat.str (x := "same") (by simp only [PyData.canLay0]; decide +kernel) (by decide)
theorem dat_within : Dat 0 6 (.str ("within" : Str)) := Dat.str (x := "within") (by simp only [PyData.canLay0]; decide +kernel) (by decide)
theorem dat_version : Dat 0 7 (.str ("version" : Str)) := Dat.str (x := "version") (by simp only [PyData.canLay0]; decide +kernel) (by decide)
theorem thD_dat {x : Str ⊕ Vr} (h : Gs x) : Dat 2 20 (thD x) := by
  cases x with
  | inl s =>
    rcases h with rfl | rfl
    · exact (Dat.tup (.cons dat_within .nil (b := 0))).mono (by decide) (by decide)
    · exact (Dat.tup (.cons dat_same .nil (b := 0))).mono (by decide) (by decide)
  | inr v => exact (Dat.tup (.cons (dat_version.mono (Nat.zero_le 1) (Nat.le_refl _)) (.cons (Vsm.dat h) .nil (b := 0)))).mono (by decide) (by decide)
theorem thD_inj {x y : Str ⊕ Vr} (h : thD x = thD y) : x = y := by
  cases x with
  | inl s =>
    cases y with
    | inl t =>
      injection h with h
      injection h with h _
      injection h with h
      rw [h]
    | inr v =>
      injection h with h
      injection h with _ h
      cases h
  | inr u =>
    cases y with
    | inl t =>
      injection h with h
      injection h with _ h
      cases h
    | inr v =>
      injection h with h
      injection h with _ h
      injection h with h _
      rw [tupI_inj h]
theorem thD_sim : ∀ x : Str ⊕ Vr, sim (thD x) = true
  | .inl s => by simp [thD, sim, simAll]
  | .inr v => by simp [thD, sim, simAll, simAll_ints]
theorem eq_sim {x y : PyData} {Q : PyData → Prop} (h1 : SeqAt.shaped x = true) (h2 : SeqAt.shaped y = true) (s1 : sim x = true) (s2 : sim y = true) (h3 : ∀ z w, x ≠ .str z ∨ y ≠ .str w) {b : Bool} (hb : b = true ↔ x = y) : W1 (gEq x y) Q = Q (.bool b) := by
  have e : PyData.eqv x y = b := by
    rw [Bool.eq_iff_iff, hb]
    exact eqv_iff x y s1 s2
  have e2 : gEqS x y = none := by
    unfold gEqS
    split
    · rename_i z w
      exact ((h3 z w).elim (fun h => absurd rfl h) fun h => absurd rfl h)
    · rfl
  unfold gEq gEqD
  rw [e2, Option.none_or, h1, h2, e]
  rfl
theorem th_eq {x y : Str ⊕ Vr} {Q : PyData → Prop} (hx : Gs x) (hy : Gs y) : W1 (gEq (thD x) (thD y)) Q = Q (.bool (decide (x = y))) := by
  refine eq_sim ((thD_dat hx).shaped (by decide)) ((thD_dat hy).shaped (by decide)) (thD_sim x) (thD_sim y) (fun z w => .inl fun e => ?_) ?_
  · cases x <;> cases e
  · rw [decide_eq_true_iff]
    exact ⟨fun e => by rw [e], thD_inj⟩
theorem th_sm {n : Nat} {x : Str ⊕ Vr} (h : Gs x) : Sm (n + 2) (thD x) := by
  cases x with
  | inl s =>
    refine Sm.tup (by simp) fun y hy => ?_
    rw [List.mem_singleton.mp hy]
    exact .str
  | inr v =>
    refine Sm.tup (by simp) fun y hy => ?_
    simp only [List.mem_cons, List.not_mem_nil, or_false] at hy
    rcases hy with rfl | rfl
    · exact .str
    · exact Sm.row (Nat.le_trans h.1 (by decide))
theorem pap_gs {w : Str} {bs : List Vr} (hw : w = "within" ∨ w = "same") (h : ∀ v ∈ bs, Vsm v) : Gs (pap w bs) := by
  cases bs with
  | nil => exact hw
  | cons b r => exact h b (List.mem_cons_self ..)
theorem row_nev {u v : Vr} {Q : PyData → Prop} (hu : Vsm u) (hv : Vsm v) : W1 (gNe (tupI u) (tupI v)) Q = Q (.bool (!decide (u = v))) :=
  g_neD (hu.dat.shaped (by decide)) (hv.dat.shaped (by decide)) (simAll_ints u) (simAll_ints v) (by
    rw [decide_eq_true_iff]
    exact ⟨fun e => by rw [e], fun e => tupI_inj (congrArg PyData.tuple e)⟩)
theorem ni1 : gNotInD (.int 1) (.tuple [.int 1, .int 2]) = some (.bool false) := by rfl
theorem ni2 : gNotInD (.int 2) (.tuple [.int 1, .int 2]) = some (.bool false) := by rfl
theorem head_in {b : Vr} {r : List Vr} (hu : Upv (b :: r)) : inV (b :: r) b = true := by
  show (if HT.lexLt b b = true then false else !inV r b) = true
  rw [lex_irr, if_neg Bool.false_ne_true]
  have : inV r b = false := Rg.inB_none lin_lex fun x hx => (List.pairwise_cons.mp hu).1 x hx
  rw [this]
  rfl
theorem below_in {b v : Vr} {r : List Vr} (h : inV (b :: r) v = true) : HT.lexLt v b = false := by
  cases z : HT.lexLt v b with
  | false => rfl
  | true =>
    have : inV (b :: r) v = false := if_pos z
    rw [this] at h
    cases h
theorem some_nil {ws rest : List Vr} (hu : Upv rest) (hin : ∀ v ∈ rest, v ∈ ws) : (ws.filter fun v => inV rest v).isEmpty = rest.isEmpty := by
  cases rest with
  | nil =>
    have : (ws.filter fun v => inV [] v) = [] := List.filter_eq_nil_iff.mpr fun v _ => by
      show ¬ false = true
      exact Bool.false_ne_true
    rw [this]
  | cons b r =>
    have hb : b ∈ ws.filter fun v => inV (b :: r) v := List.mem_filter.mpr ⟨hin b (List.mem_cons_self ..), head_in hu⟩
    cases h : ws.filter fun v => inV (b :: r) v with
    | nil =>
      rw [h] at hb
      exact (List.not_mem_nil hb).elim
    | cons m ms => rfl
theorem some_min {ws r ms : List Vr} {b m : Vr} (hu : Upv (b :: r)) (hin : b ∈ ws) (e : (ws.filter fun v => inV (b :: r) v) = m :: ms) : minRow m ms = b := by
  obtain ⟨h1, h2, h3⟩ := min_spec ms m
  have hall : ∀ v, v ∈ m :: ms ↔ v ∈ ws ∧ inV (b :: r) v = true := fun v => by rw [← e, List.mem_filter]
  have hb : b ∈ m :: ms := (hall b).mpr ⟨hin, head_in hu⟩
  have hm : minRow m ms ∈ m :: ms := h1.elim (fun z => by rw [z]; exact List.mem_cons_self ..) fun z => List.mem_cons_of_mem _ z
  refine lin_lex.tot _ _ (below_in ((hall _).mp hm).2) ?_
  rcases List.mem_cons.mp hb with z | z
  · rw [z]
    exact h2
  · exact h3 b z
theorem rds_eqNil {bs : List Vr} {Q : PyData → Prop} (hs : SeqAt.shaped (rds (Rg.prs bs)) = true) : W1 (gEq (rds (Rg.prs bs)) (.tuple [])) Q = Q (.bool bs.isEmpty) := by
  rw [g_eqNilT]
  have e : ((Rg.prs bs).map rd).isEmpty = bs.isEmpty := by
    cases bs with
    | nil => rfl
    | cons b r =>
      obtain ⟨x, ps, e⟩ := prs_head b r
      rw [e]
      rfl
  rw [e]
  exact propext ⟨fun h => h.2, fun h => ⟨hs, h⟩⟩
theorem rds_neNil {bs : List Vr} {Q : PyData → Prop} (hs : SeqAt.shaped (rds (Rg.prs bs)) = true) : W1 (gNe (rds (Rg.prs bs)) (.tuple [])) Q = Q (.bool (!bs.isEmpty)) := by
  rw [g_neNilT]
  have e : ((Rg.prs bs).map rd).isEmpty = bs.isEmpty := by
    cases bs with
    | nil => rfl
    | cons b r =>
      obtain ⟨x, ps, e⟩ := prs_head b r
      rw [e]
      rfl
  rw [e]
  exact propext ⟨fun h => h.2, fun h => ⟨hs, h⟩⟩
theorem rds_first {b : Vr} {r : List Vr} {Q : PyData → Prop} : (W1 (gIx (rds (Rg.prs (b :: r))) (.int 0)) fun d => W1 (gIx d (.int 0)) Q) = Q (tupI b) := by
  obtain ⟨x, ps, e⟩ := prs_head b r
  rw [e]
  show (W1 (gIx (.tuple (.tuple [tupI b, rdH x] :: ps.map rd)) (.int 0)) fun d => W1 (gIx d (.int 0)) Q) = _
  simp only [g_ixT, at_0, W1_some]
end Fj

set_option Elab.async false
set_option linter.all false
set_option maxRecDepth 100000
set_option maxHeartbeats 0
namespace L_k08
open PySem PySem.Spec PyProof.Rows L2 Fj
noncomputable section

def top (i : Nat) : Stmt := PySem.Challenge.pw_facejudge_k08_whole_ranges_within_others.main.body.getD i (.Pass ⟨0, 0, 0, 0⟩)
abbrev s_is_integer : Stmt := top 4
abbrev s_is_in : Stmt := top 12
abbrev s_borders_of : Stmt := top 13
abbrev s_range_by : Stmt := top 14
abbrev s_least_of : Stmt := top 18
abbrev s__law_deck : Stmt := top 29
abbrev s__law_draw : Stmt := top 30
abbrev s__law_next : Stmt := top 37
abbrev s__law_in : Stmt := top 39
abbrev s__law_borders : Stmt := top 40
abbrev s__law_made : Stmt := top 41
abbrev s_is_version_value : Stmt := top 7
abbrev s_combined : Stmt := top 15
abbrev s_paper_for : Stmt := top 21
abbrev s__law_pick : Stmt := top 31
abbrev s__law_mixed : Stmt := top 33
abbrev s__law_joined : Stmt := top 42
abbrev s__law_cut : Stmt := top 43
abbrev s__law_without : Stmt := top 44
abbrev s_is_pair_of_ends : Stmt := top 9
abbrev s_joined_of : Stmt := top 16
abbrev s_without_of : Stmt := top 17
abbrev s_is_paper_for : Stmt := top 22
abbrev s__law_number : Stmt := top 34
abbrev s_is_range_value : Stmt := top 10
abbrev s_unlike : Stmt := top 23
abbrev s__law_version : Stmt := top 35
abbrev s_need_range : Stmt := top 11
abbrev s__law_versions : Stmt := top 36
abbrev s__law_range : Stmt := top 38
abbrev s__law_pool : Stmt := top 45
abbrev s_need_two : Stmt := top 20
abbrev s__law_span_pairs : Stmt := top 46
abbrev s_judge_within : Stmt := top 24
abbrev s_within_holds : Stmt := top 25
abbrev s_judge_same : Stmt := top 26
abbrev s_same_holds : Stmt := top 27
abbrev s__law_same : Stmt := top 32
abbrev s__law_part_within : Stmt := top 47
abbrev s__law_part_alike : Stmt := top 48
abbrev s_law : Stmt := top 49
abbrev FnP (K : PySem.W.Frag) (x : Str) (st : Stmt) (f : Addr) (fd : FuncData) : Prop := FunD K x x (defArgs st) (defBody st) (defScope st) [] [] f fd
abbrev N_is_integer : List Str := ["thing"]
abbrev P_is_integer : List Str := ["thing"]
theorem sc_is_integer : FnScope N_is_integer P_is_integer (defScope s_is_integer) := ⟨rfl, rfl, rfl, by decide +kernel, rfl, by decide +kernel, by decide +kernel⟩
def d_is_integer : He.DefD := ⟨("is_integer", none), "is_integer", "is_integer", defArgs s_is_integer, defBody s_is_integer, defScope s_is_integer, [], []⟩
abbrev N_is_in : List Str := ["span", "version", "low", "high"]
abbrev P_is_in : List Str := ["span", "version"]
theorem sc_is_in : FnScope N_is_in P_is_in (defScope s_is_in) := ⟨rfl, rfl, rfl, by decide +kernel, rfl, by decide +kernel, by decide +kernel⟩
def d_is_in : He.DefD := ⟨("is_in", none), "is_in", "is_in", defArgs s_is_in, defBody s_is_in, defScope s_is_in, [], []⟩
abbrev N_borders_of : List Str := ["span", "found", "low", "high"]
abbrev P_borders_of : List Str := ["span"]
theorem sc_borders_of : FnScope N_borders_of P_borders_of (defScope s_borders_of) := ⟨rfl, rfl, rfl, by decide +kernel, rfl, by decide +kernel, by decide +kernel⟩
def d_borders_of : He.DefD := ⟨("borders_of", none), "borders_of", "borders_of", defArgs s_borders_of, defBody s_borders_of, defScope s_borders_of, [], []⟩
abbrev N_range_by : List Str := ["borders", "ends", "at"]
abbrev P_range_by : List Str := ["borders"]
theorem sc_range_by : FnScope N_range_by P_range_by (defScope s_range_by) := ⟨rfl, rfl, rfl, by decide +kernel, rfl, by decide +kernel, by decide +kernel⟩
def d_range_by : He.DefD := ⟨("range_by", none), "range_by", "range_by", defArgs s_range_by, defBody s_range_by, defScope s_range_by, [], []⟩
abbrev N_least_of : List Str := ["span"]
abbrev P_least_of : List Str := ["span"]
theorem sc_least_of : FnScope N_least_of P_least_of (defScope s_least_of) := ⟨rfl, rfl, rfl, by decide +kernel, rfl, by decide +kernel, by decide +kernel⟩
def d_least_of : He.DefD := ⟨("least_of", none), "least_of", "least_of", defArgs s_least_of, defBody s_least_of, defScope s_least_of, [], []⟩
abbrev N__law_deck : List Str := ["script", "mixed", "cell"]
abbrev P__law_deck : List Str := ["script"]
theorem sc__law_deck : FnScope N__law_deck P__law_deck (defScope s__law_deck) := ⟨rfl, rfl, rfl, by decide +kernel, rfl, by decide +kernel, by decide +kernel⟩
def d__law_deck : He.DefD := ⟨("_law_deck", none), "_law_deck", "_law_deck", defArgs s__law_deck, defBody s__law_deck, defScope s__law_deck, [], []⟩
abbrev N__law_draw : List Str := ["deck", "below", "figure", "cell"]
abbrev P__law_draw : List Str := ["deck", "below"]
theorem sc__law_draw : FnScope N__law_draw P__law_draw (defScope s__law_draw) := ⟨rfl, rfl, rfl, by decide +kernel, rfl, by decide +kernel, by decide +kernel⟩
def d__law_draw : He.DefD := ⟨("_law_draw", none), "_law_draw", "_law_draw", defArgs s__law_draw, defBody s__law_draw, defScope s__law_draw, [], []⟩
abbrev N__law_next : List Str := ["version", "a", "b", "c", "k", "n"]
abbrev P__law_next : List Str := ["version"]
theorem sc__law_next : FnScope N__law_next P__law_next (defScope s__law_next) := ⟨rfl, rfl, rfl, by decide +kernel, rfl, by decide +kernel, by decide +kernel⟩
def d__law_next : He.DefD := ⟨("_law_next", none), "_law_next", "_law_next", defArgs s__law_next, defBody s__law_next, defScope s__law_next, [], []⟩
abbrev N__law_in : List Str := ["span", "version", "low", "high"]
abbrev P__law_in : List Str := ["span", "version"]
theorem sc__law_in : FnScope N__law_in P__law_in (defScope s__law_in) := ⟨rfl, rfl, rfl, by decide +kernel, rfl, by decide +kernel, by decide +kernel⟩
def d__law_in : He.DefD := ⟨("_law_in", none), "_law_in", "_law_in", defArgs s__law_in, defBody s__law_in, defScope s__law_in, [], []⟩
abbrev N__law_borders : List Str := ["spans", "found", "span", "low", "high"]
abbrev P__law_borders : List Str := ["spans"]
theorem sc__law_borders : FnScope N__law_borders P__law_borders (defScope s__law_borders) := ⟨rfl, rfl, rfl, by decide +kernel, rfl, by decide +kernel, by decide +kernel⟩
def d__law_borders : He.DefD := ⟨("_law_borders", none), "_law_borders", "_law_borders", defArgs s__law_borders, defBody s__law_borders, defScope s__law_borders, [], []⟩
abbrev N__law_made : List Str := ["borders", "marks", "found", "begun", "border", "is_in_v"]
abbrev P__law_made : List Str := ["borders", "marks"]
theorem sc__law_made : FnScope N__law_made P__law_made (defScope s__law_made) := ⟨rfl, rfl, rfl, by decide +kernel, rfl, by decide +kernel, by decide +kernel⟩
def d__law_made : He.DefD := ⟨("_law_made", none), "_law_made", "_law_made", defArgs s__law_made, defBody s__law_made, defScope s__law_made, [], []⟩
abbrev N_is_version_value : List Str := ["thing", "part"]
abbrev P_is_version_value : List Str := ["thing"]
theorem sc_is_version_value : FnScope N_is_version_value P_is_version_value (defScope s_is_version_value) := ⟨rfl, rfl, rfl, by decide +kernel, rfl, by decide +kernel, by decide +kernel⟩
def d_is_version_value : He.DefD := ⟨("is_version_value", none), "is_version_value", "is_version_value", defArgs s_is_version_value, defBody s_is_version_value, defScope s_is_version_value, [], []⟩
abbrev N_combined : List Str := ["one", "other", "wished", "version", "borders", "was", "now"]
abbrev P_combined : List Str := ["one", "other", "wished"]
theorem sc_combined : FnScope N_combined P_combined (defScope s_combined) := ⟨rfl, rfl, rfl, by decide +kernel, rfl, by decide +kernel, by decide +kernel⟩
def d_combined : He.DefD := ⟨("combined", none), "combined", "combined", defArgs s_combined, defBody s_combined, defScope s_combined, [], []⟩
abbrev N_paper_for : List Str := ["rest", "word"]
abbrev P_paper_for : List Str := ["rest", "word"]
theorem sc_paper_for : FnScope N_paper_for P_paper_for (defScope s_paper_for) := ⟨rfl, rfl, rfl, by decide +kernel, rfl, by decide +kernel, by decide +kernel⟩
def d_paper_for : He.DefD := ⟨("paper_for", none), "paper_for", "paper_for", defArgs s_paper_for, defBody s_paper_for, defScope s_paper_for, [], []⟩
abbrev N__law_pick : List Str := ["deck", "some"]
abbrev P__law_pick : List Str := ["deck", "some"]
theorem sc__law_pick : FnScope N__law_pick P__law_pick (defScope s__law_pick) := ⟨rfl, rfl, rfl, by decide +kernel, rfl, by decide +kernel, by decide +kernel⟩
def d__law_pick : He.DefD := ⟨("_law_pick", none), "_law_pick", "_law_pick", defArgs s__law_pick, defBody s__law_pick, defScope s__law_pick, [], []⟩
abbrev N__law_mixed : List Str := ["deck", "some", "marks", "at", "mark"]
abbrev P__law_mixed : List Str := ["deck", "some"]
theorem sc__law_mixed : FnScope N__law_mixed P__law_mixed (defScope s__law_mixed) := ⟨rfl, rfl, rfl, by decide +kernel, rfl, by decide +kernel, by decide +kernel⟩
def d__law_mixed : He.DefD := ⟨("_law_mixed", none), "_law_mixed", "_law_mixed", defArgs s__law_mixed, defBody s__law_mixed, defScope s__law_mixed, [], []⟩
abbrev N__law_joined : List Str := ["one", "other", "borders", "version"]
abbrev P__law_joined : List Str := ["one", "other"]
theorem sc__law_joined : FnScope N__law_joined P__law_joined (defScope s__law_joined) := ⟨rfl, rfl, rfl, by decide +kernel, rfl, by decide +kernel, by decide +kernel⟩
def d__law_joined : He.DefD := ⟨("_law_joined", none), "_law_joined", "_law_joined", defArgs s__law_joined, defBody s__law_joined, defScope s__law_joined, [], []⟩
abbrev N__law_cut : List Str := ["one", "other", "borders", "version"]
abbrev P__law_cut : List Str := ["one", "other"]
theorem sc__law_cut : FnScope N__law_cut P__law_cut (defScope s__law_cut) := ⟨rfl, rfl, rfl, by decide +kernel, rfl, by decide +kernel, by decide +kernel⟩
def d__law_cut : He.DefD := ⟨("_law_cut", none), "_law_cut", "_law_cut", defArgs s__law_cut, defBody s__law_cut, defScope s__law_cut, [], []⟩
abbrev N__law_without : List Str := ["one", "other", "borders", "version"]
abbrev P__law_without : List Str := ["one", "other"]
theorem sc__law_without : FnScope N__law_without P__law_without (defScope s__law_without) := ⟨rfl, rfl, rfl, by decide +kernel, rfl, by decide +kernel, by decide +kernel⟩
def d__law_without : He.DefD := ⟨("_law_without", none), "_law_without", "_law_without", defArgs s__law_without, defBody s__law_without, defScope s__law_without, [], []⟩
abbrev N_is_pair_of_ends : List Str := ["thing"]
abbrev P_is_pair_of_ends : List Str := ["thing"]
theorem sc_is_pair_of_ends : FnScope N_is_pair_of_ends P_is_pair_of_ends (defScope s_is_pair_of_ends) := ⟨rfl, rfl, rfl, by decide +kernel, rfl, by decide +kernel, by decide +kernel⟩
def d_is_pair_of_ends : He.DefD := ⟨("is_pair_of_ends", none), "is_pair_of_ends", "is_pair_of_ends", defArgs s_is_pair_of_ends, defBody s_is_pair_of_ends, defScope s_is_pair_of_ends, [], []⟩
abbrev N_joined_of : List Str := ["one", "other"]
abbrev P_joined_of : List Str := ["one", "other"]
theorem sc_joined_of : FnScope N_joined_of P_joined_of (defScope s_joined_of) := ⟨rfl, rfl, rfl, by decide +kernel, rfl, by decide +kernel, by decide +kernel⟩
def d_joined_of : He.DefD := ⟨("joined_of", none), "joined_of", "joined_of", defArgs s_joined_of, defBody s_joined_of, defScope s_joined_of, [], []⟩
abbrev N_without_of : List Str := ["one", "other"]
abbrev P_without_of : List Str := ["one", "other"]
theorem sc_without_of : FnScope N_without_of P_without_of (defScope s_without_of) := ⟨rfl, rfl, rfl, by decide +kernel, rfl, by decide +kernel, by decide +kernel⟩
def d_without_of : He.DefD := ⟨("without_of", none), "without_of", "without_of", defArgs s_without_of, defBody s_without_of, defScope s_without_of, [], []⟩
abbrev N_is_paper_for : List Str := ["rest", "word", "thing"]
abbrev P_is_paper_for : List Str := ["rest", "word", "thing"]
theorem sc_is_paper_for : FnScope N_is_paper_for P_is_paper_for (defScope s_is_paper_for) := ⟨rfl, rfl, rfl, by decide +kernel, rfl, by decide +kernel, by decide +kernel⟩
def d_is_paper_for : He.DefD := ⟨("is_paper_for", none), "is_paper_for", "is_paper_for", defArgs s_is_paper_for, defBody s_is_paper_for, defScope s_is_paper_for, [], []⟩
abbrev N__law_number : List Str := ["deck"]
abbrev P__law_number : List Str := ["deck"]
theorem sc__law_number : FnScope N__law_number P__law_number (defScope s__law_number) := ⟨rfl, rfl, rfl, by decide +kernel, rfl, by decide +kernel, by decide +kernel⟩
def d__law_number : He.DefD := ⟨("_law_number", none), "_law_number", "_law_number", defArgs s__law_number, defBody s__law_number, defScope s__law_number, [], []⟩
abbrev N_is_range_value : List Str := ["thing", "near", "far", "pair"]
abbrev P_is_range_value : List Str := ["thing"]
theorem sc_is_range_value : FnScope N_is_range_value P_is_range_value (defScope s_is_range_value) := ⟨rfl, rfl, rfl, by decide +kernel, rfl, by decide +kernel, by decide +kernel⟩
def d_is_range_value : He.DefD := ⟨("is_range_value", none), "is_range_value", "is_range_value", defArgs s_is_range_value, defBody s_is_range_value, defScope s_is_range_value, [], []⟩
abbrev N_unlike : List Str := ["one", "other"]
abbrev P_unlike : List Str := ["one", "other"]
theorem sc_unlike : FnScope N_unlike P_unlike (defScope s_unlike) := ⟨rfl, rfl, rfl, by decide +kernel, rfl, by decide +kernel, by decide +kernel⟩
def d_unlike : He.DefD := ⟨("unlike", none), "unlike", "unlike", defArgs s_unlike, defBody s_unlike, defScope s_unlike, [], []⟩
abbrev N__law_version : List Str := ["deck", "near", "k", "a", "b", "c", "n", "other", "turn"]
abbrev P__law_version : List Str := ["deck", "near"]
theorem sc__law_version : FnScope N__law_version P__law_version (defScope s__law_version) := ⟨rfl, rfl, rfl, by decide +kernel, rfl, by decide +kernel, by decide +kernel⟩
def d__law_version : He.DefD := ⟨("_law_version", none), "_law_version", "_law_version", defArgs s__law_version, defBody s__law_version, defScope s__law_version, [], []⟩
abbrev N_need_range : List Str := ["span"]
abbrev P_need_range : List Str := ["span"]
theorem sc_need_range : FnScope N_need_range P_need_range (defScope s_need_range) := ⟨rfl, rfl, rfl, by decide +kernel, rfl, by decide +kernel, by decide +kernel⟩
def d_need_range : He.DefD := ⟨("need_range", none), "need_range", "need_range", defArgs s_need_range, defBody s_need_range, defScope s_need_range, [], []⟩
abbrev N__law_versions : List Str := ["deck", "many", "found", "turn", "version"]
abbrev P__law_versions : List Str := ["deck", "many"]
theorem sc__law_versions : FnScope N__law_versions P__law_versions (defScope s__law_versions) := ⟨rfl, rfl, rfl, by decide +kernel, rfl, by decide +kernel, by decide +kernel⟩
def d__law_versions : He.DefD := ⟨("_law_versions", none), "_law_versions", "_law_versions", defArgs s__law_versions, defBody s__law_versions, defScope s__law_versions, [], []⟩
abbrev N__law_range : List Str := ["deck", "near", "most", "borders", "many", "found", "at", "turn"]
abbrev P__law_range : List Str := ["deck", "near", "most"]
theorem sc__law_range : FnScope N__law_range P__law_range (defScope s__law_range) := ⟨rfl, rfl, rfl, by decide +kernel, rfl, by decide +kernel, by decide +kernel⟩
def d__law_range : He.DefD := ⟨("_law_range", none), "_law_range", "_law_range", defArgs s__law_range, defBody s__law_range, defScope s__law_range, [], []⟩
abbrev N__law_pool : List Str := ["deck", "spans", "more", "found", "version", "turn"]
abbrev P__law_pool : List Str := ["deck", "spans", "more"]
theorem sc__law_pool : FnScope N__law_pool P__law_pool (defScope s__law_pool) := ⟨rfl, rfl, rfl, by decide +kernel, rfl, by decide +kernel, by decide +kernel⟩
def d__law_pool : He.DefD := ⟨("_law_pool", none), "_law_pool", "_law_pool", defArgs s__law_pool, defBody s__law_pool, defScope s__law_pool, [], []⟩
abbrev N_need_two : List Str := ["one", "other"]
abbrev P_need_two : List Str := ["one", "other"]
theorem sc_need_two : FnScope N_need_two P_need_two (defScope s_need_two) := ⟨rfl, rfl, rfl, by decide +kernel, rfl, by decide +kernel, by decide +kernel⟩
def d_need_two : He.DefD := ⟨("need_two", none), "need_two", "need_two", defArgs s_need_two, defBody s_need_two, defScope s_need_two, [], []⟩
abbrev N__law_span_pairs : List Str := ["deck", "versions", "small", "some", "one", "other", "third", "whole", "version", "less", "more", "turn"]
abbrev P__law_span_pairs : List Str := ["deck", "versions"]
theorem sc__law_span_pairs : FnScope N__law_span_pairs P__law_span_pairs (defScope s__law_span_pairs) := ⟨rfl, rfl, rfl, by decide +kernel, rfl, by decide +kernel, by decide +kernel⟩
def d__law_span_pairs : He.DefD := ⟨("_law_span_pairs", none), "_law_span_pairs", "_law_span_pairs", defArgs s__law_span_pairs, defBody s__law_span_pairs, defScope s__law_span_pairs, [], []⟩
abbrev N_judge_within : List Str := ["one", "other"]
abbrev P_judge_within : List Str := ["one", "other"]
theorem sc_judge_within : FnScope N_judge_within P_judge_within (defScope s_judge_within) := ⟨rfl, rfl, rfl, by decide +kernel, rfl, by decide +kernel, by decide +kernel⟩
def d_judge_within : He.DefD := ⟨("judge_within", none), "judge_within", "judge_within", defArgs s_judge_within, defBody s_judge_within, defScope s_judge_within, [], []⟩
abbrev N_within_holds : List Str := ["one", "other", "thing"]
abbrev P_within_holds : List Str := ["one", "other", "thing"]
theorem sc_within_holds : FnScope N_within_holds P_within_holds (defScope s_within_holds) := ⟨rfl, rfl, rfl, by decide +kernel, rfl, by decide +kernel, by decide +kernel⟩
def d_within_holds : He.DefD := ⟨("within_holds", none), "within_holds", "within_holds", defArgs s_within_holds, defBody s_within_holds, defScope s_within_holds, [], []⟩
abbrev N_judge_same : List Str := ["one", "other"]
abbrev P_judge_same : List Str := ["one", "other"]
theorem sc_judge_same : FnScope N_judge_same P_judge_same (defScope s_judge_same) := ⟨rfl, rfl, rfl, by decide +kernel, rfl, by decide +kernel, by decide +kernel⟩
def d_judge_same : He.DefD := ⟨("judge_same", none), "judge_same", "judge_same", defArgs s_judge_same, defBody s_judge_same, defScope s_judge_same, [], []⟩
abbrev N_same_holds : List Str := ["one", "other", "thing"]
abbrev P_same_holds : List Str := ["one", "other", "thing"]
theorem sc_same_holds : FnScope N_same_holds P_same_holds (defScope s_same_holds) := ⟨rfl, rfl, rfl, by decide +kernel, rfl, by decide +kernel, by decide +kernel⟩
def d_same_holds : He.DefD := ⟨("same_holds", none), "same_holds", "same_holds", defArgs s_same_holds, defBody s_same_holds, defScope s_same_holds, [], []⟩
abbrev N__law_same : List Str := ["one", "due", "key", "at"]
abbrev P__law_same : List Str := ["one", "due"]
theorem sc__law_same : FnScope N__law_same P__law_same (defScope s__law_same) := ⟨rfl, rfl, rfl, by decide +kernel, rfl, by decide +kernel, by decide +kernel⟩
def d__law_same : He.DefD := ⟨("_law_same", none), "_law_same", "_law_same", defArgs s__law_same, defBody s__law_same, defScope s__law_same, [], []⟩
abbrev N__law_part_within : List Str := ["deck", "versions", "one", "other", "due", "told", "pool", "some", "things", "rest", "back", "at", "thing", "is_named", "version", "span"]
abbrev P__law_part_within : List Str := ["deck"]
theorem sc__law_part_within : FnScope N__law_part_within P__law_part_within (defScope s__law_part_within) := ⟨rfl, rfl, rfl, by decide +kernel, rfl, by decide +kernel, by decide +kernel⟩
def d__law_part_within : He.DefD := ⟨("_law_part_within", none), "_law_part_within", "_law_part_within", defArgs s__law_part_within, defBody s__law_part_within, defScope s__law_part_within, [], []⟩
abbrev N__law_part_alike : List Str := ["deck", "versions", "one", "other", "rest", "due", "pool", "some", "things", "at", "thing", "is_named", "told", "version", "span"]
abbrev P__law_part_alike : List Str := ["deck"]
theorem sc__law_part_alike : FnScope N__law_part_alike P__law_part_alike (defScope s__law_part_alike) := ⟨rfl, rfl, rfl, by decide +kernel, rfl, by decide +kernel, by decide +kernel⟩
def d__law_part_alike : He.DefD := ⟨("_law_part_alike", none), "_law_part_alike", "_law_part_alike", defArgs s__law_part_alike, defBody s__law_part_alike, defScope s__law_part_alike, [], []⟩
abbrev N_law : List Str := ["script", "deck", "first", "turn", "part"]
abbrev P_law : List Str := ["script"]
theorem sc_law : FnScope N_law P_law (defScope s_law) := ⟨rfl, rfl, rfl, by decide +kernel, rfl, by decide +kernel, by decide +kernel⟩
def d_law : He.DefD := ⟨("law", none), "law", "law", defArgs s_law, defBody s_law, defScope s_law, [], []⟩
def fn : List He.DefD := [d_is_integer, d_is_in, d_borders_of, d_range_by, d_least_of, d__law_deck, d__law_draw, d__law_next, d__law_in, d__law_borders, d__law_made, d_is_version_value, d_combined, d_paper_for, d__law_pick, d__law_mixed, d__law_joined, d__law_cut, d__law_without, d_is_pair_of_ends, d_joined_of, d_without_of, d_is_paper_for, d__law_number, d_is_range_value, d_unlike, d__law_version, d_need_range, d__law_versions, d__law_range, d__law_pool, d_need_two, d__law_span_pairs, d_judge_within, d_within_holds, d_judge_same, d_same_holds, d__law_same, d__law_part_within, d__law_part_alike, d_law]
def fa : List He.Fa := [.glo "_law_deck", .glo "_law_draw", .free "range", .free "int", .glo "_law_part_within", .glo "_law_part_alike", .glo "_law_versions", .glo "_law_span_pairs", .glo "_law_joined", .glo "_law_without", .glo "_law_same", .glo "judge_same", .glo "_law_pool", .glo "_law_in", .free "min", .glo "_law_pick", .glo "_law_cut", .free "enumerate", .glo "same_holds", .glo "_law_borders", .glo "_law_made", .free "zip", .free "tuple", .free "sorted", .free "set", .glo "need_two", .glo "paper_for", .glo "unlike", .glo "joined_of", .glo "without_of", .glo "combined", .glo "borders_of", .glo "is_in", .glo "range_by", .free "any", .free "list", .free "len", .glo "least_of", .glo "need_range", .glo "is_range_value", .free "isinstance", .glo "is_pair_of_ends", .free "all", .glo "is_version_value", .glo "is_integer", .int "WHOLE" (3), .free "bool", .free "str", .free "dict", .glo "is_paper_for", .free "max", .glo "_law_next", .glo "_law_version", .glo "_law_number", .glo "_law_range", .glo "_law_mixed", .glo "judge_within", .glo "within_holds", .glo "law"]
def cs : List (Str × PyData) := []
structure Cc (K : PySem.W.Frag) (mg : Str → Option Value) : Prop where
  saysC : SaysC fa fn cs K
  at_ : ∃ h : Heap, K.In h ∧ h.Ns mainGlobals mg
theorem Cc.says {K : PySem.W.Frag} {mg : Str → Option Value} (C : Cc K mg) : He.SaysD fa fn K := C.saysC.d
section
variable {P : Program} {w : World} {K : PySem.W.Frag} {mg : Str → Option Value} {base : Heap}
theorem g__law_deck (C : Cc K mg) : mg "_law_deck" = some (.ref (He.ga K "_law_deck")) := let ⟨_, X, G⟩ := C.at_; He.glo_ok X G (C.says.fact 0 rfl)
theorem g__law_draw (C : Cc K mg) : mg "_law_draw" = some (.ref (He.ga K "_law_draw")) := let ⟨_, X, G⟩ := C.at_; He.glo_ok X G (C.says.fact 1 rfl)
theorem g_range (C : Cc K mg) : mg "range" = none := let ⟨_, X, G⟩ := C.at_; He.free_ok X G (C.says.fact 2 rfl)
theorem g_int (C : Cc K mg) : mg "int" = none := let ⟨_, X, G⟩ := C.at_; He.free_ok X G (C.says.fact 3 rfl)
theorem g__law_part_within (C : Cc K mg) : mg "_law_part_within" = some (.ref (He.ga K "_law_part_within")) := let ⟨_, X, G⟩ := C.at_; He.glo_ok X G (C.says.fact 4 rfl)
theorem g__law_part_alike (C : Cc K mg) : mg "_law_part_alike" = some (.ref (He.ga K "_law_part_alike")) := let ⟨_, X, G⟩ := C.at_; He.glo_ok X G (C.says.fact 5 rfl)
theorem g__law_versions (C : Cc K mg) : mg "_law_versions" = some (.ref (He.ga K "_law_versions")) := let ⟨_, X, G⟩ := C.at_; He.glo_ok X G (C.says.fact 6 rfl)
theorem g__law_span_pairs (C : Cc K mg) : mg "_law_span_pairs" = some (.ref (He.ga K "_law_span_pairs")) := let ⟨_, X, G⟩ := C.at_; He.glo_ok X G (C.says.fact 7 rfl)
theorem g__law_joined (C : Cc K mg) : mg "_law_joined" = some (.ref (He.ga K "_law_joined")) := let ⟨_, X, G⟩ := C.at_; He.glo_ok X G (C.says.fact 8 rfl)
theorem g__law_without (C : Cc K mg) : mg "_law_without" = some (.ref (He.ga K "_law_without")) := let ⟨_, X, G⟩ := C.at_; He.glo_ok X G (C.says.fact 9 rfl)
theorem g__law_same (C : Cc K mg) : mg "_law_same" = some (.ref (He.ga K "_law_same")) := let ⟨_, X, G⟩ := C.at_; He.glo_ok X G (C.says.fact 10 rfl)
theorem g_judge_same (C : Cc K mg) : mg "judge_same" = some (.ref (He.ga K "judge_same")) := let ⟨_, X, G⟩ := C.at_; He.glo_ok X G (C.says.fact 11 rfl)
theorem g__law_pool (C : Cc K mg) : mg "_law_pool" = some (.ref (He.ga K "_law_pool")) := let ⟨_, X, G⟩ := C.at_; He.glo_ok X G (C.says.fact 12 rfl)
theorem g__law_in (C : Cc K mg) : mg "_law_in" = some (.ref (He.ga K "_law_in")) := let ⟨_, X, G⟩ := C.at_; He.glo_ok X G (C.says.fact 13 rfl)
theorem g_min (C : Cc K mg) : mg "min" = none := let ⟨_, X, G⟩ := C.at_; He.free_ok X G (C.says.fact 14 rfl)
theorem g__law_pick (C : Cc K mg) : mg "_law_pick" = some (.ref (He.ga K "_law_pick")) := let ⟨_, X, G⟩ := C.at_; He.glo_ok X G (C.says.fact 15 rfl)
theorem g__law_cut (C : Cc K mg) : mg "_law_cut" = some (.ref (He.ga K "_law_cut")) := let ⟨_, X, G⟩ := C.at_; He.glo_ok X G (C.says.fact 16 rfl)
theorem g_enumerate (C : Cc K mg) : mg "enumerate" = none := let ⟨_, X, G⟩ := C.at_; He.free_ok X G (C.says.fact 17 rfl)
theorem g_same_holds (C : Cc K mg) : mg "same_holds" = some (.ref (He.ga K "same_holds")) := let ⟨_, X, G⟩ := C.at_; He.glo_ok X G (C.says.fact 18 rfl)
theorem g__law_borders (C : Cc K mg) : mg "_law_borders" = some (.ref (He.ga K "_law_borders")) := let ⟨_, X, G⟩ := C.at_; He.glo_ok X G (C.says.fact 19 rfl)
theorem g__law_made (C : Cc K mg) : mg "_law_made" = some (.ref (He.ga K "_law_made")) := let ⟨_, X, G⟩ := C.at_; He.glo_ok X G (C.says.fact 20 rfl)
theorem g_zip (C : Cc K mg) : mg "zip" = none := let ⟨_, X, G⟩ := C.at_; He.free_ok X G (C.says.fact 21 rfl)
theorem g_tuple (C : Cc K mg) : mg "tuple" = none := let ⟨_, X, G⟩ := C.at_; He.free_ok X G (C.says.fact 22 rfl)
theorem g_sorted (C : Cc K mg) : mg "sorted" = none := let ⟨_, X, G⟩ := C.at_; He.free_ok X G (C.says.fact 23 rfl)
theorem g_set (C : Cc K mg) : mg "set" = none := let ⟨_, X, G⟩ := C.at_; He.free_ok X G (C.says.fact 24 rfl)
theorem g_need_two (C : Cc K mg) : mg "need_two" = some (.ref (He.ga K "need_two")) := let ⟨_, X, G⟩ := C.at_; He.glo_ok X G (C.says.fact 25 rfl)
theorem g_paper_for (C : Cc K mg) : mg "paper_for" = some (.ref (He.ga K "paper_for")) := let ⟨_, X, G⟩ := C.at_; He.glo_ok X G (C.says.fact 26 rfl)
theorem g_unlike (C : Cc K mg) : mg "unlike" = some (.ref (He.ga K "unlike")) := let ⟨_, X, G⟩ := C.at_; He.glo_ok X G (C.says.fact 27 rfl)
theorem g_joined_of (C : Cc K mg) : mg "joined_of" = some (.ref (He.ga K "joined_of")) := let ⟨_, X, G⟩ := C.at_; He.glo_ok X G (C.says.fact 28 rfl)
theorem g_without_of (C : Cc K mg) : mg "without_of" = some (.ref (He.ga K "without_of")) := let ⟨_, X, G⟩ := C.at_; He.glo_ok X G (C.says.fact 29 rfl)
theorem g_combined (C : Cc K mg) : mg "combined" = some (.ref (He.ga K "combined")) := let ⟨_, X, G⟩ := C.at_; He.glo_ok X G (C.says.fact 30 rfl)
theorem g_borders_of (C : Cc K mg) : mg "borders_of" = some (.ref (He.ga K "borders_of")) := let ⟨_, X, G⟩ := C.at_; He.glo_ok X G (C.says.fact 31 rfl)
theorem g_is_in (C : Cc K mg) : mg "is_in" = some (.ref (He.ga K "is_in")) := let ⟨_, X, G⟩ := C.at_; He.glo_ok X G (C.says.fact 32 rfl)
theorem g_range_by (C : Cc K mg) : mg "range_by" = some (.ref (He.ga K "range_by")) := let ⟨_, X, G⟩ := C.at_; He.glo_ok X G (C.says.fact 33 rfl)
theorem g_any (C : Cc K mg) : mg "any" = none := let ⟨_, X, G⟩ := C.at_; He.free_ok X G (C.says.fact 34 rfl)
theorem g_list (C : Cc K mg) : mg "list" = none := let ⟨_, X, G⟩ := C.at_; He.free_ok X G (C.says.fact 35 rfl)
theorem g_len (C : Cc K mg) : mg "len" = none := let ⟨_, X, G⟩ := C.at_; He.free_ok X G (C.says.fact 36 rfl)
theorem g_least_of (C : Cc K mg) : mg "least_of" = some (.ref (He.ga K "least_of")) := let ⟨_, X, G⟩ := C.at_; He.glo_ok X G (C.says.fact 37 rfl)
theorem g_need_range (C : Cc K mg) : mg "need_range" = some (.ref (He.ga K "need_range")) := let ⟨_, X, G⟩ := C.at_; He.glo_ok X G (C.says.fact 38 rfl)
theorem g_is_range_value (C : Cc K mg) : mg "is_range_value" = some (.ref (He.ga K "is_range_value")) := let ⟨_, X, G⟩ := C.at_; He.glo_ok X G (C.says.fact 39 rfl)
theorem g_isinstance (C : Cc K mg) : mg "isinstance" = none := let ⟨_, X, G⟩ := C.at_; He.free_ok X G (C.says.fact 40 rfl)
theorem g_is_pair_of_ends (C : Cc K mg) : mg "is_pair_of_ends" = some (.ref (He.ga K "is_pair_of_ends")) := let ⟨_, X, G⟩ := C.at_; He.glo_ok X G (C.says.fact 41 rfl)
theorem g_all (C : Cc K mg) : mg "all" = none := let ⟨_, X, G⟩ := C.at_; He.free_ok X G (C.says.fact 42 rfl)
theorem g_is_version_value (C : Cc K mg) : mg "is_version_value" = some (.ref (He.ga K "is_version_value")) := let ⟨_, X, G⟩ := C.at_; He.glo_ok X G (C.says.fact 43 rfl)
theorem g_is_integer (C : Cc K mg) : mg "is_integer" = some (.ref (He.ga K "is_integer")) := let ⟨_, X, G⟩ := C.at_; He.glo_ok X G (C.says.fact 44 rfl)
theorem g_WHOLE (C : Cc K mg) : ∃ t, mg "WHOLE" = some (.int (3) t) := let ⟨_, X, G⟩ := C.at_; He.int_ok X G (C.says.fact 45 rfl)
theorem g_bool (C : Cc K mg) : mg "bool" = none := let ⟨_, X, G⟩ := C.at_; He.free_ok X G (C.says.fact 46 rfl)
theorem g_str (C : Cc K mg) : mg "str" = none := let ⟨_, X, G⟩ := C.at_; He.free_ok X G (C.says.fact 47 rfl)
theorem g_dict (C : Cc K mg) : mg "dict" = none := let ⟨_, X, G⟩ := C.at_; He.free_ok X G (C.says.fact 48 rfl)
theorem g_is_paper_for (C : Cc K mg) : mg "is_paper_for" = some (.ref (He.ga K "is_paper_for")) := let ⟨_, X, G⟩ := C.at_; He.glo_ok X G (C.says.fact 49 rfl)
theorem g_max (C : Cc K mg) : mg "max" = none := let ⟨_, X, G⟩ := C.at_; He.free_ok X G (C.says.fact 50 rfl)
theorem g__law_next (C : Cc K mg) : mg "_law_next" = some (.ref (He.ga K "_law_next")) := let ⟨_, X, G⟩ := C.at_; He.glo_ok X G (C.says.fact 51 rfl)
theorem g__law_version (C : Cc K mg) : mg "_law_version" = some (.ref (He.ga K "_law_version")) := let ⟨_, X, G⟩ := C.at_; He.glo_ok X G (C.says.fact 52 rfl)
theorem g__law_number (C : Cc K mg) : mg "_law_number" = some (.ref (He.ga K "_law_number")) := let ⟨_, X, G⟩ := C.at_; He.glo_ok X G (C.says.fact 53 rfl)
theorem g__law_range (C : Cc K mg) : mg "_law_range" = some (.ref (He.ga K "_law_range")) := let ⟨_, X, G⟩ := C.at_; He.glo_ok X G (C.says.fact 54 rfl)
theorem g__law_mixed (C : Cc K mg) : mg "_law_mixed" = some (.ref (He.ga K "_law_mixed")) := let ⟨_, X, G⟩ := C.at_; He.glo_ok X G (C.says.fact 55 rfl)
theorem g_judge_within (C : Cc K mg) : mg "judge_within" = some (.ref (He.ga K "judge_within")) := let ⟨_, X, G⟩ := C.at_; He.glo_ok X G (C.says.fact 56 rfl)
theorem g_within_holds (C : Cc K mg) : mg "within_holds" = some (.ref (He.ga K "within_holds")) := let ⟨_, X, G⟩ := C.at_; He.glo_ok X G (C.says.fact 57 rfl)
theorem g_law (C : Cc K mg) : mg "law" = some (.ref (He.ga K "law")) := let ⟨_, X, G⟩ := C.at_; He.glo_ok X G (C.says.fact 58 rfl)
theorem bg__law_borders_1 {f : Addr} {fd : FuncData} (F : FnP K "_law_borders" s__law_borders f fd) : BindG K fd P__law_borders 1 [] [] [0] := FunD.bindG0 F fun _ _ _ _ _ _ us ws h1 h2 => match us, ws, h1, h2 with | [_], [], _, _ => rfl
theorem bg__law_cut_2 {f : Addr} {fd : FuncData} (F : FnP K "_law_cut" s__law_cut f fd) : BindG K fd P__law_cut 2 [] [] [0, 1] := FunD.bindG0 F fun _ _ _ _ _ _ us ws h1 h2 => match us, ws, h1, h2 with | [_, _], [], _, _ => rfl
theorem bg__law_deck_1 {f : Addr} {fd : FuncData} (F : FnP K "_law_deck" s__law_deck f fd) : BindG K fd P__law_deck 1 [] [] [0] := FunD.bindG0 F fun _ _ _ _ _ _ us ws h1 h2 => match us, ws, h1, h2 with | [_], [], _, _ => rfl
theorem bg__law_draw_2 {f : Addr} {fd : FuncData} (F : FnP K "_law_draw" s__law_draw f fd) : BindG K fd P__law_draw 2 [] [] [0, 1] := FunD.bindG0 F fun _ _ _ _ _ _ us ws h1 h2 => match us, ws, h1, h2 with | [_, _], [], _, _ => rfl
theorem bg__law_in_2 {f : Addr} {fd : FuncData} (F : FnP K "_law_in" s__law_in f fd) : BindG K fd P__law_in 2 [] [] [0, 1] := FunD.bindG0 F fun _ _ _ _ _ _ us ws h1 h2 => match us, ws, h1, h2 with | [_, _], [], _, _ => rfl
theorem bg__law_joined_2 {f : Addr} {fd : FuncData} (F : FnP K "_law_joined" s__law_joined f fd) : BindG K fd P__law_joined 2 [] [] [0, 1] := FunD.bindG0 F fun _ _ _ _ _ _ us ws h1 h2 => match us, ws, h1, h2 with | [_, _], [], _, _ => rfl
theorem bg__law_made_2 {f : Addr} {fd : FuncData} (F : FnP K "_law_made" s__law_made f fd) : BindG K fd P__law_made 2 [] [] [0, 1] := FunD.bindG0 F fun _ _ _ _ _ _ us ws h1 h2 => match us, ws, h1, h2 with | [_, _], [], _, _ => rfl
theorem bg__law_mixed_2 {f : Addr} {fd : FuncData} (F : FnP K "_law_mixed" s__law_mixed f fd) : BindG K fd P__law_mixed 2 [] [] [0, 1] := FunD.bindG0 F fun _ _ _ _ _ _ us ws h1 h2 => match us, ws, h1, h2 with | [_, _], [], _, _ => rfl
theorem bg__law_next_1 {f : Addr} {fd : FuncData} (F : FnP K "_law_next" s__law_next f fd) : BindG K fd P__law_next 1 [] [] [0] := FunD.bindG0 F fun _ _ _ _ _ _ us ws h1 h2 => match us, ws, h1, h2 with | [_], [], _, _ => rfl
theorem bg__law_number_1 {f : Addr} {fd : FuncData} (F : FnP K "_law_number" s__law_number f fd) : BindG K fd P__law_number 1 [] [] [0] := FunD.bindG0 F fun _ _ _ _ _ _ us ws h1 h2 => match us, ws, h1, h2 with | [_], [], _, _ => rfl
theorem bg__law_part_alike_1 {f : Addr} {fd : FuncData} (F : FnP K "_law_part_alike" s__law_part_alike f fd) : BindG K fd P__law_part_alike 1 [] [] [0] := FunD.bindG0 F fun _ _ _ _ _ _ us ws h1 h2 => match us, ws, h1, h2 with | [_], [], _, _ => rfl
theorem bg__law_part_within_1 {f : Addr} {fd : FuncData} (F : FnP K "_law_part_within" s__law_part_within f fd) : BindG K fd P__law_part_within 1 [] [] [0] := FunD.bindG0 F fun _ _ _ _ _ _ us ws h1 h2 => match us, ws, h1, h2 with | [_], [], _, _ => rfl
theorem bg__law_pick_2 {f : Addr} {fd : FuncData} (F : FnP K "_law_pick" s__law_pick f fd) : BindG K fd P__law_pick 2 [] [] [0, 1] := FunD.bindG0 F fun _ _ _ _ _ _ us ws h1 h2 => match us, ws, h1, h2 with | [_, _], [], _, _ => rfl
theorem bg__law_pool_3 {f : Addr} {fd : FuncData} (F : FnP K "_law_pool" s__law_pool f fd) : BindG K fd P__law_pool 3 [] [] [0, 1, 2] := FunD.bindG0 F fun _ _ _ _ _ _ us ws h1 h2 => match us, ws, h1, h2 with | [_, _, _], [], _, _ => rfl
theorem bg__law_range_3 {f : Addr} {fd : FuncData} (F : FnP K "_law_range" s__law_range f fd) : BindG K fd P__law_range 3 [] [] [0, 1, 2] := FunD.bindG0 F fun _ _ _ _ _ _ us ws h1 h2 => match us, ws, h1, h2 with | [_, _, _], [], _, _ => rfl
theorem bg__law_same_2 {f : Addr} {fd : FuncData} (F : FnP K "_law_same" s__law_same f fd) : BindG K fd P__law_same 2 [] [] [0, 1] := FunD.bindG0 F fun _ _ _ _ _ _ us ws h1 h2 => match us, ws, h1, h2 with | [_, _], [], _, _ => rfl
theorem bg__law_span_pairs_2 {f : Addr} {fd : FuncData} (F : FnP K "_law_span_pairs" s__law_span_pairs f fd) : BindG K fd P__law_span_pairs 2 [] [] [0, 1] := FunD.bindG0 F fun _ _ _ _ _ _ us ws h1 h2 => match us, ws, h1, h2 with | [_, _], [], _, _ => rfl
theorem bg__law_version_2 {f : Addr} {fd : FuncData} (F : FnP K "_law_version" s__law_version f fd) : BindG K fd P__law_version 2 [] [] [0, 1] := FunD.bindG0 F fun _ _ _ _ _ _ us ws h1 h2 => match us, ws, h1, h2 with | [_, _], [], _, _ => rfl
theorem bg__law_versions_2 {f : Addr} {fd : FuncData} (F : FnP K "_law_versions" s__law_versions f fd) : BindG K fd P__law_versions 2 [] [] [0, 1] := FunD.bindG0 F fun _ _ _ _ _ _ us ws h1 h2 => match us, ws, h1, h2 with | [_, _], [], _, _ => rfl
theorem bg__law_without_2 {f : Addr} {fd : FuncData} (F : FnP K "_law_without" s__law_without f fd) : BindG K fd P__law_without 2 [] [] [0, 1] := FunD.bindG0 F fun _ _ _ _ _ _ us ws h1 h2 => match us, ws, h1, h2 with | [_, _], [], _, _ => rfl
theorem bg_borders_of_1 {f : Addr} {fd : FuncData} (F : FnP K "borders_of" s_borders_of f fd) : BindG K fd P_borders_of 1 [] [] [0] := FunD.bindG0 F fun _ _ _ _ _ _ us ws h1 h2 => match us, ws, h1, h2 with | [_], [], _, _ => rfl
theorem bg_combined_3 {f : Addr} {fd : FuncData} (F : FnP K "combined" s_combined f fd) : BindG K fd P_combined 3 [] [] [0, 1, 2] := FunD.bindG0 F fun _ _ _ _ _ _ us ws h1 h2 => match us, ws, h1, h2 with | [_, _, _], [], _, _ => rfl
theorem bg_is_in_2 {f : Addr} {fd : FuncData} (F : FnP K "is_in" s_is_in f fd) : BindG K fd P_is_in 2 [] [] [0, 1] := FunD.bindG0 F fun _ _ _ _ _ _ us ws h1 h2 => match us, ws, h1, h2 with | [_, _], [], _, _ => rfl
theorem bg_is_integer_1 {f : Addr} {fd : FuncData} (F : FnP K "is_integer" s_is_integer f fd) : BindG K fd P_is_integer 1 [] [] [0] := FunD.bindG0 F fun _ _ _ _ _ _ us ws h1 h2 => match us, ws, h1, h2 with | [_], [], _, _ => rfl
theorem bg_is_pair_of_ends_1 {f : Addr} {fd : FuncData} (F : FnP K "is_pair_of_ends" s_is_pair_of_ends f fd) : BindG K fd P_is_pair_of_ends 1 [] [] [0] := FunD.bindG0 F fun _ _ _ _ _ _ us ws h1 h2 => match us, ws, h1, h2 with | [_], [], _, _ => rfl
theorem bg_is_paper_for_3 {f : Addr} {fd : FuncData} (F : FnP K "is_paper_for" s_is_paper_for f fd) : BindG K fd P_is_paper_for 3 [] [] [0, 1, 2] := FunD.bindG0 F fun _ _ _ _ _ _ us ws h1 h2 => match us, ws, h1, h2 with | [_, _, _], [], _, _ => rfl
theorem bg_is_range_value_1 {f : Addr} {fd : FuncData} (F : FnP K "is_range_value" s_is_range_value f fd) : BindG K fd P_is_range_value 1 [] [] [0] := FunD.bindG0 F fun _ _ _ _ _ _ us ws h1 h2 => match us, ws, h1, h2 with | [_], [], _, _ => rfl
theorem bg_is_version_value_1 {f : Addr} {fd : FuncData} (F : FnP K "is_version_value" s_is_version_value f fd) : BindG K fd P_is_version_value 1 [] [] [0] := FunD.bindG0 F fun _ _ _ _ _ _ us ws h1 h2 => match us, ws, h1, h2 with | [_], [], _, _ => rfl
theorem bg_joined_of_2 {f : Addr} {fd : FuncData} (F : FnP K "joined_of" s_joined_of f fd) : BindG K fd P_joined_of 2 [] [] [0, 1] := FunD.bindG0 F fun _ _ _ _ _ _ us ws h1 h2 => match us, ws, h1, h2 with | [_, _], [], _, _ => rfl
theorem bg_judge_same_0_other_one {f : Addr} {fd : FuncData} (F : FnP K "judge_same" s_judge_same f fd) : BindG K fd P_judge_same 0 ["other", "one"] [] [1, 0] := FunD.bindG0 F fun _ _ _ _ _ _ us ws h1 h2 => match us, ws, h1, h2 with | [], [_, _], _, _ => rfl
theorem bg_judge_same_2 {f : Addr} {fd : FuncData} (F : FnP K "judge_same" s_judge_same f fd) : BindG K fd P_judge_same 2 [] [] [0, 1] := FunD.bindG0 F fun _ _ _ _ _ _ us ws h1 h2 => match us, ws, h1, h2 with | [_, _], [], _, _ => rfl
theorem bg_judge_within_0_other_one {f : Addr} {fd : FuncData} (F : FnP K "judge_within" s_judge_within f fd) : BindG K fd P_judge_within 0 ["other", "one"] [] [1, 0] := FunD.bindG0 F fun _ _ _ _ _ _ us ws h1 h2 => match us, ws, h1, h2 with | [], [_, _], _, _ => rfl
theorem bg_judge_within_2 {f : Addr} {fd : FuncData} (F : FnP K "judge_within" s_judge_within f fd) : BindG K fd P_judge_within 2 [] [] [0, 1] := FunD.bindG0 F fun _ _ _ _ _ _ us ws h1 h2 => match us, ws, h1, h2 with | [_, _], [], _, _ => rfl
theorem bg_least_of_1 {f : Addr} {fd : FuncData} (F : FnP K "least_of" s_least_of f fd) : BindG K fd P_least_of 1 [] [] [0] := FunD.bindG0 F fun _ _ _ _ _ _ us ws h1 h2 => match us, ws, h1, h2 with | [_], [], _, _ => rfl
theorem bg_need_range_1 {f : Addr} {fd : FuncData} (F : FnP K "need_range" s_need_range f fd) : BindG K fd P_need_range 1 [] [] [0] := FunD.bindG0 F fun _ _ _ _ _ _ us ws h1 h2 => match us, ws, h1, h2 with | [_], [], _, _ => rfl
theorem bg_need_two_2 {f : Addr} {fd : FuncData} (F : FnP K "need_two" s_need_two f fd) : BindG K fd P_need_two 2 [] [] [0, 1] := FunD.bindG0 F fun _ _ _ _ _ _ us ws h1 h2 => match us, ws, h1, h2 with | [_, _], [], _, _ => rfl
theorem bg_paper_for_2 {f : Addr} {fd : FuncData} (F : FnP K "paper_for" s_paper_for f fd) : BindG K fd P_paper_for 2 [] [] [0, 1] := FunD.bindG0 F fun _ _ _ _ _ _ us ws h1 h2 => match us, ws, h1, h2 with | [_, _], [], _, _ => rfl
theorem bg_range_by_1 {f : Addr} {fd : FuncData} (F : FnP K "range_by" s_range_by f fd) : BindG K fd P_range_by 1 [] [] [0] := FunD.bindG0 F fun _ _ _ _ _ _ us ws h1 h2 => match us, ws, h1, h2 with | [_], [], _, _ => rfl
theorem bg_same_holds_0_thing_other_one {f : Addr} {fd : FuncData} (F : FnP K "same_holds" s_same_holds f fd) : BindG K fd P_same_holds 0 ["thing", "other", "one"] [] [2, 1, 0] := FunD.bindG0 F fun _ _ _ _ _ _ us ws h1 h2 => match us, ws, h1, h2 with | [], [_, _, _], _, _ => rfl
theorem bg_same_holds_3 {f : Addr} {fd : FuncData} (F : FnP K "same_holds" s_same_holds f fd) : BindG K fd P_same_holds 3 [] [] [0, 1, 2] := FunD.bindG0 F fun _ _ _ _ _ _ us ws h1 h2 => match us, ws, h1, h2 with | [_, _, _], [], _, _ => rfl
theorem bg_unlike_2 {f : Addr} {fd : FuncData} (F : FnP K "unlike" s_unlike f fd) : BindG K fd P_unlike 2 [] [] [0, 1] := FunD.bindG0 F fun _ _ _ _ _ _ us ws h1 h2 => match us, ws, h1, h2 with | [_, _], [], _, _ => rfl
theorem bg_within_holds_0_thing_other_one {f : Addr} {fd : FuncData} (F : FnP K "within_holds" s_within_holds f fd) : BindG K fd P_within_holds 0 ["thing", "other", "one"] [] [2, 1, 0] := FunD.bindG0 F fun _ _ _ _ _ _ us ws h1 h2 => match us, ws, h1, h2 with | [], [_, _, _], _, _ => rfl
theorem bg_within_holds_3 {f : Addr} {fd : FuncData} (F : FnP K "within_holds" s_within_holds f fd) : BindG K fd P_within_holds 3 [] [] [0, 1, 2] := FunD.bindG0 F fun _ _ _ _ _ _ us ws h1 h2 => match us, ws, h1, h2 with | [_, _, _], [], _, _ => rfl
theorem bg_without_of_2 {f : Addr} {fd : FuncData} (F : FnP K "without_of" s_without_of f fd) : BindG K fd P_without_of 2 [] [] [0, 1] := FunD.bindG0 F fun _ _ _ _ _ _ us ws h1 h2 => match us, ws, h1, h2 with | [_, _], [], _, _ => rfl
def mb_is_integer : MS := (mRet (mVal (mAnd (mIsi "int" (mVar 0)) (mNot (mIsi "bool" (mVar 0))))))
def mf_is_integer : MF := mFn 1 mb_is_integer
theorem ok_is_integer (C : Cc K mg) : ∃ fd, FnP K "is_integer" s_is_integer (He.ga K "is_integer") fd ∧ FnG P w K mg base 1 (He.ga K "is_integer") fd P_is_integer mf_is_integer := by
  obtain ⟨fd, F⟩ := C.says.def_ 0 (d := d_is_integer) rfl
  exact ⟨fd, F, fnG_of F sc_is_integer fun cdv A outer s H hr hg => (b_one (s_ret (j_val (j_and (j_isi (j_var 0) (g_isinstance C) (g_int C)) (j_one (j_not (j_isi (j_var 0) (g_isinstance C) (g_bool C))))))))⟩
def lc_is_in_1 : MO := (mLc (mIt (mVar 0)) (mTupG 2 (mN1 (mN 2) (mN1 (mN 3) mN0))) mYes (mAnd (mBin gLe (mVar 2) (mVar 1)) (mOr (mBin gIs (mVar 3) (mC .none)) (mBin gLt (mVar 1) (mVar 3)))) [2, 3])
def mb_is_in : MS := (mRet (mCB gAny (mCons (mFz lc_is_in_1) mNil)))
def mf_is_in : MF := mFn 4 mb_is_in
theorem ok_is_in (C : Cc K mg) : ∃ fd, FnP K "is_in" s_is_in (He.ga K "is_in") fd ∧ FnG P w K mg base 1 (He.ga K "is_in") fd P_is_in mf_is_in := by
  obtain ⟨fd, F⟩ := C.says.def_ 1 (d := d_is_in) rfl
  exact ⟨fd, F, fnG_of F sc_is_in fun cdv A outer s H hr hg => (b_one (s_ret (j_callB c_any (g_any C) (a_cons (j_fz (j_lc [("low", 2), ("high", 3)] (i_any (j_var 0)) (g_tup (gs_cons (g_name 2 (hN := by exact fun _ => sc_is_in.nd)) (gs_cons (g_name 3 (hN := by exact fun _ => sc_is_in.nd)) gs_nil))) ts_nil (j_and (j_cmp o_le (j_var 2) (j_var 1)) (j_one (j_or (j_cmp o_is (j_var 3) j_none) (j_one (j_cmp o_lt (j_var 1) (j_var 3)))))) (fun _ => blkOk_by (N := N_is_in) (sc := defScope s_is_in) (by decide +kernel)) (hN := by exact fun _ => sc_is_in.nd))) a_nil))))⟩
def mb_borders_of_1 : MS := (mIf (mTest (mBin gNot (mVar 3) (mC .none))) (mDrop (mApp 1 (mVar 3))) mNx)
def mb_borders_of_2 : MS := (mFor (mIt (mVar 0)) (mTupG 2 (mN1 (mN 2) (mN1 (mN 3) mN0))) (mSeq (mDrop (mApp 1 (mVar 2))) mb_borders_of_1))
def mb_borders_of : MS := (mSeq (mOwn (mLst mNil) 1) (mSeq mb_borders_of_2 (mRet (mMove 1))))
def mf_borders_of : MF := mFn 4 mb_borders_of
theorem ok_borders_of (C : Cc K mg) : ∃ fd, FnP K "borders_of" s_borders_of (He.ga K "borders_of") fd ∧ FnG P w K mg base 1 (He.ga K "borders_of") fd P_borders_of mf_borders_of := by
  obtain ⟨fd, F⟩ := C.says.def_ 2 (d := d_borders_of) rfl
  exact ⟨fd, F, fnG_of F sc_borders_of fun cdv A outer s H hr hg => (b_cons (s_own 1 (j_lst a_nil) (hN := by exact fun _ => sc_borders_of.nd)) (b_cons (s_for (i_any (j_var 0)) (g_tup (gs_cons (g_name 2 (hN := by exact fun _ => sc_borders_of.nd)) (gs_cons (g_name 3 (hN := by exact fun _ => sc_borders_of.nd)) gs_nil))) (b_cons (s_expr (j_app 1 (j_var 2))) (b_one (s_if (t_cmp o_isNot (j_var 3) j_none) (b_one (s_expr (j_app 1 (j_var 3)))) b_nil)))) (b_one (s_ret (j_move 1)))))⟩
def lc_range_by_1 : MO := (mLc (mR3 (mCons (mC (.int 0)) (mCons (mFz (mCB gLen (mCons (mVar 0) mNil))) (mCons (mC (.int 2)) mNil)))) (mN 2) mYes (mTup (mCons (mBin gIx (mVar 1) (mVar 2)) (mCons (mBin gIx (mVar 1) (mBin gAdd (mVar 2) (mC (.int 1)))) mNil))) [2])
def mb_range_by : MS := (mSeq (mAsg (mBin gAdd (mFz (mCB gList (mCons (mVar 0) mNil))) (mFz (mLst (mCons (mC .none) mNil)))) (mN 1)) (mRet (mCB gTuple (mCons (mFz lc_range_by_1) mNil))))
def mf_range_by : MF := mFn 3 mb_range_by
theorem ok_range_by (C : Cc K mg) : ∃ fd, FnP K "range_by" s_range_by (He.ga K "range_by") fd ∧ FnG P w K mg base 1 (He.ga K "range_by") fd P_range_by mf_range_by := by
  obtain ⟨fd, F⟩ := C.says.def_ 3 (d := d_range_by) rfl
  exact ⟨fd, F, fnG_of F sc_range_by fun cdv A outer s H hr hg => (b_cons (s_asg (j_bin o_add (j_fz (j_callT c_list (g_list C) (a_cons (j_var 0) a_nil))) (j_fz (j_lst (a_cons j_none a_nil)))) (g_name 1 (hN := by exact fun _ => sc_range_by.nd))) (b_one (s_ret (j_callT c_tuple (g_tuple C) (a_cons (j_fz (j_lc [("at", 2)] (i_range3 (a_cons j_int (a_cons (j_fz (j_callB c_len (g_len C) (a_cons (j_var 0) a_nil))) (a_cons j_int a_nil))) (g_range C)) (g_name 2 (hN := by exact fun _ => sc_range_by.nd)) ts_nil (j_tup (a_cons (j_ix (j_var 1) (j_var 2)) (a_cons (j_ix (j_var 1) (j_bin o_add (j_var 2) j_int)) a_nil))) (fun _ => blkOk_by (N := N_range_by) (sc := defScope s_range_by) (by decide +kernel)) (hN := by exact fun _ => sc_range_by.nd))) a_nil)))))⟩
def mb_least_of_1 : MS := (mRet (mVal (mIf (mTest (mBin gNe (mVar 0) (mTup mNil))) (mBin gIx (mBin gIx (mVar 0) (mC (.int 0))) (mC (.int 0))) (mC .none))))
def mb_least_of : MS := mb_least_of_1
def mf_least_of : MF := mFn 1 mb_least_of
theorem ok_least_of (C : Cc K mg) : ∃ fd, FnP K "least_of" s_least_of (He.ga K "least_of") fd ∧ FnG P w K mg base 1 (He.ga K "least_of") fd P_least_of mf_least_of := by
  obtain ⟨fd, F⟩ := C.says.def_ 4 (d := d_least_of) rfl
  exact ⟨fd, F, fnG_of F sc_least_of fun cdv A outer s H hr hg => (b_one (s_ret (j_val (j_if (t_cmp o_ne (j_var 0) (j_tup a_nil)) (j_ix (j_ix (j_var 0) j_int) j_int) j_none))))⟩
def mb__law_deck_1 : MS := (mFor (mIt (mFz (mScrSl 0 mP0 (mP1 (mC (.int 63)))))) (mN 2) (mAsg (mBin gMod (mFz (mCB gInt (mCons (mBin gAdd (mBin gAdd (mBin gMul (mVar 1) (mC (.int 16807))) (mBin gMod (mFz (mCB gInt (mCons (mVar 2) mNil))) (mC (.int 2147483629)))) (mC (.int 7))) mNil))) (mC (.int 2147483647))) (mN 1)))
def lc__law_deck_2 : MO := (mLc (mIt (mFz (mScrSl 0 mP0 (mP1 (mC (.int 63)))))) (mN 2) mYes (mFz (mCB gInt (mCons (mVar 2) mNil))) [2])
def mb__law_deck : MS := (mSeq (mAsg (mC (.int 16395008)) (mN 1)) (mSeq mb__law_deck_1 (mRet (mDkNew 0 (mRev (mFz lc__law_deck_2)) (mVar 1) (mC (.int 0))))))
def mf__law_deck : MF := mFn 3 mb__law_deck
theorem ok__law_deck (C : Cc K mg) : ∃ fd, FnP K "_law_deck" s__law_deck (He.ga K "_law_deck") fd ∧ FnG P w K mg base 1 (He.ga K "_law_deck") fd P__law_deck mf__law_deck := by
  obtain ⟨fd, F⟩ := C.says.def_ 5 (d := d__law_deck) rfl
  exact ⟨fd, F, fnG_of F sc__law_deck fun cdv A outer s H hr hg => (b_cons (s_asg j_int (g_name 1 (hN := by exact fun _ => sc__law_deck.nd))) (b_cons (s_for (i_any (j_fz (j_scrSl 0 p_none (p_some j_int)))) (g_name 2 (hN := by exact fun _ => sc__law_deck.nd)) (b_one (s_asg (j_bin o_mod (j_fz (j_callT c_int (g_int C) (a_cons (j_bin o_add (j_bin o_add (j_bin o_mul (j_var 1) j_int) (j_bin o_mod (j_fz (j_callT c_int (g_int C) (a_cons (j_var 2) a_nil))) j_int)) j_int) a_nil))) j_int) (g_name 1 (hN := by exact fun _ => sc__law_deck.nd))))) (b_one (s_ret (j_dkNew 0 (j_rev (j_fz (j_lc [("cell", 2)] (i_any (j_fz (j_scrSl 0 p_none (p_some j_int)))) (g_name 2 (hN := by exact fun _ => sc__law_deck.nd)) ts_nil (j_fz (j_callT c_int (g_int C) (a_cons (j_var 2) a_nil))) (fun _ => blkOk_by (N := N__law_deck) (sc := defScope s__law_deck) (by decide +kernel)) (hN := by exact fun _ => sc__law_deck.nd)))) (j_var 1) j_int)))))⟩
def mb__law_draw_1 : MS := (mIf (mTest (mBin gGe (mVar 3) (mBin gPow (mC (.int 10)) (mC (.int 18))))) (mSeq (mDrop (mDkApp 0 0 (mBin gDiv (mVar 3) (mFz (mCB gMax2 (mCons (mC (.int 2)) (mCons (mVar 1) mNil))))))) (mRet (mVal (mBin gMod (mFz (mCB gInt (mCons (mVar 3) mNil))) (mVar 1))))) mNx)
def mb__law_draw_2 : MS := (mIf (mDkL 0 0) (mSeq (mAsg (mDkPop 0 0) (mN 3)) (mSeq mb__law_draw_1 (mSeq (mDkSetM 0 0 (mBin gMod (mFz (mCB gInt (mCons (mBin gAdd (mBin gAdd (mBin gMul (mDkM 0 0) (mC (.int 16807))) (mBin gMod (mFz (mCB gInt (mCons (mVar 3) mNil))) (mC (.int 2147483587)))) (mC (.int 3))) mNil))) (mC (.int 2147483647)))) (mAsg (mBin gAdd (mVar 2) (mBin gMod (mFz (mCB gInt (mCons (mVar 3) mNil))) (mC (.int 2147483563)))) (mN 2))))) mNx)
def mb__law_draw : MS := (mSeq (mDkSetT 0 0 (mBin gAdd (mDkT 0 0) (mC (.int 1)))) (mSeq (mAsg (mBin gAdd (mDkM 0 0) (mBin gMul (mC (.int 80021)) (mDkT 0 0))) (mN 2)) (mSeq mb__law_draw_2 (mSeq (mAsg (mBin gMod (mFz (mCB gInt (mCons (mBin gAdd (mBin gMul (mVar 2) (mC (.int 40014))) (mC (.int 19))) mNil))) (mC (.int 2147483629))) (mN 2)) (mSeq (mAsg (mBin gMod (mFz (mCB gInt (mCons (mBin gAdd (mBin gAdd (mBin gMul (mVar 2) (mVar 2)) (mBin gMul (mC (.int 77773)) (mDkT 0 0))) (mC (.int 5))) mNil))) (mC (.int 2147483587))) (mN 2)) (mSeq (mAsg (mBin gMod (mFz (mCB gInt (mCons (mBin gAdd (mBin gMul (mVar 2) (mC (.int 40692))) (mC (.int 3))) mNil))) (mC (.int 2147483563))) (mN 2)) (mRet (mVal (mBin gMod (mFz (mCB gInt (mCons (mBin gDiv (mVar 2) (mC (.int 64))) mNil))) (mVar 1))))))))))
def mf__law_draw : MF := mFn 4 mb__law_draw
theorem ok__law_draw (C : Cc K mg) : ∃ fd, FnP K "_law_draw" s__law_draw (He.ga K "_law_draw") fd ∧ FnG P w K mg base 1 (He.ga K "_law_draw") fd P__law_draw mf__law_draw := by
  obtain ⟨fd, F⟩ := C.says.def_ 6 (d := d__law_draw) rfl
  exact ⟨fd, F, fnG_of F sc__law_draw fun cdv A outer s H hr hg => (b_cons (s_dkSetT 0 0 (j_bin o_add (j_dkT 0 0) j_int)) (b_cons (s_asg (j_bin o_add (j_dkM 0 0) (j_bin o_mul j_int (j_dkT 0 0))) (g_name 2 (hN := by exact fun _ => sc__law_draw.nd))) (b_cons (s_if (t_dkL 0 0) (b_cons (s_asg (j_dkPop 0 0) (g_name 3 (hN := by exact fun _ => sc__law_draw.nd))) (b_cons (s_if (t_cmp o_ge (j_var 3) (j_bin o_pow j_int j_int)) (b_cons (s_expr (j_dkApp 0 0 (j_bin o_div (j_var 3) (j_fz (j_callB c_max2 (g_max C) (a_cons j_int (a_cons (j_var 1) a_nil))))))) (b_one (s_ret (j_val (j_bin o_mod (j_fz (j_callT c_int (g_int C) (a_cons (j_var 3) a_nil))) (j_var 1)))))) b_nil) (b_cons (s_dkSetM 0 0 (j_bin o_mod (j_fz (j_callT c_int (g_int C) (a_cons (j_bin o_add (j_bin o_add (j_bin o_mul (j_dkM 0 0) j_int) (j_bin o_mod (j_fz (j_callT c_int (g_int C) (a_cons (j_var 3) a_nil))) j_int)) j_int) a_nil))) j_int)) (b_one (s_asg (j_bin o_add (j_var 2) (j_bin o_mod (j_fz (j_callT c_int (g_int C) (a_cons (j_var 3) a_nil))) j_int)) (g_name 2 (hN := by exact fun _ => sc__law_draw.nd))))))) b_nil) (b_cons (s_asg (j_bin o_mod (j_fz (j_callT c_int (g_int C) (a_cons (j_bin o_add (j_bin o_mul (j_var 2) j_int) j_int) a_nil))) j_int) (g_name 2 (hN := by exact fun _ => sc__law_draw.nd))) (b_cons (s_asg (j_bin o_mod (j_fz (j_callT c_int (g_int C) (a_cons (j_bin o_add (j_bin o_add (j_bin o_mul (j_var 2) (j_var 2)) (j_bin o_mul j_int (j_dkT 0 0))) j_int) a_nil))) j_int) (g_name 2 (hN := by exact fun _ => sc__law_draw.nd))) (b_cons (s_asg (j_bin o_mod (j_fz (j_callT c_int (g_int C) (a_cons (j_bin o_add (j_bin o_mul (j_var 2) j_int) j_int) a_nil))) j_int) (g_name 2 (hN := by exact fun _ => sc__law_draw.nd))) (b_one (s_ret (j_val (j_bin o_mod (j_fz (j_callT c_int (g_int C) (a_cons (j_bin o_div (j_var 2) j_int) a_nil))) (j_var 1)))))))))))⟩
def mb__law_next_1 : MS := (mRet (mVal (mIf (mTest (mBin gLt (mVar 4) (mC (.int 3)))) (mTup (mCons (mVar 1) (mCons (mVar 2) (mCons (mVar 3) (mCons (mVar 4) (mCons (mBin gAdd (mVar 5) (mC (.int 1))) mNil)))))) (mTup (mCons (mVar 1) (mCons (mVar 2) (mCons (mBin gAdd (mVar 3) (mC (.int 1))) (mCons (mC (.int 0)) (mCons (mC (.int 0)) mNil)))))))))
def mb__law_next : MS := (mSeq (mAsg (mVar 0) (mTupG 5 (mN1 (mN 1) (mN1 (mN 2) (mN1 (mN 3) (mN1 (mN 4) (mN1 (mN 5) mN0))))))) mb__law_next_1)
def mf__law_next : MF := mFn 6 mb__law_next
theorem ok__law_next (C : Cc K mg) : ∃ fd, FnP K "_law_next" s__law_next (He.ga K "_law_next") fd ∧ FnG P w K mg base 1 (He.ga K "_law_next") fd P__law_next mf__law_next := by
  obtain ⟨fd, F⟩ := C.says.def_ 7 (d := d__law_next) rfl
  exact ⟨fd, F, fnG_of F sc__law_next fun cdv A outer s H hr hg => (b_cons (s_asg (j_var 0) (g_tup (gs_cons (g_name 1 (hN := by exact fun _ => sc__law_next.nd)) (gs_cons (g_name 2 (hN := by exact fun _ => sc__law_next.nd)) (gs_cons (g_name 3 (hN := by exact fun _ => sc__law_next.nd)) (gs_cons (g_name 4 (hN := by exact fun _ => sc__law_next.nd)) (gs_cons (g_name 5 (hN := by exact fun _ => sc__law_next.nd)) gs_nil))))))) (b_one (s_ret (j_val (j_if (t_cmp o_lt (j_var 4) j_int) (j_tup (a_cons (j_var 1) (a_cons (j_var 2) (a_cons (j_var 3) (a_cons (j_var 4) (a_cons (j_bin o_add (j_var 5) j_int) a_nil)))))) (j_tup (a_cons (j_var 1) (a_cons (j_var 2) (a_cons (j_bin o_add (j_var 3) j_int) (a_cons j_int (a_cons j_int a_nil)))))))))))⟩
def lc__law_in_1 : MO := (mLc (mIt (mVar 0)) (mTupG 2 (mN1 (mN 2) (mN1 (mN 3) mN0))) (mTAnd (mTest (mBin gLe (mVar 2) (mVar 1))) (mTOr (mTest (mBin gIs (mVar 3) (mC .none))) (mTest (mBin gLt (mVar 1) (mVar 3))))) (mC (.int 1)) [2, 3])
def mb__law_in : MS := (mRet (mVal (mBin gNe (mFz lc__law_in_1) (mFz (mLst mNil)))))
def mf__law_in : MF := mFn 4 mb__law_in
theorem ok__law_in (C : Cc K mg) : ∃ fd, FnP K "_law_in" s__law_in (He.ga K "_law_in") fd ∧ FnG P w K mg base 1 (He.ga K "_law_in") fd P__law_in mf__law_in := by
  obtain ⟨fd, F⟩ := C.says.def_ 8 (d := d__law_in) rfl
  exact ⟨fd, F, fnG_of F sc__law_in fun cdv A outer s H hr hg => (b_one (s_ret (j_val (j_cmp o_ne (j_fz (j_lc [("low", 2), ("high", 3)] (i_any (j_var 0)) (g_tup (gs_cons (g_name 2 (hN := by exact fun _ => sc__law_in.nd)) (gs_cons (g_name 3 (hN := by exact fun _ => sc__law_in.nd)) gs_nil))) (ts_one ((w_and (t_cmp o_le (j_var 2) (j_var 1)) (w_and1 ((w_or (t_cmp o_is (j_var 3) j_none) (w_or1 (t_cmp o_lt (j_var 1) (j_var 3))))).jt))).jt) j_int (fun _ => blkOk_by (N := N__law_in) (sc := defScope s__law_in) (by decide +kernel)) (hN := by exact fun _ => sc__law_in.nd))) (j_fz (j_lst a_nil))))))⟩
def mb__law_borders_1 : MS := (mDrop (mExt 1 (mIf (mTest (mBin gIs (mVar 4) (mC .none))) (mFz (mLst (mCons (mVar 3) mNil))) (mFz (mLst (mCons (mVar 3) (mCons (mVar 4) mNil)))))))
def mb__law_borders_2 : MS := (mFor (mIt (mVar 2)) (mTupG 2 (mN1 (mN 3) (mN1 (mN 4) mN0))) mb__law_borders_1)
def mb__law_borders_3 : MS := (mFor (mIt (mVar 0)) (mN 2) mb__law_borders_2)
def mb__law_borders : MS := (mSeq (mOwn (mLst (mCons (mTup (mCons (mC (.int 0)) (mCons (mC (.int 0)) (mCons (mC (.int 0)) (mCons (mC (.int 0)) (mCons (mC (.int 0)) mNil)))))) mNil)) 1) (mSeq mb__law_borders_3 (mFrz 1 (mRet (mSS (mVar 1))))))
def mf__law_borders : MF := mFn 5 mb__law_borders
theorem ok__law_borders (C : Cc K mg) : ∃ fd, FnP K "_law_borders" s__law_borders (He.ga K "_law_borders") fd ∧ FnG P w K mg base 1 (He.ga K "_law_borders") fd P__law_borders mf__law_borders := by
  obtain ⟨fd, F⟩ := C.says.def_ 9 (d := d__law_borders) rfl
  exact ⟨fd, F, fnG_of F sc__law_borders fun cdv A outer s H hr hg => (b_cons (s_own 1 (j_lst (a_cons (j_tup (a_cons j_int (a_cons j_int (a_cons j_int (a_cons j_int (a_cons j_int a_nil)))))) a_nil)) (hN := by exact fun _ => sc__law_borders.nd)) (b_cons (s_for (i_any (j_var 0)) (g_name 2 (hN := by exact fun _ => sc__law_borders.nd)) (b_one (s_for (i_any (j_var 2)) (g_tup (gs_cons (g_name 3 (hN := by exact fun _ => sc__law_borders.nd)) (gs_cons (g_name 4 (hN := by exact fun _ => sc__law_borders.nd)) gs_nil))) (b_one (s_expr (j_ext 1 (j_if (t_cmp o_is (j_var 4) j_none) (j_fz (j_lst (a_cons (j_var 3) a_nil))) (j_fz (j_lst (a_cons (j_var 3) (a_cons (j_var 4) a_nil))))))))))) (b_frz 1 (b_one (s_ret (j_sortSet (j_var 1) (g_sorted C) (g_set C)))))))⟩
def mb__law_made_1 : MS := (mIf (mTAnd (mTest (mVar 5)) (mTest (mBin gIs (mVar 3) (mC .none)))) (mAsg (mVar 4) (mN 3)) mNx)
def mb__law_made_2 : MS := (mIf (mTAnd (mTNot (mTest (mVar 5))) (mTest (mBin gNot (mVar 3) (mC .none)))) (mSeq (mDrop (mApp 2 (mTup (mCons (mVar 3) (mCons (mVar 4) mNil))))) (mAsg (mC .none) (mN 3))) mNx)
def mb__law_made_3 : MS := (mFor (mZip (mCons (mVar 0) (mCons (mVar 1) mNil))) (mTupG 2 (mN1 (mN 4) (mN1 (mN 5) mN0))) (mSeq mb__law_made_1 mb__law_made_2))
def mb__law_made_4 : MS := (mIf (mTest (mBin gNot (mVar 3) (mC .none))) (mDrop (mApp 2 (mTup (mCons (mVar 3) (mCons (mC .none) mNil))))) mNx)
def mb__law_made : MS := (mSeq (mPar [2, 3] (mE1 (mLst mNil) (mE1 (mVal (mC .none)) mE0))) (mSeq mb__law_made_3 (mSeq mb__law_made_4 (mFrz 2 (mRet (mCB gTuple (mCons (mVar 2) mNil)))))))
def mf__law_made : MF := mFn 6 mb__law_made
theorem ok__law_made (C : Cc K mg) : ∃ fd, FnP K "_law_made" s__law_made (He.ga K "_law_made") fd ∧ FnG P w K mg base 1 (He.ga K "_law_made") fd P__law_made mf__law_made := by
  obtain ⟨fd, F⟩ := C.says.def_ 10 (d := d__law_made) rfl
  exact ⟨fd, F, fnG_of F sc__law_made fun cdv A outer s H hr hg => (b_cons (s_par2 2 3 (e_cons (j_lst a_nil) (e_cons (j_val j_none) e_nil)) (hN := by exact fun _ => sc__law_made.nd)) (b_cons (s_for (i_zip (a_cons (j_var 0) (a_cons (j_var 1) a_nil)) (g_zip C)) (g_tup (gs_cons (g_name 4 (hN := by exact fun _ => sc__law_made.nd)) (gs_cons (g_name 5 (hN := by exact fun _ => sc__law_made.nd)) gs_nil))) (b_cons (s_if ((w_and (t_val (j_var 5)) (w_and1 (t_cmp o_is (j_var 3) j_none)))).jt (b_one (s_asg (j_var 4) (g_name 3 (hN := by exact fun _ => sc__law_made.nd)))) b_nil) (b_one (s_if ((w_and (t_not (t_val (j_var 5))) (w_and1 (t_cmp o_isNot (j_var 3) j_none)))).jt (b_cons (s_expr (j_app 2 (j_tup (a_cons (j_var 3) (a_cons (j_var 4) a_nil))))) (b_one (s_asg j_none (g_name 3 (hN := by exact fun _ => sc__law_made.nd))))) b_nil)))) (b_cons (s_if (t_cmp o_isNot (j_var 3) j_none) (b_one (s_expr (j_app 2 (j_tup (a_cons (j_var 3) (a_cons j_none a_nil)))))) b_nil) (b_frz 2 (b_one (s_ret (j_callT c_tuple (g_tuple C) (a_cons (j_var 2) a_nil))))))))⟩
def lc_is_version_value_1 : MO := (mLc (mIt (mVar 0)) (mN 1) mYes (mAnd (mFz (mCall mf_is_integer [0] [] (mCons (mVar 1) mNil) mNil)) (mBin gGe (mVar 1) (mC (.int 0)))) [1])
def mb_is_version_value_2 : MS := (mIf (mTOr (mTNot (mTest (mIsi "tuple" (mVar 0)))) (mTOr (mTest (mBin gNe (mFz (mCB gLen (mCons (mVar 0) mNil))) (mC (.int 5)))) (mTNot (mTest (mFz (mCB gAll (mCons (mFz lc_is_version_value_1) mNil))))))) (mRet (mVal (mC (.bool false)))) mNx)
def mb_is_version_value : MS := (mSeq mb_is_version_value_2 (mRet (mVal (mOr (mBin gLt (mBin gIx (mVar 0) (mC (.int 3))) (mC (.int 3))) (mAnd (mBin gEq (mBin gIx (mVar 0) (mC (.int 3))) (mC (.int 3))) (mBin gEq (mBin gIx (mVar 0) (mC (.int 4))) (mC (.int 0))))))))
def mf_is_version_value : MF := mFn 2 mb_is_version_value
theorem ok_is_version_value (C : Cc K mg) : ∃ fd, FnP K "is_version_value" s_is_version_value (He.ga K "is_version_value") fd ∧ FnG P w K mg base 2 (He.ga K "is_version_value") fd P_is_version_value mf_is_version_value := by
  obtain ⟨fd, F⟩ := C.says.def_ 11 (d := d_is_version_value) rfl
  obtain ⟨fd_is_integer, F_is_integer, G_is_integer⟩ := ok_is_integer (P := P) (w := w) (base := base) C
  exact ⟨fd, F, fnG_of F sc_is_version_value fun cdv A outer s H hr hg => (b_cons (s_if ((w_or (t_not (t_val (j_isi (j_var 0) (g_isinstance C) (g_tuple C)))) (w_or (t_cmp o_ne (j_fz (j_callB c_len (g_len C) (a_cons (j_var 0) a_nil))) j_int) (w_or1 (t_not (t_val (j_fz (j_callB c_all (g_all C) (a_cons (j_fz (j_lc [("part", 1)] (i_any (j_var 0)) (g_name 1 (hN := by exact fun _ => sc_is_version_value.nd)) ts_nil (j_and (j_fz (j_call (ps := P_is_integer) (ks := []) (by exact G_is_integer) (by exact F_is_integer.kp) (by exact (g_is_integer C)) (by exact bg_is_integer_1 F_is_integer) (fun _ => .nil) (a_cons (j_var 1) a_nil) k_nil (l_cons l_nil) l_nil (Nat.le_of_ble_eq_true rfl))) (j_one (j_cmp o_ge (j_var 1) j_int))) (fun _ => blkOk_by (N := N_is_version_value) (sc := defScope s_is_version_value) (by decide +kernel)) (hN := by exact fun _ => sc_is_version_value.nd))) a_nil))))))))).jt (b_one (s_ret (j_val j_bool))) b_nil) (b_one (s_ret (j_val (j_or (j_cmp o_lt (j_ix (j_var 0) j_int) (j_gint (g_WHOLE C))) (j_one (j_and (j_cmp o_eq (j_ix (j_var 0) j_int) (j_gint (g_WHOLE C))) (j_one (j_cmp o_eq (j_ix (j_var 0) j_int) j_int)))))))))⟩
def mb_combined_1 : MS := (mIf (mTest (mBin gNe (mVar 6) (mVar 5))) (mSeq (mDrop (mApp 4 (mVar 3))) (mAsg (mVar 6) (mN 5))) mNx)
def mb_combined_2 : MS := (mFor (mIt (mFz (mSS (mBin gAdd (mFz (mCall mf_borders_of [0] [] (mCons (mVar 0) mNil) mNil)) (mFz (mCall mf_borders_of [0] [] (mCons (mVar 1) mNil) mNil)))))) (mN 3) (mSeq (mAsg (mBin gIn (mTup (mCons (mFz (mCall mf_is_in [0, 1] [] (mCons (mVar 0) (mCons (mVar 3) mNil)) mNil)) (mCons (mFz (mCall mf_is_in [0, 1] [] (mCons (mVar 1) (mCons (mVar 3) mNil)) mNil)) mNil))) (mVar 2)) (mN 6)) mb_combined_1))
def mb_combined : MS := (mSeq (mPar [4, 5] (mE1 (mLst mNil) (mE1 (mVal (mC (.bool false))) mE0))) (mSeq mb_combined_2 (mFrz 4 (mRet (mCall mf_range_by [0] [] (mCons (mVar 4) mNil) mNil)))))
def mf_combined : MF := mFn 7 mb_combined
theorem ok_combined (C : Cc K mg) : ∃ fd, FnP K "combined" s_combined (He.ga K "combined") fd ∧ FnG P w K mg base 2 (He.ga K "combined") fd P_combined mf_combined := by
  obtain ⟨fd, F⟩ := C.says.def_ 12 (d := d_combined) rfl
  obtain ⟨fd_borders_of, F_borders_of, G_borders_of⟩ := ok_borders_of (P := P) (w := w) (base := base) C
  obtain ⟨fd_is_in, F_is_in, G_is_in⟩ := ok_is_in (P := P) (w := w) (base := base) C
  obtain ⟨fd_range_by, F_range_by, G_range_by⟩ := ok_range_by (P := P) (w := w) (base := base) C
  exact ⟨fd, F, fnG_of F sc_combined fun cdv A outer s H hr hg => (b_cons (s_par2 4 5 (e_cons (j_lst a_nil) (e_cons (j_val j_bool) e_nil)) (hN := by exact fun _ => sc_combined.nd)) (b_cons (s_for (i_any (j_fz (j_sortSet (j_bin o_add (j_fz (j_call (ps := P_borders_of) (ks := []) G_borders_of F_borders_of.kp (g_borders_of C) (bg_borders_of_1 F_borders_of) (fun _ => .nil) (a_cons (j_var 0) a_nil) k_nil (l_cons l_nil) l_nil (Nat.le_of_ble_eq_true rfl))) (j_fz (j_call (ps := P_borders_of) (ks := []) G_borders_of F_borders_of.kp (g_borders_of C) (bg_borders_of_1 F_borders_of) (fun _ => .nil) (a_cons (j_var 1) a_nil) k_nil (l_cons l_nil) l_nil (Nat.le_of_ble_eq_true rfl)))) (g_sorted C) (g_set C)))) (g_name 3 (hN := by exact fun _ => sc_combined.nd)) (b_cons (s_asg (j_cmp o_in (j_tup (a_cons (j_fz (j_call (ps := P_is_in) (ks := []) G_is_in F_is_in.kp (g_is_in C) (bg_is_in_2 F_is_in) (fun _ => .nil) (a_cons (j_var 0) (a_cons (j_var 3) a_nil)) k_nil (l_cons (l_cons l_nil)) l_nil (Nat.le_of_ble_eq_true rfl))) (a_cons (j_fz (j_call (ps := P_is_in) (ks := []) G_is_in F_is_in.kp (g_is_in C) (bg_is_in_2 F_is_in) (fun _ => .nil) (a_cons (j_var 1) (a_cons (j_var 3) a_nil)) k_nil (l_cons (l_cons l_nil)) l_nil (Nat.le_of_ble_eq_true rfl))) a_nil))) (j_var 2)) (g_name 6 (hN := by exact fun _ => sc_combined.nd))) (b_one (s_if (t_cmp o_ne (j_var 6) (j_var 5)) (b_cons (s_expr (j_app 4 (j_var 3))) (b_one (s_asg (j_var 6) (g_name 5 (hN := by exact fun _ => sc_combined.nd))))) b_nil)))) (b_frz 4 (b_one (s_ret (j_call (ps := P_range_by) (ks := []) G_range_by F_range_by.kp (g_range_by C) (bg_range_by_1 F_range_by) (fun _ => .nil) (a_cons (j_var 4) a_nil) k_nil (l_cons l_nil) l_nil (Nat.le_of_ble_eq_true rfl)))))))⟩
def mb_paper_for_1 : MS := (mRet (mVal (mIf (mTest (mBin gEq (mVar 0) (mTup mNil))) (mTup (mCons (mVar 1) mNil)) (mTup (mCons (mC (.str "version")) (mCons (mFz (mCall mf_least_of [0] [] (mCons (mVar 0) mNil) mNil)) mNil))))))
def mb_paper_for : MS := mb_paper_for_1
def mf_paper_for : MF := mFn 2 mb_paper_for
theorem ok_paper_for (C : Cc K mg) : ∃ fd, FnP K "paper_for" s_paper_for (He.ga K "paper_for") fd ∧ FnG P w K mg base 2 (He.ga K "paper_for") fd P_paper_for mf_paper_for := by
  obtain ⟨fd, F⟩ := C.says.def_ 13 (d := d_paper_for) rfl
  obtain ⟨fd_least_of, F_least_of, G_least_of⟩ := ok_least_of (P := P) (w := w) (base := base) C
  exact ⟨fd, F, fnG_of F sc_paper_for fun cdv A outer s H hr hg => (b_one (s_ret (j_val (j_if (t_cmp o_eq (j_var 0) (j_tup a_nil)) (j_tup (a_cons (j_var 1) a_nil)) (j_tup (a_cons j_str (a_cons (j_fz (j_call (ps := P_least_of) (ks := []) G_least_of F_least_of.kp (g_least_of C) (bg_least_of_1 F_least_of) (fun _ => .nil) (a_cons (j_var 0) a_nil) k_nil (l_cons l_nil) l_nil (Nat.le_of_ble_eq_true rfl))) a_nil)))))))⟩
def mb__law_pick : MS := (mRet (mVal (mBin gIx (mVar 1) (mFz (mLend 0 mf__law_draw [0] [] (mCons (mFz (mCB gLen (mCons (mVar 1) mNil))) mNil) mNil)))))
def mf__law_pick : MF := mFn 2 mb__law_pick
theorem ok__law_pick (C : Cc K mg) : ∃ fd, FnP K "_law_pick" s__law_pick (He.ga K "_law_pick") fd ∧ FnG P w K mg base 2 (He.ga K "_law_pick") fd P__law_pick mf__law_pick := by
  obtain ⟨fd, F⟩ := C.says.def_ 14 (d := d__law_pick) rfl
  obtain ⟨fd__law_draw, F__law_draw, G__law_draw⟩ := ok__law_draw (P := P) (w := w) (base := base) C
  exact ⟨fd, F, fnG_of F sc__law_pick fun cdv A outer s H hr hg => (b_one (s_ret (j_val (j_ix (j_var 1) (j_fz (j_lend 0 (ps := P__law_draw) (ks := []) G__law_draw F__law_draw.kp (g__law_draw C) (bg__law_draw_2 F__law_draw) (fun _ => .nil) (a_cons (j_fz (j_callB c_len (g_len C) (a_cons (j_var 1) a_nil))) a_nil) k_nil (l_cons l_nil) l_nil (Nat.le_of_ble_eq_true rfl)))))))⟩
def lc__law_mixed_1 : MO := (mLc (mR1 (mCons (mFz (mCB gLen (mCons (mVar 1) mNil))) mNil)) (mN 3) mYes (mTup (mCons (mFz (mLend 0 mf__law_draw [0] [] (mCons (mC (.int 1000)) mNil) mNil)) (mCons (mVar 3) mNil))) [3])
def lc__law_mixed_2 : MO := (mLc (mIt (mVar 2)) (mTupG 2 (mN1 (mN 4) (mN1 (mN 3) mN0))) mYes (mBin gIx (mVar 1) (mVar 3)) [4, 3])
def mb__law_mixed : MS := (mSeq (mAsg (mFz (mCB gSorted (mCons (mFz lc__law_mixed_1) mNil))) (mN 2)) (mRet lc__law_mixed_2))
def mf__law_mixed : MF := mFn 5 mb__law_mixed
theorem ok__law_mixed (C : Cc K mg) : ∃ fd, FnP K "_law_mixed" s__law_mixed (He.ga K "_law_mixed") fd ∧ FnG P w K mg base 2 (He.ga K "_law_mixed") fd P__law_mixed mf__law_mixed := by
  obtain ⟨fd, F⟩ := C.says.def_ 15 (d := d__law_mixed) rfl
  obtain ⟨fd__law_draw, F__law_draw, G__law_draw⟩ := ok__law_draw (P := P) (w := w) (base := base) C
  exact ⟨fd, F, fnG_of F sc__law_mixed fun cdv A outer s H hr hg => (b_cons (s_asg (j_fz (j_callB c_sorted (g_sorted C) (a_cons (j_fz (j_lc [("at", 3)] (i_range1 (a_cons (j_fz (j_callB c_len (g_len C) (a_cons (j_var 1) a_nil))) a_nil) (g_range C)) (g_name 3 (hN := by exact fun _ => sc__law_mixed.nd)) ts_nil (j_tup (a_cons (j_fz (j_lend 0 (ps := P__law_draw) (ks := []) (by exact G__law_draw) (by exact F__law_draw.kp) (by exact (g__law_draw C)) (by exact bg__law_draw_2 F__law_draw) (fun _ => .nil) (a_cons j_int a_nil) k_nil (l_cons l_nil) l_nil (Nat.le_of_ble_eq_true rfl))) (a_cons (j_var 3) a_nil))) (fun _ => blkOk_by (N := N__law_mixed) (sc := defScope s__law_mixed) (by decide +kernel)) (hN := by exact fun _ => sc__law_mixed.nd))) a_nil))) (g_name 2 (hN := by exact fun _ => sc__law_mixed.nd))) (b_one (s_ret (j_lc [("mark", 4), ("at", 3)] (i_any (j_var 2)) (g_tup (gs_cons (g_name 4 (hN := by exact fun _ => sc__law_mixed.nd)) (gs_cons (g_name 3 (hN := by exact fun _ => sc__law_mixed.nd)) gs_nil))) ts_nil (j_ix (j_var 1) (j_var 3)) (fun _ => blkOk_by (N := N__law_mixed) (sc := defScope s__law_mixed) (by decide +kernel)) (hN := by exact fun _ => sc__law_mixed.nd)))))⟩
def lc__law_joined_1 : MO := (mLc (mIt (mVar 2)) (mN 3) mYes (mOr (mFz (mCall mf__law_in [0, 1] [] (mCons (mVar 0) (mCons (mVar 3) mNil)) mNil)) (mFz (mCall mf__law_in [0, 1] [] (mCons (mVar 1) (mCons (mVar 3) mNil)) mNil))) [3])
def mb__law_joined : MS := (mSeq (mAsg (mFz (mCall mf__law_borders [0] [] (mCons (mFz (mLst (mCons (mVar 0) (mCons (mVar 1) mNil)))) mNil) mNil)) (mN 2)) (mRet (mCall mf__law_made [0, 1] [] (mCons (mVar 2) (mCons (mFz lc__law_joined_1) mNil)) mNil)))
def mf__law_joined : MF := mFn 4 mb__law_joined
theorem ok__law_joined (C : Cc K mg) : ∃ fd, FnP K "_law_joined" s__law_joined (He.ga K "_law_joined") fd ∧ FnG P w K mg base 2 (He.ga K "_law_joined") fd P__law_joined mf__law_joined := by
  obtain ⟨fd, F⟩ := C.says.def_ 16 (d := d__law_joined) rfl
  obtain ⟨fd__law_borders, F__law_borders, G__law_borders⟩ := ok__law_borders (P := P) (w := w) (base := base) C
  obtain ⟨fd__law_in, F__law_in, G__law_in⟩ := ok__law_in (P := P) (w := w) (base := base) C
  obtain ⟨fd__law_made, F__law_made, G__law_made⟩ := ok__law_made (P := P) (w := w) (base := base) C
  exact ⟨fd, F, fnG_of F sc__law_joined fun cdv A outer s H hr hg => (b_cons (s_asg (j_fz (j_call (ps := P__law_borders) (ks := []) G__law_borders F__law_borders.kp (g__law_borders C) (bg__law_borders_1 F__law_borders) (fun _ => .nil) (a_cons (j_fz (j_lst (a_cons (j_var 0) (a_cons (j_var 1) a_nil)))) a_nil) k_nil (l_cons l_nil) l_nil (Nat.le_of_ble_eq_true rfl))) (g_name 2 (hN := by exact fun _ => sc__law_joined.nd))) (b_one (s_ret (j_call (ps := P__law_made) (ks := []) G__law_made F__law_made.kp (g__law_made C) (bg__law_made_2 F__law_made) (fun _ => .nil) (a_cons (j_var 2) (a_cons (j_fz (j_lc [("version", 3)] (i_any (j_var 2)) (g_name 3 (hN := by exact fun _ => sc__law_joined.nd)) ts_nil (j_or (j_fz (j_call (ps := P__law_in) (ks := []) (by exact G__law_in) (by exact F__law_in.kp) (by exact (g__law_in C)) (by exact bg__law_in_2 F__law_in) (fun _ => .nil) (a_cons (j_var 0) (a_cons (j_var 3) a_nil)) k_nil (l_cons (l_cons l_nil)) l_nil (Nat.le_of_ble_eq_true rfl))) (j_one (j_fz (j_call (ps := P__law_in) (ks := []) (by exact G__law_in) (by exact F__law_in.kp) (by exact (g__law_in C)) (by exact bg__law_in_2 F__law_in) (fun _ => .nil) (a_cons (j_var 1) (a_cons (j_var 3) a_nil)) k_nil (l_cons (l_cons l_nil)) l_nil (Nat.le_of_ble_eq_true rfl))))) (fun _ => blkOk_by (N := N__law_joined) (sc := defScope s__law_joined) (by decide +kernel)) (hN := by exact fun _ => sc__law_joined.nd))) a_nil)) k_nil (l_cons (l_cons l_nil)) l_nil (Nat.le_of_ble_eq_true rfl)))))⟩
def lc__law_cut_1 : MO := (mLc (mIt (mVar 2)) (mN 3) mYes (mAnd (mFz (mCall mf__law_in [0, 1] [] (mCons (mVar 0) (mCons (mVar 3) mNil)) mNil)) (mFz (mCall mf__law_in [0, 1] [] (mCons (mVar 1) (mCons (mVar 3) mNil)) mNil))) [3])
def mb__law_cut : MS := (mSeq (mAsg (mFz (mCall mf__law_borders [0] [] (mCons (mFz (mLst (mCons (mVar 0) (mCons (mVar 1) mNil)))) mNil) mNil)) (mN 2)) (mRet (mCall mf__law_made [0, 1] [] (mCons (mVar 2) (mCons (mFz lc__law_cut_1) mNil)) mNil)))
def mf__law_cut : MF := mFn 4 mb__law_cut
theorem ok__law_cut (C : Cc K mg) : ∃ fd, FnP K "_law_cut" s__law_cut (He.ga K "_law_cut") fd ∧ FnG P w K mg base 2 (He.ga K "_law_cut") fd P__law_cut mf__law_cut := by
  obtain ⟨fd, F⟩ := C.says.def_ 17 (d := d__law_cut) rfl
  obtain ⟨fd__law_borders, F__law_borders, G__law_borders⟩ := ok__law_borders (P := P) (w := w) (base := base) C
  obtain ⟨fd__law_in, F__law_in, G__law_in⟩ := ok__law_in (P := P) (w := w) (base := base) C
  obtain ⟨fd__law_made, F__law_made, G__law_made⟩ := ok__law_made (P := P) (w := w) (base := base) C
  exact ⟨fd, F, fnG_of F sc__law_cut fun cdv A outer s H hr hg => (b_cons (s_asg (j_fz (j_call (ps := P__law_borders) (ks := []) G__law_borders F__law_borders.kp (g__law_borders C) (bg__law_borders_1 F__law_borders) (fun _ => .nil) (a_cons (j_fz (j_lst (a_cons (j_var 0) (a_cons (j_var 1) a_nil)))) a_nil) k_nil (l_cons l_nil) l_nil (Nat.le_of_ble_eq_true rfl))) (g_name 2 (hN := by exact fun _ => sc__law_cut.nd))) (b_one (s_ret (j_call (ps := P__law_made) (ks := []) G__law_made F__law_made.kp (g__law_made C) (bg__law_made_2 F__law_made) (fun _ => .nil) (a_cons (j_var 2) (a_cons (j_fz (j_lc [("version", 3)] (i_any (j_var 2)) (g_name 3 (hN := by exact fun _ => sc__law_cut.nd)) ts_nil (j_and (j_fz (j_call (ps := P__law_in) (ks := []) (by exact G__law_in) (by exact F__law_in.kp) (by exact (g__law_in C)) (by exact bg__law_in_2 F__law_in) (fun _ => .nil) (a_cons (j_var 0) (a_cons (j_var 3) a_nil)) k_nil (l_cons (l_cons l_nil)) l_nil (Nat.le_of_ble_eq_true rfl))) (j_one (j_fz (j_call (ps := P__law_in) (ks := []) (by exact G__law_in) (by exact F__law_in.kp) (by exact (g__law_in C)) (by exact bg__law_in_2 F__law_in) (fun _ => .nil) (a_cons (j_var 1) (a_cons (j_var 3) a_nil)) k_nil (l_cons (l_cons l_nil)) l_nil (Nat.le_of_ble_eq_true rfl))))) (fun _ => blkOk_by (N := N__law_cut) (sc := defScope s__law_cut) (by decide +kernel)) (hN := by exact fun _ => sc__law_cut.nd))) a_nil)) k_nil (l_cons (l_cons l_nil)) l_nil (Nat.le_of_ble_eq_true rfl)))))⟩
def lc__law_without_1 : MO := (mLc (mIt (mVar 2)) (mN 3) mYes (mAnd (mFz (mCall mf__law_in [0, 1] [] (mCons (mVar 0) (mCons (mVar 3) mNil)) mNil)) (mNot (mFz (mCall mf__law_in [0, 1] [] (mCons (mVar 1) (mCons (mVar 3) mNil)) mNil)))) [3])
def mb__law_without : MS := (mSeq (mAsg (mFz (mCall mf__law_borders [0] [] (mCons (mFz (mLst (mCons (mVar 0) (mCons (mVar 1) mNil)))) mNil) mNil)) (mN 2)) (mRet (mCall mf__law_made [0, 1] [] (mCons (mVar 2) (mCons (mFz lc__law_without_1) mNil)) mNil)))
def mf__law_without : MF := mFn 4 mb__law_without
theorem ok__law_without (C : Cc K mg) : ∃ fd, FnP K "_law_without" s__law_without (He.ga K "_law_without") fd ∧ FnG P w K mg base 2 (He.ga K "_law_without") fd P__law_without mf__law_without := by
  obtain ⟨fd, F⟩ := C.says.def_ 18 (d := d__law_without) rfl
  obtain ⟨fd__law_borders, F__law_borders, G__law_borders⟩ := ok__law_borders (P := P) (w := w) (base := base) C
  obtain ⟨fd__law_in, F__law_in, G__law_in⟩ := ok__law_in (P := P) (w := w) (base := base) C
  obtain ⟨fd__law_made, F__law_made, G__law_made⟩ := ok__law_made (P := P) (w := w) (base := base) C
  exact ⟨fd, F, fnG_of F sc__law_without fun cdv A outer s H hr hg => (b_cons (s_asg (j_fz (j_call (ps := P__law_borders) (ks := []) G__law_borders F__law_borders.kp (g__law_borders C) (bg__law_borders_1 F__law_borders) (fun _ => .nil) (a_cons (j_fz (j_lst (a_cons (j_var 0) (a_cons (j_var 1) a_nil)))) a_nil) k_nil (l_cons l_nil) l_nil (Nat.le_of_ble_eq_true rfl))) (g_name 2 (hN := by exact fun _ => sc__law_without.nd))) (b_one (s_ret (j_call (ps := P__law_made) (ks := []) G__law_made F__law_made.kp (g__law_made C) (bg__law_made_2 F__law_made) (fun _ => .nil) (a_cons (j_var 2) (a_cons (j_fz (j_lc [("version", 3)] (i_any (j_var 2)) (g_name 3 (hN := by exact fun _ => sc__law_without.nd)) ts_nil (j_and (j_fz (j_call (ps := P__law_in) (ks := []) (by exact G__law_in) (by exact F__law_in.kp) (by exact (g__law_in C)) (by exact bg__law_in_2 F__law_in) (fun _ => .nil) (a_cons (j_var 0) (a_cons (j_var 3) a_nil)) k_nil (l_cons (l_cons l_nil)) l_nil (Nat.le_of_ble_eq_true rfl))) (j_one (j_not (j_fz (j_call (ps := P__law_in) (ks := []) (by exact G__law_in) (by exact F__law_in.kp) (by exact (g__law_in C)) (by exact bg__law_in_2 F__law_in) (fun _ => .nil) (a_cons (j_var 1) (a_cons (j_var 3) a_nil)) k_nil (l_cons (l_cons l_nil)) l_nil (Nat.le_of_ble_eq_true rfl)))))) (fun _ => blkOk_by (N := N__law_without) (sc := defScope s__law_without) (by decide +kernel)) (hN := by exact fun _ => sc__law_without.nd))) a_nil)) k_nil (l_cons (l_cons l_nil)) l_nil (Nat.le_of_ble_eq_true rfl)))))⟩
def mb_is_pair_of_ends_1 : MS := (mIf (mTOr (mTNot (mTest (mIsi "tuple" (mVar 0)))) (mTOr (mTest (mBin gNe (mFz (mCB gLen (mCons (mVar 0) mNil))) (mC (.int 2)))) (mTNot (mTest (mFz (mCall mf_is_version_value [0] [] (mCons (mBin gIx (mVar 0) (mC (.int 0))) mNil) mNil)))))) (mRet (mVal (mC (.bool false)))) mNx)
def mb_is_pair_of_ends : MS := (mSeq mb_is_pair_of_ends_1 (mRet (mVal (mOr (mBin gIs (mBin gIx (mVar 0) (mC (.int 1))) (mC .none)) (mAnd (mFz (mCall mf_is_version_value [0] [] (mCons (mBin gIx (mVar 0) (mC (.int 1))) mNil) mNil)) (mBin gLt (mBin gIx (mVar 0) (mC (.int 0))) (mBin gIx (mVar 0) (mC (.int 1)))))))))
def mf_is_pair_of_ends : MF := mFn 1 mb_is_pair_of_ends
theorem ok_is_pair_of_ends (C : Cc K mg) : ∃ fd, FnP K "is_pair_of_ends" s_is_pair_of_ends (He.ga K "is_pair_of_ends") fd ∧ FnG P w K mg base 3 (He.ga K "is_pair_of_ends") fd P_is_pair_of_ends mf_is_pair_of_ends := by
  obtain ⟨fd, F⟩ := C.says.def_ 19 (d := d_is_pair_of_ends) rfl
  obtain ⟨fd_is_version_value, F_is_version_value, G_is_version_value⟩ := ok_is_version_value (P := P) (w := w) (base := base) C
  exact ⟨fd, F, fnG_of F sc_is_pair_of_ends fun cdv A outer s H hr hg => (b_cons (s_if ((w_or (t_not (t_val (j_isi (j_var 0) (g_isinstance C) (g_tuple C)))) (w_or (t_cmp o_ne (j_fz (j_callB c_len (g_len C) (a_cons (j_var 0) a_nil))) j_int) (w_or1 (t_not (t_val (j_fz (j_call (ps := P_is_version_value) (ks := []) G_is_version_value F_is_version_value.kp (g_is_version_value C) (bg_is_version_value_1 F_is_version_value) (fun _ => .nil) (a_cons (j_ix (j_var 0) j_int) a_nil) k_nil (l_cons l_nil) l_nil (Nat.le_of_ble_eq_true rfl))))))))).jt (b_one (s_ret (j_val j_bool))) b_nil) (b_one (s_ret (j_val (j_or (j_cmp o_is (j_ix (j_var 0) j_int) j_none) (j_one (j_and (j_fz (j_call (ps := P_is_version_value) (ks := []) G_is_version_value F_is_version_value.kp (g_is_version_value C) (bg_is_version_value_1 F_is_version_value) (fun _ => .nil) (a_cons (j_ix (j_var 0) j_int) a_nil) k_nil (l_cons l_nil) l_nil (Nat.le_of_ble_eq_true rfl))) (j_one (j_cmp o_lt (j_ix (j_var 0) j_int) (j_ix (j_var 0) j_int))))))))))⟩
def mb_joined_of : MS := (mRet (mCall mf_combined [0, 1, 2] [] (mCons (mVar 0) (mCons (mVar 1) (mCons (mTup (mCons (mTup (mCons (mC (.bool true)) (mCons (mC (.bool true)) mNil))) (mCons (mTup (mCons (mC (.bool true)) (mCons (mC (.bool false)) mNil))) (mCons (mTup (mCons (mC (.bool false)) (mCons (mC (.bool true)) mNil))) mNil)))) mNil))) mNil))
def mf_joined_of : MF := mFn 2 mb_joined_of
theorem ok_joined_of (C : Cc K mg) : ∃ fd, FnP K "joined_of" s_joined_of (He.ga K "joined_of") fd ∧ FnG P w K mg base 3 (He.ga K "joined_of") fd P_joined_of mf_joined_of := by
  obtain ⟨fd, F⟩ := C.says.def_ 20 (d := d_joined_of) rfl
  obtain ⟨fd_combined, F_combined, G_combined⟩ := ok_combined (P := P) (w := w) (base := base) C
  exact ⟨fd, F, fnG_of F sc_joined_of fun cdv A outer s H hr hg => (b_one (s_ret (j_call (ps := P_combined) (ks := []) G_combined F_combined.kp (g_combined C) (bg_combined_3 F_combined) (fun _ => .nil) (a_cons (j_var 0) (a_cons (j_var 1) (a_cons (j_tup (a_cons (j_tup (a_cons j_bool (a_cons j_bool a_nil))) (a_cons (j_tup (a_cons j_bool (a_cons j_bool a_nil))) (a_cons (j_tup (a_cons j_bool (a_cons j_bool a_nil))) a_nil)))) a_nil))) k_nil (l_cons (l_cons (l_cons l_nil))) l_nil (Nat.le_of_ble_eq_true rfl))))⟩
def mb_without_of : MS := (mRet (mCall mf_combined [0, 1, 2] [] (mCons (mVar 0) (mCons (mVar 1) (mCons (mTup (mCons (mTup (mCons (mC (.bool true)) (mCons (mC (.bool false)) mNil))) mNil)) mNil))) mNil))
def mf_without_of : MF := mFn 2 mb_without_of
theorem ok_without_of (C : Cc K mg) : ∃ fd, FnP K "without_of" s_without_of (He.ga K "without_of") fd ∧ FnG P w K mg base 3 (He.ga K "without_of") fd P_without_of mf_without_of := by
  obtain ⟨fd, F⟩ := C.says.def_ 21 (d := d_without_of) rfl
  obtain ⟨fd_combined, F_combined, G_combined⟩ := ok_combined (P := P) (w := w) (base := base) C
  exact ⟨fd, F, fnG_of F sc_without_of fun cdv A outer s H hr hg => (b_one (s_ret (j_call (ps := P_combined) (ks := []) G_combined F_combined.kp (g_combined C) (bg_combined_3 F_combined) (fun _ => .nil) (a_cons (j_var 0) (a_cons (j_var 1) (a_cons (j_tup (a_cons (j_tup (a_cons j_bool (a_cons j_bool a_nil))) a_nil)) a_nil))) k_nil (l_cons (l_cons (l_cons l_nil))) l_nil (Nat.le_of_ble_eq_true rfl))))⟩
def mb_is_paper_for_1 : MS := (mIf (mTOr (mTNot (mTest (mIsi "tuple" (mVar 2)))) (mTOr (mTest (mBin gNotInD (mFz (mCB gLen (mCons (mVar 2) mNil))) (mTup (mCons (mC (.int 1)) (mCons (mC (.int 2)) mNil))))) (mTNot (mTest (mIsi "str" (mBin gIx (mVar 2) (mC (.int 0)))))))) (mRet (mVal (mC (.bool false)))) mNx)
def mb_is_paper_for_2 : MS := (mIf (mTAnd (mTest (mBin gEq (mFz (mCB gLen (mCons (mVar 2) mNil))) (mC (.int 2)))) (mTNot (mTest (mFz (mCall mf_is_version_value [0] [] (mCons (mBin gIx (mVar 2) (mC (.int 1))) mNil) mNil))))) (mRet (mVal (mC (.bool false)))) mNx)
def mb_is_paper_for : MS := (mSeq mb_is_paper_for_1 (mSeq mb_is_paper_for_2 (mRet (mVal (mBin gEq (mVar 2) (mFz (mCall mf_paper_for [0, 1] [] (mCons (mVar 0) (mCons (mVar 1) mNil)) mNil)))))))
def mf_is_paper_for : MF := mFn 3 mb_is_paper_for
theorem ok_is_paper_for (C : Cc K mg) : ∃ fd, FnP K "is_paper_for" s_is_paper_for (He.ga K "is_paper_for") fd ∧ FnG P w K mg base 3 (He.ga K "is_paper_for") fd P_is_paper_for mf_is_paper_for := by
  obtain ⟨fd, F⟩ := C.says.def_ 22 (d := d_is_paper_for) rfl
  obtain ⟨fd_is_version_value, F_is_version_value, G_is_version_value⟩ := ok_is_version_value (P := P) (w := w) (base := base) C
  obtain ⟨fd_paper_for, F_paper_for, G_paper_for⟩ := ok_paper_for (P := P) (w := w) (base := base) C
  exact ⟨fd, F, fnG_of F sc_is_paper_for fun cdv A outer s H hr hg => (b_cons (s_if ((w_or (t_not (t_val (j_isi (j_var 2) (g_isinstance C) (g_tuple C)))) (w_or (t_cmp o_notIn (j_fz (j_callB c_len (g_len C) (a_cons (j_var 2) a_nil))) (j_tup (a_cons j_int (a_cons j_int a_nil)))) (w_or1 (t_not (t_val (j_isi (j_ix (j_var 2) j_int) (g_isinstance C) (g_str C)))))))).jt (b_one (s_ret (j_val j_bool))) b_nil) (b_cons (s_if ((w_and (t_cmp o_eq (j_fz (j_callB c_len (g_len C) (a_cons (j_var 2) a_nil))) j_int) (w_and1 (t_not (t_val (j_fz (j_call (ps := P_is_version_value) (ks := []) G_is_version_value F_is_version_value.kp (g_is_version_value C) (bg_is_version_value_1 F_is_version_value) (fun _ => .nil) (a_cons (j_ix (j_var 2) j_int) a_nil) k_nil (l_cons l_nil) l_nil (Nat.le_of_ble_eq_true rfl)))))))).jt (b_one (s_ret (j_val j_bool))) b_nil) (b_one (s_ret (j_val (j_cmp o_eq (j_var 2) (j_fz (j_call (ps := P_paper_for) (ks := []) G_paper_for F_paper_for.kp (g_paper_for C) (bg_paper_for_2 F_paper_for) (fun _ => .nil) (a_cons (j_var 0) (a_cons (j_var 1) a_nil)) k_nil (l_cons (l_cons l_nil)) l_nil (Nat.le_of_ble_eq_true rfl)))))))))⟩
def mb__law_number : MS := (mRet (mLend 0 mf__law_pick [0] [] (mCons (mFz (mLst (mCons (mC (.int 0)) (mCons (mC (.int 0)) (mCons (mC (.int 0)) (mCons (mC (.int 1)) (mCons (mC (.int 1)) (mCons (mC (.int 2)) (mCons (mC (.int 3)) (mCons (mC (.int 9)) (mCons (mC (.int 10)) (mCons (mC (.int 19)) (mCons (mC (.int 100)) (mCons (mBin gSub (mBin gPow (mC (.int 10)) (mC (.int 9))) (mC (.int 30))) (mCons (mFz (mLend 0 mf__law_draw [0] [] (mCons (mBin gPow (mC (.int 10)) (mC (.int 6))) mNil) mNil)) mNil))))))))))))))) mNil) mNil))
def mf__law_number : MF := mFn 1 mb__law_number
theorem ok__law_number (C : Cc K mg) : ∃ fd, FnP K "_law_number" s__law_number (He.ga K "_law_number") fd ∧ FnG P w K mg base 3 (He.ga K "_law_number") fd P__law_number mf__law_number := by
  obtain ⟨fd, F⟩ := C.says.def_ 23 (d := d__law_number) rfl
  obtain ⟨fd__law_draw, F__law_draw, G__law_draw⟩ := ok__law_draw (P := P) (w := w) (base := base) C
  obtain ⟨fd__law_pick, F__law_pick, G__law_pick⟩ := ok__law_pick (P := P) (w := w) (base := base) C
  exact ⟨fd, F, fnG_of F sc__law_number fun cdv A outer s H hr hg => (b_one (s_ret (j_lend 0 (ps := P__law_pick) (ks := []) G__law_pick F__law_pick.kp (g__law_pick C) (bg__law_pick_2 F__law_pick) (fun _ => .nil) (a_cons (j_fz (j_lst (a_cons j_int (a_cons j_int (a_cons j_int (a_cons j_int (a_cons j_int (a_cons j_int (a_cons j_int (a_cons j_int (a_cons j_int (a_cons j_int (a_cons j_int (a_cons (j_bin o_sub (j_bin o_pow j_int j_int) j_int) (a_cons (j_fz (j_lend 0 (ps := P__law_draw) (ks := []) G__law_draw F__law_draw.kp (g__law_draw C) (bg__law_draw_2 F__law_draw) (fun _ => .nil) (a_cons (j_bin o_pow j_int j_int) a_nil) k_nil (l_cons l_nil) l_nil (Nat.le_of_ble_eq_true rfl))) a_nil))))))))))))))) a_nil) k_nil (l_cons l_nil) l_nil (Nat.le_of_ble_eq_true rfl))))⟩
def lc_is_range_value_1 : MO := (mLc (mIt (mVar 0)) (mN 3) mYes (mFz (mCall mf_is_pair_of_ends [0] [] (mCons (mVar 3) mNil) mNil)) [3])
def mb_is_range_value_2 : MS := (mIf (mTOr (mTNot (mTest (mIsi "tuple" (mVar 0)))) (mTNot (mTest (mFz (mCB gAll (mCons (mFz lc_is_range_value_1) mNil)))))) (mRet (mVal (mC (.bool false)))) mNx)
def lc_is_range_value_3 : MO := (mLc (mZip (mCons (mVar 0) (mCons (mFz (mSl (mVar 0) (mP1 (mC (.int 1))) mP0)) mNil))) (mTupG 2 (mN1 (mN 1) (mN1 (mN 2) mN0))) mYes (mAnd (mBin gNot (mBin gIx (mVar 1) (mC (.int 1))) (mC .none)) (mBin gLt (mBin gIx (mVar 1) (mC (.int 1))) (mBin gIx (mVar 2) (mC (.int 0))))) [1, 2])
def mb_is_range_value : MS := (mSeq mb_is_range_value_2 (mRet (mCB gAll (mCons (mFz lc_is_range_value_3) mNil))))
def mf_is_range_value : MF := mFn 4 mb_is_range_value
theorem ok_is_range_value (C : Cc K mg) : ∃ fd, FnP K "is_range_value" s_is_range_value (He.ga K "is_range_value") fd ∧ FnG P w K mg base 4 (He.ga K "is_range_value") fd P_is_range_value mf_is_range_value := by
  obtain ⟨fd, F⟩ := C.says.def_ 24 (d := d_is_range_value) rfl
  obtain ⟨fd_is_pair_of_ends, F_is_pair_of_ends, G_is_pair_of_ends⟩ := ok_is_pair_of_ends (P := P) (w := w) (base := base) C
  exact ⟨fd, F, fnG_of F sc_is_range_value fun cdv A outer s H hr hg => (b_cons (s_if ((w_or (t_not (t_val (j_isi (j_var 0) (g_isinstance C) (g_tuple C)))) (w_or1 (t_not (t_val (j_fz (j_callB c_all (g_all C) (a_cons (j_fz (j_lc [("pair", 3)] (i_any (j_var 0)) (g_name 3 (hN := by exact fun _ => sc_is_range_value.nd)) ts_nil (j_fz (j_call (ps := P_is_pair_of_ends) (ks := []) (by exact G_is_pair_of_ends) (by exact F_is_pair_of_ends.kp) (by exact (g_is_pair_of_ends C)) (by exact bg_is_pair_of_ends_1 F_is_pair_of_ends) (fun _ => .nil) (a_cons (j_var 3) a_nil) k_nil (l_cons l_nil) l_nil (Nat.le_of_ble_eq_true rfl))) (fun _ => blkOk_by (N := N_is_range_value) (sc := defScope s_is_range_value) (by decide +kernel)) (hN := by exact fun _ => sc_is_range_value.nd))) a_nil)))))))).jt (b_one (s_ret (j_val j_bool))) b_nil) (b_one (s_ret (j_callB c_all (g_all C) (a_cons (j_fz (j_lc [("near", 1), ("far", 2)] (i_zip (a_cons (j_var 0) (a_cons (j_fz (j_sl (j_var 0) (p_some j_int) p_none)) a_nil)) (g_zip C)) (g_tup (gs_cons (g_name 1 (hN := by exact fun _ => sc_is_range_value.nd)) (gs_cons (g_name 2 (hN := by exact fun _ => sc_is_range_value.nd)) gs_nil))) ts_nil (j_and (j_cmp o_isNot (j_ix (j_var 1) j_int) j_none) (j_one (j_cmp o_lt (j_ix (j_var 1) j_int) (j_ix (j_var 2) j_int)))) (fun _ => blkOk_by (N := N_is_range_value) (sc := defScope s_is_range_value) (by decide +kernel)) (hN := by exact fun _ => sc_is_range_value.nd))) a_nil)))))⟩
def mb_unlike : MS := (mRet (mCall mf_joined_of [0, 1] [] (mCons (mFz (mCall mf_without_of [0, 1] [] (mCons (mVar 0) (mCons (mVar 1) mNil)) mNil)) (mCons (mFz (mCall mf_without_of [0, 1] [] (mCons (mVar 1) (mCons (mVar 0) mNil)) mNil)) mNil)) mNil))
def mf_unlike : MF := mFn 2 mb_unlike
theorem ok_unlike (C : Cc K mg) : ∃ fd, FnP K "unlike" s_unlike (He.ga K "unlike") fd ∧ FnG P w K mg base 4 (He.ga K "unlike") fd P_unlike mf_unlike := by
  obtain ⟨fd, F⟩ := C.says.def_ 25 (d := d_unlike) rfl
  obtain ⟨fd_joined_of, F_joined_of, G_joined_of⟩ := ok_joined_of (P := P) (w := w) (base := base) C
  obtain ⟨fd_without_of, F_without_of, G_without_of⟩ := ok_without_of (P := P) (w := w) (base := base) C
  exact ⟨fd, F, fnG_of F sc_unlike fun cdv A outer s H hr hg => (b_one (s_ret (j_call (ps := P_joined_of) (ks := []) G_joined_of F_joined_of.kp (g_joined_of C) (bg_joined_of_2 F_joined_of) (fun _ => .nil) (a_cons (j_fz (j_call (ps := P_without_of) (ks := []) G_without_of F_without_of.kp (g_without_of C) (bg_without_of_2 F_without_of) (fun _ => .nil) (a_cons (j_var 0) (a_cons (j_var 1) a_nil)) k_nil (l_cons (l_cons l_nil)) l_nil (Nat.le_of_ble_eq_true rfl))) (a_cons (j_fz (j_call (ps := P_without_of) (ks := []) G_without_of F_without_of.kp (g_without_of C) (bg_without_of_2 F_without_of) (fun _ => .nil) (a_cons (j_var 1) (a_cons (j_var 0) a_nil)) k_nil (l_cons (l_cons l_nil)) l_nil (Nat.le_of_ble_eq_true rfl))) a_nil)) k_nil (l_cons (l_cons l_nil)) l_nil (Nat.le_of_ble_eq_true rfl))))⟩
def lc__law_version_1 : MO := (mLc (mR1 (mCons (mC (.int 4)) mNil)) (mN 8) mYes (mFz (mLend 0 mf__law_number [] [] mNil mNil)) [8])
def mb__law_version_2 : MS := (mAsg (mIf (mTest (mBin gGt (mFz (mLend 0 mf__law_draw [0] [] (mCons (mC (.int 4)) mNil) mNil)) (mC (.int 0)))) (mBin gIx (mVar 7) (mC (.int 0))) (mVar 3)) (mN 3))
def mb__law_version_3 : MS := (mAsg (mIf (mTest (mBin gGt (mFz (mLend 0 mf__law_draw [0] [] (mCons (mC (.int 3)) mNil) mNil)) (mC (.int 0)))) (mBin gIx (mVar 7) (mC (.int 1))) (mVar 4)) (mN 4))
def mb__law_version_4 : MS := (mAsg (mIf (mTest (mBin gGt (mFz (mLend 0 mf__law_draw [0] [] (mCons (mC (.int 2)) mNil) mNil)) (mC (.int 0)))) (mBin gIx (mVar 7) (mC (.int 2))) (mVar 5)) (mN 5))
def mb__law_version_5 : MS := (mAsg (mIf (mTest (mBin gGt (mFz (mLend 0 mf__law_draw [0] [] (mCons (mC (.int 2)) mNil) mNil)) (mC (.int 0)))) (mBin gIx (mVar 7) (mC (.int 4))) (mVar 6)) (mN 6))
def mb__law_version_6 : MS := (mIf (mTAnd (mTest (mBin gNe (mVar 1) (mFz (mLst mNil)))) (mTest (mBin gGt (mFz (mLend 0 mf__law_draw [0] [] (mCons (mC (.int 3)) mNil) mNil)) (mC (.int 0))))) (mSeq (mAsg (mFz (mLend 0 mf__law_pick [0] [] (mCons (mVar 1) mNil) mNil)) (mN 7)) (mSeq mb__law_version_2 (mSeq mb__law_version_3 (mSeq mb__law_version_4 mb__law_version_5)))) mNx)
def mb__law_version_7 : MS := (mRet (mVal (mTup (mCons (mVar 3) (mCons (mVar 4) (mCons (mVar 5) (mCons (mVar 2) (mCons (mIf (mTest (mBin gEq (mVar 2) (mC (.int 3)))) (mC (.int 0)) (mVar 6)) mNil))))))))
def mb__law_version : MS := (mSeq (mAsg (mFz (mLend 0 mf__law_pick [0] [] (mCons (mFz (mLst (mCons (mC (.int 3)) (mCons (mC (.int 3)) (mCons (mC (.int 3)) (mCons (mC (.int 0)) (mCons (mC (.int 1)) (mCons (mC (.int 2)) mNil)))))))) mNil) mNil)) (mN 2)) (mSeq (mAsg (mFz lc__law_version_1) (mTupG 4 (mN1 (mN 3) (mN1 (mN 4) (mN1 (mN 5) (mN1 (mN 6) mN0)))))) (mSeq mb__law_version_6 mb__law_version_7)))
def mf__law_version : MF := mFn 9 mb__law_version
theorem ok__law_version (C : Cc K mg) : ∃ fd, FnP K "_law_version" s__law_version (He.ga K "_law_version") fd ∧ FnG P w K mg base 4 (He.ga K "_law_version") fd P__law_version mf__law_version := by
  obtain ⟨fd, F⟩ := C.says.def_ 26 (d := d__law_version) rfl
  obtain ⟨fd__law_draw, F__law_draw, G__law_draw⟩ := ok__law_draw (P := P) (w := w) (base := base) C
  obtain ⟨fd__law_number, F__law_number, G__law_number⟩ := ok__law_number (P := P) (w := w) (base := base) C
  obtain ⟨fd__law_pick, F__law_pick, G__law_pick⟩ := ok__law_pick (P := P) (w := w) (base := base) C
  exact ⟨fd, F, fnG_of F sc__law_version fun cdv A outer s H hr hg => (b_cons (s_asg (j_fz (j_lend 0 (ps := P__law_pick) (ks := []) G__law_pick F__law_pick.kp (g__law_pick C) (bg__law_pick_2 F__law_pick) (fun _ => .nil) (a_cons (j_fz (j_lst (a_cons j_int (a_cons j_int (a_cons j_int (a_cons j_int (a_cons j_int (a_cons j_int a_nil)))))))) a_nil) k_nil (l_cons l_nil) l_nil (Nat.le_of_ble_eq_true rfl))) (g_name 2 (hN := by exact fun _ => sc__law_version.nd))) (b_cons (s_asg (j_fz (j_lc [("turn", 8)] (i_range1 (a_cons j_int a_nil) (g_range C)) (g_name 8 (hN := by exact fun _ => sc__law_version.nd)) ts_nil (j_fz (j_lend 0 (ps := P__law_number) (ks := []) (by exact G__law_number) (by exact F__law_number.kp) (by exact (g__law_number C)) (by exact bg__law_number_1 F__law_number) (fun _ => .nil) a_nil k_nil l_nil l_nil (Nat.le_of_ble_eq_true rfl))) (fun _ => blkOk_by (N := N__law_version) (sc := defScope s__law_version) (by decide +kernel)) (hN := by exact fun _ => sc__law_version.nd))) (g_tup (gs_cons (g_name 3 (hN := by exact fun _ => sc__law_version.nd)) (gs_cons (g_name 4 (hN := by exact fun _ => sc__law_version.nd)) (gs_cons (g_name 5 (hN := by exact fun _ => sc__law_version.nd)) (gs_cons (g_name 6 (hN := by exact fun _ => sc__law_version.nd)) gs_nil)))))) (b_cons (s_if ((w_and (t_cmp o_ne (j_var 1) (j_fz (j_lst a_nil))) (w_and1 (t_cmp o_gt (j_fz (j_lend 0 (ps := P__law_draw) (ks := []) G__law_draw F__law_draw.kp (g__law_draw C) (bg__law_draw_2 F__law_draw) (fun _ => .nil) (a_cons j_int a_nil) k_nil (l_cons l_nil) l_nil (Nat.le_of_ble_eq_true rfl))) j_int)))).jt (b_cons (s_asg (j_fz (j_lend 0 (ps := P__law_pick) (ks := []) G__law_pick F__law_pick.kp (g__law_pick C) (bg__law_pick_2 F__law_pick) (fun _ => .nil) (a_cons (j_var 1) a_nil) k_nil (l_cons l_nil) l_nil (Nat.le_of_ble_eq_true rfl))) (g_name 7 (hN := by exact fun _ => sc__law_version.nd))) (b_cons (s_asg (j_if (t_cmp o_gt (j_fz (j_lend 0 (ps := P__law_draw) (ks := []) G__law_draw F__law_draw.kp (g__law_draw C) (bg__law_draw_2 F__law_draw) (fun _ => .nil) (a_cons j_int a_nil) k_nil (l_cons l_nil) l_nil (Nat.le_of_ble_eq_true rfl))) j_int) (j_ix (j_var 7) j_int) (j_var 3)) (g_name 3 (hN := by exact fun _ => sc__law_version.nd))) (b_cons (s_asg (j_if (t_cmp o_gt (j_fz (j_lend 0 (ps := P__law_draw) (ks := []) G__law_draw F__law_draw.kp (g__law_draw C) (bg__law_draw_2 F__law_draw) (fun _ => .nil) (a_cons j_int a_nil) k_nil (l_cons l_nil) l_nil (Nat.le_of_ble_eq_true rfl))) j_int) (j_ix (j_var 7) j_int) (j_var 4)) (g_name 4 (hN := by exact fun _ => sc__law_version.nd))) (b_cons (s_asg (j_if (t_cmp o_gt (j_fz (j_lend 0 (ps := P__law_draw) (ks := []) G__law_draw F__law_draw.kp (g__law_draw C) (bg__law_draw_2 F__law_draw) (fun _ => .nil) (a_cons j_int a_nil) k_nil (l_cons l_nil) l_nil (Nat.le_of_ble_eq_true rfl))) j_int) (j_ix (j_var 7) j_int) (j_var 5)) (g_name 5 (hN := by exact fun _ => sc__law_version.nd))) (b_one (s_asg (j_if (t_cmp o_gt (j_fz (j_lend 0 (ps := P__law_draw) (ks := []) G__law_draw F__law_draw.kp (g__law_draw C) (bg__law_draw_2 F__law_draw) (fun _ => .nil) (a_cons j_int a_nil) k_nil (l_cons l_nil) l_nil (Nat.le_of_ble_eq_true rfl))) j_int) (j_ix (j_var 7) j_int) (j_var 6)) (g_name 6 (hN := by exact fun _ => sc__law_version.nd)))))))) b_nil) (b_one (s_ret (j_val (j_tup (a_cons (j_var 3) (a_cons (j_var 4) (a_cons (j_var 5) (a_cons (j_var 2) (a_cons (j_if (t_cmp o_eq (j_var 2) j_int) j_int (j_var 6)) a_nil))))))))))))⟩
def mb_need_range_1 : MS := (mIf (mTNot (mTest (mFz (mCall mf_is_range_value [0] [] (mCons (mVar 0) mNil) mNil)))) mBad mNx)
def mb_need_range : MS := mb_need_range_1
def mf_need_range : MF := mFn 1 mb_need_range
theorem ok_need_range (C : Cc K mg) : ∃ fd, FnP K "need_range" s_need_range (He.ga K "need_range") fd ∧ FnG P w K mg base 5 (He.ga K "need_range") fd P_need_range mf_need_range := by
  obtain ⟨fd, F⟩ := C.says.def_ 27 (d := d_need_range) rfl
  obtain ⟨fd_is_range_value, F_is_range_value, G_is_range_value⟩ := ok_is_range_value (P := P) (w := w) (base := base) C
  exact ⟨fd, F, fnG_of F sc_need_range fun cdv A outer s H hr hg => (b_one (s_if (t_not (t_val (j_fz (j_call (ps := P_is_range_value) (ks := []) G_is_range_value F_is_range_value.kp (g_is_range_value C) (bg_is_range_value_1 F_is_range_value) (fun _ => .nil) (a_cons (j_var 0) a_nil) k_nil (l_cons l_nil) l_nil (Nat.le_of_ble_eq_true rfl))))) (b_one s_never) b_nil))⟩
def mb__law_versions_1 : MS := (mIf (mBorT (mTAnd (mTest (mBin gNe (mVar 2) (mFz (mLst mNil)))) (mTest (mBin gEq (mFz (mLend 0 mf__law_draw [0] [] (mCons (mC (.int 4)) mNil) mNil)) (mC (.int 0)))))) (mAsg (mFz (mBor (mVal (mFz (mCall mf__law_next [0] [] (mCons (mFz (mLend 0 mf__law_pick [0] [] (mCons (mVar 2) mNil) mNil)) mNil) mNil))))) (mN 4)) mNx)
def mb__law_versions_2 : MS := (mFor (mR1 (mCons (mVar 1) mNil)) (mN 3) (mSeq (mAsg (mFz (mBor (mVal (mFz (mLend 0 mf__law_version [0] [] (mCons (mVar 2) mNil) mNil))))) (mN 4)) (mSeq mb__law_versions_1 (mDrop (mApp 2 (mVar 4))))))
def mb__law_versions : MS := (mSeq (mOwn (mLst mNil) 2) (mSeq mb__law_versions_2 (mRet (mMove 2))))
def mf__law_versions : MF := mFn 5 mb__law_versions
theorem ok__law_versions (C : Cc K mg) : ∃ fd, FnP K "_law_versions" s__law_versions (He.ga K "_law_versions") fd ∧ FnG P w K mg base 5 (He.ga K "_law_versions") fd P__law_versions mf__law_versions := by
  obtain ⟨fd, F⟩ := C.says.def_ 28 (d := d__law_versions) rfl
  obtain ⟨fd__law_draw, F__law_draw, G__law_draw⟩ := ok__law_draw (P := P) (w := w) (base := base) C
  obtain ⟨fd__law_next, F__law_next, G__law_next⟩ := ok__law_next (P := P) (w := w) (base := base) C
  obtain ⟨fd__law_pick, F__law_pick, G__law_pick⟩ := ok__law_pick (P := P) (w := w) (base := base) C
  obtain ⟨fd__law_version, F__law_version, G__law_version⟩ := ok__law_version (P := P) (w := w) (base := base) C
  exact ⟨fd, F, fnG_of F sc__law_versions fun cdv A outer s H hr hg => (b_cons (s_own 2 (j_lst a_nil) (hN := by exact fun _ => sc__law_versions.nd)) (b_cons (s_for (i_range1 (a_cons (j_var 1) a_nil) (g_range C)) (g_name 3 (hN := by exact fun _ => sc__law_versions.nd)) (b_cons (s_asg (j_borV (j_fz (j_lend 0 (ps := P__law_version) (ks := []) G__law_version F__law_version.kp (g__law_version C) (bg__law_version_2 F__law_version) (fun _ => .nil) (a_cons (j_var 2) a_nil) k_nil (l_cons l_nil) l_nil (Nat.le_of_ble_eq_true rfl)))) (g_name 4 (hN := by exact fun _ => sc__law_versions.nd))) (b_cons (s_if (t_bor ((w_and (t_cmp o_ne (j_var 2) (j_fz (j_lst a_nil))) (w_and1 (t_cmp o_eq (j_fz (j_lend 0 (ps := P__law_draw) (ks := []) G__law_draw F__law_draw.kp (g__law_draw C) (bg__law_draw_2 F__law_draw) (fun _ => .nil) (a_cons j_int a_nil) k_nil (l_cons l_nil) l_nil (Nat.le_of_ble_eq_true rfl))) j_int)))).jt) (b_one (s_asg (j_borV (j_fz (j_call (ps := P__law_next) (ks := []) G__law_next F__law_next.kp (g__law_next C) (bg__law_next_1 F__law_next) (fun _ => .nil) (a_cons (j_fz (j_lend 0 (ps := P__law_pick) (ks := []) G__law_pick F__law_pick.kp (g__law_pick C) (bg__law_pick_2 F__law_pick) (fun _ => .nil) (a_cons (j_var 2) a_nil) k_nil (l_cons l_nil) l_nil (Nat.le_of_ble_eq_true rfl))) a_nil) k_nil (l_cons l_nil) l_nil (Nat.le_of_ble_eq_true rfl)))) (g_name 4 (hN := by exact fun _ => sc__law_versions.nd)))) b_nil) (b_one (s_expr (j_app 2 (j_var 4))))))) (b_one (s_ret (j_move 2)))))⟩
def lc__law_range_1 : MO := (mLc (mR1 (mCons (mBin gAdd (mC (.int 1)) (mFz (mLend 0 mf__law_draw [0] [] (mCons (mBin gMul (mC (.int 2)) (mVar 2)) mNil) mNil))) mNil)) (mN 7) mYes (mIf (mTAnd (mTest (mBin gNe (mVar 1) (mFz (mLst mNil)))) (mTest (mBin gEq (mFz (mLend 0 mf__law_draw [0] [] (mCons (mC (.int 2)) mNil) mNil)) (mC (.int 0))))) (mFz (mLend 0 mf__law_pick [0] [] (mCons (mVar 1) mNil) mNil)) (mFz (mLend 0 mf__law_version [0] [] (mCons (mVar 1) mNil) mNil))) [7])
def mb__law_range_2 : MS := (mAsg (mFz (mSS (mFz lc__law_range_1))) (mN 3))
def mb__law_range_3 : MS := (mIf (mTest (mBin gEq (mFz (mLend 0 mf__law_draw [0] [] (mCons (mC (.int 4)) mNil) mNil)) (mC (.int 0)))) (mAsg (mFz (mSS (mBin gAdd (mFz (mLst (mCons (mTup (mCons (mC (.int 0)) (mCons (mC (.int 0)) (mCons (mC (.int 0)) (mCons (mC (.int 0)) (mCons (mC (.int 0)) mNil)))))) mNil))) (mVar 3)))) (mN 3)) mNx)
def mb__law_range_4 : MS := (mIf (mTest (mBin gEq (mFz (mLend 0 mf__law_draw [0] [] (mCons (mC (.int 12)) mNil) mNil)) (mC (.int 0)))) (mRet (mLend 0 mf__law_pick [0] [] (mCons (mFz (mLst (mCons (mTup mNil) (mCons (mTup (mCons (mTup (mCons (mTup (mCons (mC (.int 0)) (mCons (mC (.int 0)) (mCons (mC (.int 0)) (mCons (mC (.int 0)) (mCons (mC (.int 0)) mNil)))))) (mCons (mC .none) mNil))) mNil)) mNil)))) mNil) mNil)) mNx)
def mb__law_range_5 : MS := (mAsg (mIf (mTest (mBin gGt (mFz (mLend 0 mf__law_draw [0] [] (mCons (mC (.int 3)) mNil) mNil)) (mC (.int 0)))) (mBin gMul (mC (.int 2)) (mVar 2)) (mBin gSub (mBin gMul (mC (.int 2)) (mVar 2)) (mC (.int 1)))) (mN 4))
def lc__law_range_6 : MO := (mLc (mR3 (mCons (mC (.int 0)) (mCons (mBin gSub (mFz (mCB gLen (mCons (mVar 3) mNil))) (mC (.int 1))) (mCons (mC (.int 2)) mNil)))) (mN 6) mYes (mTup (mCons (mBin gIx (mVar 3) (mVar 6)) (mCons (mBin gIx (mVar 3) (mBin gAdd (mVar 6) (mC (.int 1)))) mNil))) [6])
def mb__law_range_7 : MS := (mIf (mTest (mBin gEq (mBin gMod (mFz (mCB gInt (mCons (mFz (mCB gLen (mCons (mVar 3) mNil))) mNil))) (mC (.int 2))) (mC (.int 1)))) (mDrop (mApp 5 (mTup (mCons (mBin gIx (mVar 3) (mNeg (mC (.int 1)))) (mCons (mC .none) mNil))))) mNx)
def mb__law_range : MS := (mSeq mb__law_range_2 (mSeq mb__law_range_3 (mSeq mb__law_range_4 (mSeq mb__law_range_5 (mSeq (mAsg (mFz (mSl (mVar 3) mP0 (mP1 (mVar 4)))) (mN 3)) (mSeq (mOwn lc__law_range_6 5) (mSeq mb__law_range_7 (mFrz 5 (mRet (mCB gTuple (mCons (mVar 5) mNil)))))))))))
def mf__law_range : MF := mFn 8 mb__law_range
theorem ok__law_range (C : Cc K mg) : ∃ fd, FnP K "_law_range" s__law_range (He.ga K "_law_range") fd ∧ FnG P w K mg base 5 (He.ga K "_law_range") fd P__law_range mf__law_range := by
  obtain ⟨fd, F⟩ := C.says.def_ 29 (d := d__law_range) rfl
  obtain ⟨fd__law_draw, F__law_draw, G__law_draw⟩ := ok__law_draw (P := P) (w := w) (base := base) C
  obtain ⟨fd__law_pick, F__law_pick, G__law_pick⟩ := ok__law_pick (P := P) (w := w) (base := base) C
  obtain ⟨fd__law_version, F__law_version, G__law_version⟩ := ok__law_version (P := P) (w := w) (base := base) C
  exact ⟨fd, F, fnG_of F sc__law_range fun cdv A outer s H hr hg => (b_cons (s_asg (j_fz (j_sortSet (j_fz (j_lc [("turn", 7)] (i_range1 (a_cons (j_bin o_add j_int (j_fz (j_lend 0 (ps := P__law_draw) (ks := []) G__law_draw F__law_draw.kp (g__law_draw C) (bg__law_draw_2 F__law_draw) (fun _ => .nil) (a_cons (j_bin o_mul j_int (j_var 2)) a_nil) k_nil (l_cons l_nil) l_nil (Nat.le_of_ble_eq_true rfl)))) a_nil) (g_range C)) (g_name 7 (hN := by exact fun _ => sc__law_range.nd)) ts_nil (j_if ((w_and (t_cmp o_ne (j_var 1) (j_fz (j_lst a_nil))) (w_and1 (t_cmp o_eq (j_fz (j_lend 0 (ps := P__law_draw) (ks := []) (by exact G__law_draw) (by exact F__law_draw.kp) (by exact (g__law_draw C)) (by exact bg__law_draw_2 F__law_draw) (fun _ => .nil) (a_cons j_int a_nil) k_nil (l_cons l_nil) l_nil (Nat.le_of_ble_eq_true rfl))) j_int)))).jt (j_fz (j_lend 0 (ps := P__law_pick) (ks := []) (by exact G__law_pick) (by exact F__law_pick.kp) (by exact (g__law_pick C)) (by exact bg__law_pick_2 F__law_pick) (fun _ => .nil) (a_cons (j_var 1) a_nil) k_nil (l_cons l_nil) l_nil (Nat.le_of_ble_eq_true rfl))) (j_fz (j_lend 0 (ps := P__law_version) (ks := []) (by exact G__law_version) (by exact F__law_version.kp) (by exact (g__law_version C)) (by exact bg__law_version_2 F__law_version) (fun _ => .nil) (a_cons (j_var 1) a_nil) k_nil (l_cons l_nil) l_nil (Nat.le_of_ble_eq_true rfl)))) (fun _ => blkOk_by (N := N__law_range) (sc := defScope s__law_range) (by decide +kernel)) (hN := by exact fun _ => sc__law_range.nd))) (g_sorted C) (g_set C))) (g_name 3 (hN := by exact fun _ => sc__law_range.nd))) (b_cons (s_if (t_cmp o_eq (j_fz (j_lend 0 (ps := P__law_draw) (ks := []) G__law_draw F__law_draw.kp (g__law_draw C) (bg__law_draw_2 F__law_draw) (fun _ => .nil) (a_cons j_int a_nil) k_nil (l_cons l_nil) l_nil (Nat.le_of_ble_eq_true rfl))) j_int) (b_one (s_asg (j_fz (j_sortSet (j_bin o_add (j_fz (j_lst (a_cons (j_tup (a_cons j_int (a_cons j_int (a_cons j_int (a_cons j_int (a_cons j_int a_nil)))))) a_nil))) (j_var 3)) (g_sorted C) (g_set C))) (g_name 3 (hN := by exact fun _ => sc__law_range.nd)))) b_nil) (b_cons (s_if (t_cmp o_eq (j_fz (j_lend 0 (ps := P__law_draw) (ks := []) G__law_draw F__law_draw.kp (g__law_draw C) (bg__law_draw_2 F__law_draw) (fun _ => .nil) (a_cons j_int a_nil) k_nil (l_cons l_nil) l_nil (Nat.le_of_ble_eq_true rfl))) j_int) (b_one (s_ret (j_lend 0 (ps := P__law_pick) (ks := []) G__law_pick F__law_pick.kp (g__law_pick C) (bg__law_pick_2 F__law_pick) (fun _ => .nil) (a_cons (j_fz (j_lst (a_cons (j_tup a_nil) (a_cons (j_tup (a_cons (j_tup (a_cons (j_tup (a_cons j_int (a_cons j_int (a_cons j_int (a_cons j_int (a_cons j_int a_nil)))))) (a_cons j_none a_nil))) a_nil)) a_nil)))) a_nil) k_nil (l_cons l_nil) l_nil (Nat.le_of_ble_eq_true rfl)))) b_nil) (b_cons (s_asg (j_if (t_cmp o_gt (j_fz (j_lend 0 (ps := P__law_draw) (ks := []) G__law_draw F__law_draw.kp (g__law_draw C) (bg__law_draw_2 F__law_draw) (fun _ => .nil) (a_cons j_int a_nil) k_nil (l_cons l_nil) l_nil (Nat.le_of_ble_eq_true rfl))) j_int) (j_bin o_mul j_int (j_var 2)) (j_bin o_sub (j_bin o_mul j_int (j_var 2)) j_int)) (g_name 4 (hN := by exact fun _ => sc__law_range.nd))) (b_cons (s_asg (j_fz (j_sl (j_var 3) p_none (p_some (j_var 4)))) (g_name 3 (hN := by exact fun _ => sc__law_range.nd))) (b_cons (s_lcO 5 [("at", 6)] (i_range3 (a_cons j_int (a_cons (j_bin o_sub (j_fz (j_callB c_len (g_len C) (a_cons (j_var 3) a_nil))) j_int) (a_cons j_int a_nil))) (g_range C)) (g_name 6 (hN := by exact fun _ => sc__law_range.nd)) ts_nil (j_tup (a_cons (j_ix (j_var 3) (j_var 6)) (a_cons (j_ix (j_var 3) (j_bin o_add (j_var 6) j_int)) a_nil))) (fun _ => blkOk_by (N := N__law_range) (sc := defScope s__law_range) (by decide +kernel)) (hN := by exact fun _ => sc__law_range.nd)) (b_cons (s_if (t_cmp o_eq (j_bin o_mod (j_fz (j_callT c_int (g_int C) (a_cons (j_fz (j_callB c_len (g_len C) (a_cons (j_var 3) a_nil))) a_nil))) j_int) j_int) (b_one (s_expr (j_app 5 (j_tup (a_cons (j_ix (j_var 3) (j_neg j_int)) (a_cons j_none a_nil)))))) b_nil) (b_frz 5 (b_one (s_ret (j_callT c_tuple (g_tuple C) (a_cons (j_var 5) a_nil))))))))))))⟩
def mb__law_pool_1 : MS := (mIf (mTAnd (mTest (mBin gGt (mBin gIx (mVar 4) (mC (.int 2))) (mC (.int 0)))) (mTest (mBin gEq (mBin gIx (mVar 4) (mC (.int 3))) (mC (.int 0))))) (mDrop (mApp 3 (mBin gAdd (mFz (mSl (mVar 4) mP0 (mP1 (mC (.int 2))))) (mTup (mCons (mBin gSub (mBin gIx (mVar 4) (mC (.int 2))) (mC (.int 1))) (mCons (mC (.int 3)) (mCons (mC (.int 0)) mNil))))))) mNx)
def mb__law_pool_2 : MS := (mIf (mTest (mBin gGt (mBin gIx (mVar 4) (mC (.int 4))) (mC (.int 0)))) (mDrop (mApp 3 (mBin gAdd (mFz (mSl (mVar 4) mP0 (mP1 (mC (.int 4))))) (mTup (mCons (mBin gSub (mBin gIx (mVar 4) (mC (.int 4))) (mC (.int 1))) mNil))))) mb__law_pool_1)
def mb__law_pool_3 : MS := (mFor (mIt (mFz (mCall mf__law_borders [0] [] (mCons (mVar 1) mNil) mNil))) (mN 4) (mSeq (mDrop (mExt 3 (mFz (mLst (mCons (mVar 4) (mCons (mFz (mCall mf__law_next [0] [] (mCons (mVar 4) mNil) mNil)) (mCons (mFz (mCall mf__law_next [0] [] (mCons (mFz (mCall mf__law_next [0] [] (mCons (mVar 4) mNil) mNil)) mNil) mNil)) (mCons (mBin gAdd (mFz (mSl (mVar 4) mP0 (mP1 (mC (.int 3))))) (mTup (mCons (mC (.int 3)) (mCons (mC (.int 0)) mNil)))) mNil)))))))) mb__law_pool_2))
def lc__law_pool_4 : MO := (mLc (mR1 (mCons (mC (.int 4)) mNil)) (mN 5) mYes (mFz (mLend 0 mf__law_version [0] [] (mCons (mVar 3) mNil) mNil)) [5])
def mb__law_pool : MS := (mSeq (mOwn (mCB gList (mCons (mVar 2) mNil)) 3) (mSeq mb__law_pool_3 (mFrz 3 (mRet (mVal (mBin gAdd (mVar 3) (mFz lc__law_pool_4)))))))
def mf__law_pool : MF := mFn 6 mb__law_pool
theorem ok__law_pool (C : Cc K mg) : ∃ fd, FnP K "_law_pool" s__law_pool (He.ga K "_law_pool") fd ∧ FnG P w K mg base 5 (He.ga K "_law_pool") fd P__law_pool mf__law_pool := by
  obtain ⟨fd, F⟩ := C.says.def_ 30 (d := d__law_pool) rfl
  obtain ⟨fd__law_borders, F__law_borders, G__law_borders⟩ := ok__law_borders (P := P) (w := w) (base := base) C
  obtain ⟨fd__law_next, F__law_next, G__law_next⟩ := ok__law_next (P := P) (w := w) (base := base) C
  obtain ⟨fd__law_version, F__law_version, G__law_version⟩ := ok__law_version (P := P) (w := w) (base := base) C
  exact ⟨fd, F, fnG_of F sc__law_pool fun cdv A outer s H hr hg => (b_cons (s_own 3 (j_callT c_list (g_list C) (a_cons (j_var 2) a_nil)) (hN := by exact fun _ => sc__law_pool.nd)) (b_cons (s_for (i_any (j_fz (j_call (ps := P__law_borders) (ks := []) G__law_borders F__law_borders.kp (g__law_borders C) (bg__law_borders_1 F__law_borders) (fun _ => .nil) (a_cons (j_var 1) a_nil) k_nil (l_cons l_nil) l_nil (Nat.le_of_ble_eq_true rfl)))) (g_name 4 (hN := by exact fun _ => sc__law_pool.nd)) (b_cons (s_expr (j_ext 3 (j_fz (j_lst (a_cons (j_var 4) (a_cons (j_fz (j_call (ps := P__law_next) (ks := []) G__law_next F__law_next.kp (g__law_next C) (bg__law_next_1 F__law_next) (fun _ => .nil) (a_cons (j_var 4) a_nil) k_nil (l_cons l_nil) l_nil (Nat.le_of_ble_eq_true rfl))) (a_cons (j_fz (j_call (ps := P__law_next) (ks := []) G__law_next F__law_next.kp (g__law_next C) (bg__law_next_1 F__law_next) (fun _ => .nil) (a_cons (j_fz (j_call (ps := P__law_next) (ks := []) G__law_next F__law_next.kp (g__law_next C) (bg__law_next_1 F__law_next) (fun _ => .nil) (a_cons (j_var 4) a_nil) k_nil (l_cons l_nil) l_nil (Nat.le_of_ble_eq_true rfl))) a_nil) k_nil (l_cons l_nil) l_nil (Nat.le_of_ble_eq_true rfl))) (a_cons (j_bin o_add (j_fz (j_sl (j_var 4) p_none (p_some j_int))) (j_tup (a_cons j_int (a_cons j_int a_nil)))) a_nil)))))))) (b_one (s_if (t_cmp o_gt (j_ix (j_var 4) j_int) j_int) (b_one (s_expr (j_app 3 (j_bin o_add (j_fz (j_sl (j_var 4) p_none (p_some j_int))) (j_tup (a_cons (j_bin o_sub (j_ix (j_var 4) j_int) j_int) a_nil)))))) (b_one (s_if ((w_and (t_cmp o_gt (j_ix (j_var 4) j_int) j_int) (w_and1 (t_cmp o_eq (j_ix (j_var 4) j_int) j_int)))).jt (b_one (s_expr (j_app 3 (j_bin o_add (j_fz (j_sl (j_var 4) p_none (p_some j_int))) (j_tup (a_cons (j_bin o_sub (j_ix (j_var 4) j_int) j_int) (a_cons j_int (a_cons j_int a_nil)))))))) b_nil)))))) (b_frz 3 (b_one (s_ret (j_val (j_bin o_add (j_var 3) (j_fz (j_lc [("turn", 5)] (i_range1 (a_cons j_int a_nil) (g_range C)) (g_name 5 (hN := by exact fun _ => sc__law_pool.nd)) ts_nil (j_fz (j_lend 0 (ps := P__law_version) (ks := []) (by exact G__law_version) (by exact F__law_version.kp) (by exact (g__law_version C)) (by exact bg__law_version_2 F__law_version) (fun _ => .nil) (a_cons (j_var 3) a_nil) k_nil (l_cons l_nil) l_nil (Nat.le_of_ble_eq_true rfl))) (fun _ => blkOk_by (N := N__law_pool) (sc := defScope s__law_pool) (by decide +kernel)) (hN := by exact fun _ => sc__law_pool.nd))))))))))⟩
def mb_need_two : MS := (mSeq (mDrop (mCall mf_need_range [0] [] (mCons (mVar 0) mNil) mNil)) (mDrop (mCall mf_need_range [0] [] (mCons (mVar 1) mNil) mNil)))
def mf_need_two : MF := mFn 2 mb_need_two
theorem ok_need_two (C : Cc K mg) : ∃ fd, FnP K "need_two" s_need_two (He.ga K "need_two") fd ∧ FnG P w K mg base 6 (He.ga K "need_two") fd P_need_two mf_need_two := by
  obtain ⟨fd, F⟩ := C.says.def_ 31 (d := d_need_two) rfl
  obtain ⟨fd_need_range, F_need_range, G_need_range⟩ := ok_need_range (P := P) (w := w) (base := base) C
  exact ⟨fd, F, fnG_of F sc_need_two fun cdv A outer s H hr hg => (b_cons (s_expr (j_call (ps := P_need_range) (ks := []) G_need_range F_need_range.kp (g_need_range C) (bg_need_range_1 F_need_range) (fun _ => .nil) (a_cons (j_var 0) a_nil) k_nil (l_cons l_nil) l_nil (Nat.le_of_ble_eq_true rfl))) (b_one (s_expr (j_call (ps := P_need_range) (ks := []) G_need_range F_need_range.kp (g_need_range C) (bg_need_range_1 F_need_range) (fun _ => .nil) (a_cons (j_var 1) a_nil) k_nil (l_cons l_nil) l_nil (Nat.le_of_ble_eq_true rfl)))))⟩
def lc__law_span_pairs_1 : MO := (mLc (mR1 (mCons (mC (.int 3)) mNil)) (mN 11) mYes (mFz (mLend 0 mf__law_range [0, 1] [] (mCons (mVar 1) (mCons (mC (.int 6)) mNil)) mNil)) [11])
def mb__law_span_pairs : MS := (mSeq (mAsg (mFz lc__law_span_pairs_1) (mTupG 3 (mN1 (mN 4) (mN1 (mN 5) (mN1 (mN 6) mN0))))) (mSeq (mPar [7, 8] (mE1 (mVal (mTup (mCons (mTup (mCons (mTup (mCons (mC (.int 0)) (mCons (mC (.int 0)) (mCons (mC (.int 0)) (mCons (mC (.int 0)) (mCons (mC (.int 0)) mNil)))))) (mCons (mC .none) mNil))) mNil))) (mE1 (mVal (mFz (mLend 0 mf__law_pick [0] [] (mCons (mVar 1) mNil) mNil))) mE0))) (mSeq (mAsg (mTup (mCons (mTup (mCons (mVar 8) (mCons (mFz (mCall mf__law_next [0] [] (mCons (mVar 8) mNil) mNil)) mNil))) mNil)) (mN 2)) (mSeq (mPar [9, 10] (mE1 (mVal (mFz (mCall mf__law_without [0, 1] [] (mCons (mVar 4) (mCons (mVar 2) mNil)) mNil))) (mE1 (mVal (mFz (mCall mf__law_joined [0, 1] [] (mCons (mVar 4) (mCons (mVar 2) mNil)) mNil))) mE0))) (mSeq (mAsg (mFz (mLst (mCons (mTup (mCons (mVar 4) (mCons (mVar 5) mNil))) (mCons (mTup (mCons (mVar 9) (mCons (mVar 4) mNil))) (mCons (mTup (mCons (mVar 4) (mCons (mVar 9) mNil))) (mCons (mTup (mCons (mVar 4) (mCons (mVar 10) mNil))) (mCons (mTup (mCons (mVar 10) (mCons (mVar 4) mNil))) (mCons (mTup (mCons (mFz (mCall mf__law_cut [0, 1] [] (mCons (mVar 4) (mCons (mVar 6) mNil)) mNil)) (mCons (mVar 4) mNil))) (mCons (mTup (mCons (mVar 4) (mCons (mVar 4) mNil))) mNil))))))))) (mN 3)) (mRet (mVal (mBin gAdd (mFz (mSl (mVar 3) mP0 (mP1 (mC (.int 2))))) (mFz (mSl (mFz (mLend 0 mf__law_mixed [0] [] (mCons (mBin gAdd (mFz (mSl (mVar 3) (mP1 (mC (.int 2))) mP0)) (mFz (mLst (mCons (mTup (mCons (mVar 4) (mCons (mVar 7) mNil))) (mCons (mTup (mCons (mVar 7) (mCons (mVar 4) mNil))) (mCons (mTup (mCons (mTup mNil) (mCons (mVar 4) mNil))) (mCons (mTup (mCons (mVar 4) (mCons (mTup mNil) mNil))) (mCons (mTup (mCons (mVar 6) (mCons (mVar 5) mNil))) mNil)))))))) mNil) mNil)) mP0 (mP1 (mC (.int 4)))))))))))))
def mf__law_span_pairs : MF := mFn 12 mb__law_span_pairs
theorem ok__law_span_pairs (C : Cc K mg) : ∃ fd, FnP K "_law_span_pairs" s__law_span_pairs (He.ga K "_law_span_pairs") fd ∧ FnG P w K mg base 6 (He.ga K "_law_span_pairs") fd P__law_span_pairs mf__law_span_pairs := by
  obtain ⟨fd, F⟩ := C.says.def_ 32 (d := d__law_span_pairs) rfl
  obtain ⟨fd__law_cut, F__law_cut, G__law_cut⟩ := ok__law_cut (P := P) (w := w) (base := base) C
  obtain ⟨fd__law_joined, F__law_joined, G__law_joined⟩ := ok__law_joined (P := P) (w := w) (base := base) C
  obtain ⟨fd__law_mixed, F__law_mixed, G__law_mixed⟩ := ok__law_mixed (P := P) (w := w) (base := base) C
  obtain ⟨fd__law_next, F__law_next, G__law_next⟩ := ok__law_next (P := P) (w := w) (base := base) C
  obtain ⟨fd__law_pick, F__law_pick, G__law_pick⟩ := ok__law_pick (P := P) (w := w) (base := base) C
  obtain ⟨fd__law_range, F__law_range, G__law_range⟩ := ok__law_range (P := P) (w := w) (base := base) C
  obtain ⟨fd__law_without, F__law_without, G__law_without⟩ := ok__law_without (P := P) (w := w) (base := base) C
  exact ⟨fd, F, fnG_of F sc__law_span_pairs fun cdv A outer s H hr hg => (b_cons (s_asg (j_fz (j_lc [("turn", 11)] (i_range1 (a_cons j_int a_nil) (g_range C)) (g_name 11 (hN := by exact fun _ => sc__law_span_pairs.nd)) ts_nil (j_fz (j_lend 0 (ps := P__law_range) (ks := []) (by exact G__law_range) (by exact F__law_range.kp) (by exact (g__law_range C)) (by exact bg__law_range_3 F__law_range) (fun _ => .nil) (a_cons (j_var 1) (a_cons j_int a_nil)) k_nil (l_cons (l_cons l_nil)) l_nil (Nat.le_of_ble_eq_true rfl))) (fun _ => blkOk_by (N := N__law_span_pairs) (sc := defScope s__law_span_pairs) (by decide +kernel)) (hN := by exact fun _ => sc__law_span_pairs.nd))) (g_tup (gs_cons (g_name 4 (hN := by exact fun _ => sc__law_span_pairs.nd)) (gs_cons (g_name 5 (hN := by exact fun _ => sc__law_span_pairs.nd)) (gs_cons (g_name 6 (hN := by exact fun _ => sc__law_span_pairs.nd)) gs_nil))))) (b_cons (s_par2 7 8 (e_cons (j_val (j_tup (a_cons (j_tup (a_cons (j_tup (a_cons j_int (a_cons j_int (a_cons j_int (a_cons j_int (a_cons j_int a_nil)))))) (a_cons j_none a_nil))) a_nil))) (e_cons (j_val (j_fz (j_lend 0 (ps := P__law_pick) (ks := []) G__law_pick F__law_pick.kp (g__law_pick C) (bg__law_pick_2 F__law_pick) (fun _ => .nil) (a_cons (j_var 1) a_nil) k_nil (l_cons l_nil) l_nil (Nat.le_of_ble_eq_true rfl)))) e_nil)) (hN := by exact fun _ => sc__law_span_pairs.nd)) (b_cons (s_asg (j_tup (a_cons (j_tup (a_cons (j_var 8) (a_cons (j_fz (j_call (ps := P__law_next) (ks := []) G__law_next F__law_next.kp (g__law_next C) (bg__law_next_1 F__law_next) (fun _ => .nil) (a_cons (j_var 8) a_nil) k_nil (l_cons l_nil) l_nil (Nat.le_of_ble_eq_true rfl))) a_nil))) a_nil)) (g_name 2 (hN := by exact fun _ => sc__law_span_pairs.nd))) (b_cons (s_par2 9 10 (e_cons (j_val (j_fz (j_call (ps := P__law_without) (ks := []) G__law_without F__law_without.kp (g__law_without C) (bg__law_without_2 F__law_without) (fun _ => .nil) (a_cons (j_var 4) (a_cons (j_var 2) a_nil)) k_nil (l_cons (l_cons l_nil)) l_nil (Nat.le_of_ble_eq_true rfl)))) (e_cons (j_val (j_fz (j_call (ps := P__law_joined) (ks := []) G__law_joined F__law_joined.kp (g__law_joined C) (bg__law_joined_2 F__law_joined) (fun _ => .nil) (a_cons (j_var 4) (a_cons (j_var 2) a_nil)) k_nil (l_cons (l_cons l_nil)) l_nil (Nat.le_of_ble_eq_true rfl)))) e_nil)) (hN := by exact fun _ => sc__law_span_pairs.nd)) (b_cons (s_asg (j_fz (j_lst (a_cons (j_tup (a_cons (j_var 4) (a_cons (j_var 5) a_nil))) (a_cons (j_tup (a_cons (j_var 9) (a_cons (j_var 4) a_nil))) (a_cons (j_tup (a_cons (j_var 4) (a_cons (j_var 9) a_nil))) (a_cons (j_tup (a_cons (j_var 4) (a_cons (j_var 10) a_nil))) (a_cons (j_tup (a_cons (j_var 10) (a_cons (j_var 4) a_nil))) (a_cons (j_tup (a_cons (j_fz (j_call (ps := P__law_cut) (ks := []) G__law_cut F__law_cut.kp (g__law_cut C) (bg__law_cut_2 F__law_cut) (fun _ => .nil) (a_cons (j_var 4) (a_cons (j_var 6) a_nil)) k_nil (l_cons (l_cons l_nil)) l_nil (Nat.le_of_ble_eq_true rfl))) (a_cons (j_var 4) a_nil))) (a_cons (j_tup (a_cons (j_var 4) (a_cons (j_var 4) a_nil))) a_nil))))))))) (g_name 3 (hN := by exact fun _ => sc__law_span_pairs.nd))) (b_one (s_ret (j_val (j_bin o_add (j_fz (j_sl (j_var 3) p_none (p_some j_int))) (j_fz (j_sl (j_fz (j_lend 0 (ps := P__law_mixed) (ks := []) G__law_mixed F__law_mixed.kp (g__law_mixed C) (bg__law_mixed_2 F__law_mixed) (fun _ => .nil) (a_cons (j_bin o_add (j_fz (j_sl (j_var 3) (p_some j_int) p_none)) (j_fz (j_lst (a_cons (j_tup (a_cons (j_var 4) (a_cons (j_var 7) a_nil))) (a_cons (j_tup (a_cons (j_var 7) (a_cons (j_var 4) a_nil))) (a_cons (j_tup (a_cons (j_tup a_nil) (a_cons (j_var 4) a_nil))) (a_cons (j_tup (a_cons (j_var 4) (a_cons (j_tup a_nil) a_nil))) (a_cons (j_tup (a_cons (j_var 6) (a_cons (j_var 5) a_nil))) a_nil)))))))) a_nil) k_nil (l_cons l_nil) l_nil (Nat.le_of_ble_eq_true rfl))) p_none (p_some j_int))))))))))))⟩
def mb_judge_within : MS := (mSeq (mDrop (mCall mf_need_two [0, 1] [] (mCons (mVar 0) (mCons (mVar 1) mNil)) mNil)) (mRet (mCall mf_paper_for [0, 1] [] (mCons (mFz (mCall mf_without_of [0, 1] [] (mCons (mVar 0) (mCons (mVar 1) mNil)) mNil)) (mCons (mC (.str "within")) mNil)) mNil)))
def mf_judge_within : MF := mFn 2 mb_judge_within
theorem ok_judge_within (C : Cc K mg) : ∃ fd, FnP K "judge_within" s_judge_within (He.ga K "judge_within") fd ∧ FnG P w K mg base 7 (He.ga K "judge_within") fd P_judge_within mf_judge_within := by
  obtain ⟨fd, F⟩ := C.says.def_ 33 (d := d_judge_within) rfl
  obtain ⟨fd_need_two, F_need_two, G_need_two⟩ := ok_need_two (P := P) (w := w) (base := base) C
  obtain ⟨fd_paper_for, F_paper_for, G_paper_for⟩ := ok_paper_for (P := P) (w := w) (base := base) C
  obtain ⟨fd_without_of, F_without_of, G_without_of⟩ := ok_without_of (P := P) (w := w) (base := base) C
  exact ⟨fd, F, fnG_of F sc_judge_within fun cdv A outer s H hr hg => (b_cons (s_expr (j_call (ps := P_need_two) (ks := []) G_need_two F_need_two.kp (g_need_two C) (bg_need_two_2 F_need_two) (fun _ => .nil) (a_cons (j_var 0) (a_cons (j_var 1) a_nil)) k_nil (l_cons (l_cons l_nil)) l_nil (Nat.le_of_ble_eq_true rfl))) (b_one (s_ret (j_call (ps := P_paper_for) (ks := []) G_paper_for F_paper_for.kp (g_paper_for C) (bg_paper_for_2 F_paper_for) (fun _ => .nil) (a_cons (j_fz (j_call (ps := P_without_of) (ks := []) G_without_of F_without_of.kp (g_without_of C) (bg_without_of_2 F_without_of) (fun _ => .nil) (a_cons (j_var 0) (a_cons (j_var 1) a_nil)) k_nil (l_cons (l_cons l_nil)) l_nil (Nat.le_of_ble_eq_true rfl))) (a_cons j_str a_nil)) k_nil (l_cons (l_cons l_nil)) l_nil (Nat.le_of_ble_eq_true rfl)))))⟩
def mb_within_holds : MS := (mSeq (mDrop (mCall mf_need_two [0, 1] [] (mCons (mVar 0) (mCons (mVar 1) mNil)) mNil)) (mRet (mCall mf_is_paper_for [0, 1, 2] [] (mCons (mFz (mCall mf_without_of [0, 1] [] (mCons (mVar 0) (mCons (mVar 1) mNil)) mNil)) (mCons (mC (.str "within")) (mCons (mVar 2) mNil))) mNil)))
def mf_within_holds : MF := mFn 3 mb_within_holds
theorem ok_within_holds (C : Cc K mg) : ∃ fd, FnP K "within_holds" s_within_holds (He.ga K "within_holds") fd ∧ FnG P w K mg base 7 (He.ga K "within_holds") fd P_within_holds mf_within_holds := by
  obtain ⟨fd, F⟩ := C.says.def_ 34 (d := d_within_holds) rfl
  obtain ⟨fd_is_paper_for, F_is_paper_for, G_is_paper_for⟩ := ok_is_paper_for (P := P) (w := w) (base := base) C
  obtain ⟨fd_need_two, F_need_two, G_need_two⟩ := ok_need_two (P := P) (w := w) (base := base) C
  obtain ⟨fd_without_of, F_without_of, G_without_of⟩ := ok_without_of (P := P) (w := w) (base := base) C
  exact ⟨fd, F, fnG_of F sc_within_holds fun cdv A outer s H hr hg => (b_cons (s_expr (j_call (ps := P_need_two) (ks := []) G_need_two F_need_two.kp (g_need_two C) (bg_need_two_2 F_need_two) (fun _ => .nil) (a_cons (j_var 0) (a_cons (j_var 1) a_nil)) k_nil (l_cons (l_cons l_nil)) l_nil (Nat.le_of_ble_eq_true rfl))) (b_one (s_ret (j_call (ps := P_is_paper_for) (ks := []) G_is_paper_for F_is_paper_for.kp (g_is_paper_for C) (bg_is_paper_for_3 F_is_paper_for) (fun _ => .nil) (a_cons (j_fz (j_call (ps := P_without_of) (ks := []) G_without_of F_without_of.kp (g_without_of C) (bg_without_of_2 F_without_of) (fun _ => .nil) (a_cons (j_var 0) (a_cons (j_var 1) a_nil)) k_nil (l_cons (l_cons l_nil)) l_nil (Nat.le_of_ble_eq_true rfl))) (a_cons j_str (a_cons (j_var 2) a_nil))) k_nil (l_cons (l_cons (l_cons l_nil))) l_nil (Nat.le_of_ble_eq_true rfl)))))⟩
def mb_judge_same : MS := (mSeq (mDrop (mCall mf_need_two [0, 1] [] (mCons (mVar 0) (mCons (mVar 1) mNil)) mNil)) (mRet (mCall mf_paper_for [0, 1] [] (mCons (mFz (mCall mf_unlike [0, 1] [] (mCons (mVar 0) (mCons (mVar 1) mNil)) mNil)) (mCons (mC (.str "same")) mNil)) mNil)))
def mf_judge_same : MF := mFn 2 mb_judge_same
theorem ok_judge_same (C : Cc K mg) : ∃ fd, FnP K "judge_same" s_judge_same (He.ga K "judge_same") fd ∧ FnG P w K mg base 7 (He.ga K "judge_same") fd P_judge_same mf_judge_same := by
  obtain ⟨fd, F⟩ := C.says.def_ 35 (d := d_judge_same) rfl
  obtain ⟨fd_need_two, F_need_two, G_need_two⟩ := ok_need_two (P := P) (w := w) (base := base) C
  obtain ⟨fd_paper_for, F_paper_for, G_paper_for⟩ := ok_paper_for (P := P) (w := w) (base := base) C
  obtain ⟨fd_unlike, F_unlike, G_unlike⟩ := ok_unlike (P := P) (w := w) (base := base) C
  exact ⟨fd, F, fnG_of F sc_judge_same fun cdv A outer s H hr hg => (b_cons (s_expr (j_call (ps := P_need_two) (ks := []) G_need_two F_need_two.kp (g_need_two C) (bg_need_two_2 F_need_two) (fun _ => .nil) (a_cons (j_var 0) (a_cons (j_var 1) a_nil)) k_nil (l_cons (l_cons l_nil)) l_nil (Nat.le_of_ble_eq_true rfl))) (b_one (s_ret (j_call (ps := P_paper_for) (ks := []) G_paper_for F_paper_for.kp (g_paper_for C) (bg_paper_for_2 F_paper_for) (fun _ => .nil) (a_cons (j_fz (j_call (ps := P_unlike) (ks := []) G_unlike F_unlike.kp (g_unlike C) (bg_unlike_2 F_unlike) (fun _ => .nil) (a_cons (j_var 0) (a_cons (j_var 1) a_nil)) k_nil (l_cons (l_cons l_nil)) l_nil (Nat.le_of_ble_eq_true rfl))) (a_cons j_str a_nil)) k_nil (l_cons (l_cons l_nil)) l_nil (Nat.le_of_ble_eq_true rfl)))))⟩
def mb_same_holds : MS := (mSeq (mDrop (mCall mf_need_two [0, 1] [] (mCons (mVar 0) (mCons (mVar 1) mNil)) mNil)) (mRet (mCall mf_is_paper_for [0, 1, 2] [] (mCons (mFz (mCall mf_unlike [0, 1] [] (mCons (mVar 0) (mCons (mVar 1) mNil)) mNil)) (mCons (mC (.str "same")) (mCons (mVar 2) mNil))) mNil)))
def mf_same_holds : MF := mFn 3 mb_same_holds
theorem ok_same_holds (C : Cc K mg) : ∃ fd, FnP K "same_holds" s_same_holds (He.ga K "same_holds") fd ∧ FnG P w K mg base 7 (He.ga K "same_holds") fd P_same_holds mf_same_holds := by
  obtain ⟨fd, F⟩ := C.says.def_ 36 (d := d_same_holds) rfl
  obtain ⟨fd_is_paper_for, F_is_paper_for, G_is_paper_for⟩ := ok_is_paper_for (P := P) (w := w) (base := base) C
  obtain ⟨fd_need_two, F_need_two, G_need_two⟩ := ok_need_two (P := P) (w := w) (base := base) C
  obtain ⟨fd_unlike, F_unlike, G_unlike⟩ := ok_unlike (P := P) (w := w) (base := base) C
  exact ⟨fd, F, fnG_of F sc_same_holds fun cdv A outer s H hr hg => (b_cons (s_expr (j_call (ps := P_need_two) (ks := []) G_need_two F_need_two.kp (g_need_two C) (bg_need_two_2 F_need_two) (fun _ => .nil) (a_cons (j_var 0) (a_cons (j_var 1) a_nil)) k_nil (l_cons (l_cons l_nil)) l_nil (Nat.le_of_ble_eq_true rfl))) (b_one (s_ret (j_call (ps := P_is_paper_for) (ks := []) G_is_paper_for F_is_paper_for.kp (g_is_paper_for C) (bg_is_paper_for_3 F_is_paper_for) (fun _ => .nil) (a_cons (j_fz (j_call (ps := P_unlike) (ks := []) G_unlike F_unlike.kp (g_unlike C) (bg_unlike_2 F_unlike) (fun _ => .nil) (a_cons (j_var 0) (a_cons (j_var 1) a_nil)) k_nil (l_cons (l_cons l_nil)) l_nil (Nat.le_of_ble_eq_true rfl))) (a_cons j_str (a_cons (j_var 2) a_nil))) k_nil (l_cons (l_cons (l_cons l_nil))) l_nil (Nat.le_of_ble_eq_true rfl)))))⟩
def mb__law_same_1 (r : MF) : MS := (mIf (mTOr (mTest (mBin gIs (mVar 1) (mC .none))) (mTest (mIsi "bool" (mVar 1)))) (mRet (mVal (mAnd (mBin gEq (mBin gIs (mVar 0) (mC .none)) (mBin gIs (mVar 1) (mC .none))) (mAnd (mBin gEq (mBin gIs (mVar 0) (mC (.bool true))) (mBin gIs (mVar 1) (mC (.bool true)))) (mBin gEq (mBin gIs (mVar 0) (mC (.bool false))) (mBin gIs (mVar 1) (mC (.bool false)))))))) mNx)
def mb__law_same_2 (r : MF) : MS := (mIf (mTest (mIsi "int" (mVar 1))) (mRet (mVal (mAnd (mIsi "int" (mVar 0)) (mAnd (mNot (mIsi "bool" (mVar 0))) (mBin gEq (mVar 0) (mVar 1)))))) mNx)
def mb__law_same_3 (r : MF) : MS := (mIf (mTest (mIsi "str" (mVar 1))) (mRet (mVal (mAnd (mIsi "str" (mVar 0)) (mBin gEq (mVar 0) (mVar 1))))) mNx)
def mb__law_same_4 (r : MF) : MS := (mIf (mTOr (mTNot (mTest (mIsi "dict" (mVar 0)))) (mTest (mBin gNe (mFz (mCB gLen (mCons (mVar 0) mNil))) (mFz (mCB gLen (mCons (mVar 1) mNil)))))) (mRet (mVal (mC (.bool false)))) mNx)
def lc__law_same_5 (r : MF) : MO := (mLc (mIt (mVar 1)) (mN 2) (mTOr (mTest (mBin gNotInD (mVar 2) (mVar 0))) (mTNot (mTest (mFz (mCall r [0, 1] [] (mCons (mBin gIx (mVar 0) (mVar 2)) (mCons (mBin gIx (mVar 1) (mVar 2)) mNil)) mNil))))) (mVar 2) [2])
def mb__law_same_6 (r : MF) : MS := (mIf (mTest (mIsi "dict" (mVar 1))) (mSeq (mb__law_same_4 r) (mRet (mVal (mBin gEq (mFz (lc__law_same_5 r)) (mFz (mLst mNil)))))) mNx)
def mb__law_same_7 (r : MF) : MS := (mIf (mTOr (mTest (mBin gNe (mIsi "tuple" (mVar 1)) (mIsi "tuple" (mVar 0)))) (mTest (mBin gNe (mIsi "list" (mVar 1)) (mIsi "list" (mVar 0))))) (mRet (mVal (mC (.bool false)))) mNx)
def mb__law_same_8 (r : MF) : MS := (mIf (mTAnd (mTNot (mTest (mIsi "tuple" (mVar 1)))) (mTNot (mTest (mIsi "list" (mVar 1))))) (mRet (mVal (mBin gEq (mVar 0) (mVar 1)))) mNx)
def lc__law_same_9 (r : MF) : MO := (mLc (mR1 (mCons (mFz (mCB gLen (mCons (mVar 1) mNil))) mNil)) (mN 3) (mTNot (mTest (mFz (mCall r [0, 1] [] (mCons (mBin gIx (mVar 0) (mVar 3)) (mCons (mBin gIx (mVar 1) (mVar 3)) mNil)) mNil)))) (mVar 3) [3])
def mb__law_same (r : MF) : MS := (mSeq (mb__law_same_1 r) (mSeq (mb__law_same_2 r) (mSeq (mb__law_same_3 r) (mSeq (mb__law_same_6 r) (mSeq (mb__law_same_7 r) (mSeq (mb__law_same_8 r) (mRet (mVal (mAnd (mBin gEq (mFz (mCB gLen (mCons (mVar 0) mNil))) (mFz (mCB gLen (mCons (mVar 1) mNil)))) (mBin gEq (mFz (lc__law_same_9 r)) (mFz (mLst mNil))))))))))))
def mf__law_same : Nat → MF
  | 0 => fun _ => none
  | n + 1 => mFn 4 (mb__law_same (mf__law_same n))
theorem ok__law_same (C : Cc K mg) (n : Nat) : ∃ fd, FnP K "_law_same" s__law_same (He.ga K "_law_same") fd ∧ FnG P w K mg base (1 + n) (He.ga K "_law_same") fd P__law_same (mf__law_same n) := by
  obtain ⟨fd, F⟩ := C.says.def_ 37 (d := d__law_same) rfl
  refine ⟨fd, F, ?_⟩
  induction n with
  | zero => exact FnG.never
  | succ n G_r => exact fnG_of F sc__law_same fun cdv A outer s H hr hg => (b_cons (s_if ((w_or (t_cmp o_is (j_var 1) j_none) (w_or1 (t_val (j_isi (j_var 1) (g_isinstance C) (g_bool C)))))).jt (b_one (s_ret (j_val (j_and (j_cmp o_eq (j_cmp o_is (j_var 0) j_none) (j_cmp o_is (j_var 1) j_none)) (j_and (j_cmp o_eq (j_cmp o_is (j_var 0) j_bool) (j_cmp o_is (j_var 1) j_bool)) (j_one (j_cmp o_eq (j_cmp o_is (j_var 0) j_bool) (j_cmp o_is (j_var 1) j_bool)))))))) b_nil) (b_cons (s_if (t_val (j_isi (j_var 1) (g_isinstance C) (g_int C))) (b_one (s_ret (j_val (j_and (j_isi (j_var 0) (g_isinstance C) (g_int C)) (j_and (j_not (j_isi (j_var 0) (g_isinstance C) (g_bool C))) (j_one (j_cmp o_eq (j_var 0) (j_var 1)))))))) b_nil) (b_cons (s_if (t_val (j_isi (j_var 1) (g_isinstance C) (g_str C))) (b_one (s_ret (j_val (j_and (j_isi (j_var 0) (g_isinstance C) (g_str C)) (j_one (j_cmp o_eq (j_var 0) (j_var 1))))))) b_nil) (b_cons (s_if (t_val (j_isi (j_var 1) (g_isinstance C) (g_dict C))) (b_cons (s_if ((w_or (t_not (t_val (j_isi (j_var 0) (g_isinstance C) (g_dict C)))) (w_or1 (t_cmp o_ne (j_fz (j_callB c_len (g_len C) (a_cons (j_var 0) a_nil))) (j_fz (j_callB c_len (g_len C) (a_cons (j_var 1) a_nil))))))).jt (b_one (s_ret (j_val j_bool))) b_nil) (b_one (s_ret (j_val (j_cmp o_eq (j_fz (j_lc [("key", 2)] (i_any (j_var 1)) (g_name 2 (hN := by exact fun _ => sc__law_same.nd)) (ts_one ((w_or (t_cmp o_notIn (j_var 2) (j_var 0)) (w_or1 (t_not (t_val (j_fz (j_call (ps := P__law_same) (ks := []) (by exact G_r) (by exact F.kp) (by exact (g__law_same C)) (by exact bg__law_same_2 F) (fun _ => .nil) (a_cons (j_ix (j_var 0) (j_var 2)) (a_cons (j_ix (j_var 1) (j_var 2)) a_nil)) k_nil (l_cons (l_cons l_nil)) l_nil (Nat.le_refl _)))))))).jt) (j_var 2) (fun _ => blkOk_by (N := N__law_same) (sc := defScope s__law_same) (by decide +kernel)) (hN := by exact fun _ => sc__law_same.nd))) (j_fz (j_lst a_nil))))))) b_nil) (b_cons (s_if ((w_or (t_cmp o_ne (j_isi (j_var 1) (g_isinstance C) (g_tuple C)) (j_isi (j_var 0) (g_isinstance C) (g_tuple C))) (w_or1 (t_cmp o_ne (j_isi (j_var 1) (g_isinstance C) (g_list C)) (j_isi (j_var 0) (g_isinstance C) (g_list C)))))).jt (b_one (s_ret (j_val j_bool))) b_nil) (b_cons (s_if ((w_and (t_not (t_val (j_isi (j_var 1) (g_isinstance C) (g_tuple C)))) (w_and1 (t_not (t_val (j_isi (j_var 1) (g_isinstance C) (g_list C))))))).jt (b_one (s_ret (j_val (j_cmp o_eq (j_var 0) (j_var 1))))) b_nil) (b_one (s_ret (j_val (j_and (j_cmp o_eq (j_fz (j_callB c_len (g_len C) (a_cons (j_var 0) a_nil))) (j_fz (j_callB c_len (g_len C) (a_cons (j_var 1) a_nil)))) (j_one (j_cmp o_eq (j_fz (j_lc [("at", 3)] (i_range1 (a_cons (j_fz (j_callB c_len (g_len C) (a_cons (j_var 1) a_nil))) a_nil) (g_range C)) (g_name 3 (hN := by exact fun _ => sc__law_same.nd)) (ts_one (t_not (t_val (j_fz (j_call (ps := P__law_same) (ks := []) (by exact G_r) (by exact F.kp) (by exact (g__law_same C)) (by exact bg__law_same_2 F) (fun _ => .nil) (a_cons (j_ix (j_var 0) (j_var 3)) (a_cons (j_ix (j_var 1) (j_var 3)) a_nil)) k_nil (l_cons (l_cons l_nil)) l_nil (Nat.le_refl _)))))) (j_var 3) (fun _ => blkOk_by (N := N__law_same) (sc := defScope s__law_same) (by decide +kernel)) (hN := by exact fun _ => sc__law_same.nd))) (j_fz (j_lst a_nil))))))))))))))
def mb__law_part_within_1 : MS := (mAsg (mIf (mTest (mBin gEq (mVar 9) (mTup mNil))) (mTup (mCons (mC (.str "within")) mNil)) (mTup (mCons (mC (.str "version")) (mCons (mBin gIx (mBin gIx (mVar 9) (mC (.int 0))) (mC (.int 0))) mNil)))) (mN 4))
def mb__law_part_within_2 : MS := (mIf (mTNot (mTest (mFz (mCall (mf__law_same 40) [0, 1] [] (mCons (mTup (mCons (mVar 5) (mCons (mFz (mCall mf_judge_within [1, 0] [] mNil (mCons (mVar 3) (mCons (mVar 2) mNil)))) mNil))) (mCons (mTup (mCons (mVar 4) (mCons (mVar 4) mNil))) mNil)) mNil)))) (mRet (mVal (mC (.bool false)))) mNx)
def lc__law_part_within_3 : MO := (mLc (mIt (mVar 6)) (mN 14) (mTAnd (mTest (mFz (mCall mf__law_in [0, 1] [] (mCons (mVar 2) (mCons (mVar 14) mNil)) mNil))) (mTNot (mTest (mFz (mCall mf__law_in [0, 1] [] (mCons (mVar 3) (mCons (mVar 14) mNil)) mNil))))) (mVar 14) [14])
def mb__law_part_within_4 : MS := (mIf (mTOr (mTest (mBin gNe (mBin gEq (mVar 7) (mFz (mLst mNil))) (mBin gEq (mVar 9) (mTup mNil)))) (mTAnd (mTest (mBin gNe (mVar 7) (mFz (mLst mNil)))) (mTest (mBin gNe (mFz (mCB gMin1 (mCons (mVar 7) mNil))) (mBin gIx (mBin gIx (mVar 9) (mC (.int 0))) (mC (.int 0))))))) (mRet (mVal (mC (.bool false)))) mNx)
def lc__law_part_within_5 : MO := (mLc (mIt (mTup (mCons (mVar 2) (mCons (mVar 3) (mCons (mVar 10) (mCons (mFz (mCall mf__law_cut [0, 1] [] (mCons (mVar 2) (mCons (mVar 3) mNil)) mNil)) mNil)))))) (mN 15) (mTest (mBin gNe (mVar 15) (mTup mNil))) (mTup (mCons (mC (.str "version")) (mCons (mBin gIx (mBin gIx (mVar 15) (mC (.int 0))) (mC (.int 0))) mNil))) [15])
def mb__law_part_within_6 : MS := (mAsg (mIf (mTest (mVar 13)) (mFz (mCall mf_within_holds [2, 1, 0] [] mNil (mCons (mVar 12) (mCons (mVar 3) (mCons (mVar 2) mNil))))) (mFz (mCall mf_within_holds [0, 1, 2] [] (mCons (mVar 2) (mCons (mVar 3) (mCons (mVar 12) mNil))) mNil))) (mN 5))
def mb__law_part_within_7 : MS := (mIf (mTNot (mTest (mFz (mCall (mf__law_same 40) [0, 1] [] (mCons (mVar 5) (mCons (mBin gEq (mVar 12) (mVar 4)) mNil)) mNil)))) (mRet (mVal (mC (.bool false)))) mNx)
def mb__law_part_within_8 : MS := (mFor (mEnum (mCons (mVar 8) mNil)) (mTupG 2 (mN1 (mN 11) (mN1 (mN 12) mN0))) (mSeq (mAsg (mBin gEq (mBin gMod (mFz (mCB gInt (mCons (mVar 11) mNil))) (mC (.int 3))) (mC (.int 0))) (mN 13)) (mSeq mb__law_part_within_6 mb__law_part_within_7)))
def mb__law_part_within_9 : MS := (mFor (mIt (mFz (mLend 0 mf__law_span_pairs [0] [] (mCons (mVar 1) mNil) mNil))) (mTupG 2 (mN1 (mN 2) (mN1 (mN 3) mN0))) (mSeq (mPar [9, 10] (mE1 (mVal (mFz (mCall mf__law_without [0, 1] [] (mCons (mVar 2) (mCons (mVar 3) mNil)) mNil))) (mE1 (mVal (mFz (mCall mf__law_without [0, 1] [] (mCons (mVar 3) (mCons (mVar 2) mNil)) mNil))) mE0))) (mSeq mb__law_part_within_1 (mSeq (mAsg (mFz (mCall mf_judge_within [0, 1] [] (mCons (mVar 2) (mCons (mVar 3) mNil)) mNil)) (mN 5)) (mSeq mb__law_part_within_2 (mSeq (mAsg (mFz (mLend 0 mf__law_pool [0, 1] [] (mCons (mFz (mLst (mCons (mVar 2) (mCons (mVar 3) mNil)))) (mCons (mVar 1) mNil)) mNil)) (mN 6)) (mSeq (mOwnV (mFz lc__law_part_within_3) 7) (mSeq mb__law_part_within_4 (mSeq (mOwn (mLst (mCons (mTup (mCons (mC (.str "within")) mNil)) (mCons (mTup (mCons (mC (.str "same")) mNil)) (mCons (mTup (mCons (mC (.str "version")) (mCons (mFz (mLend 0 mf__law_pick [0] [] (mCons (mVar 6) mNil) mNil)) mNil))) (mCons (mTup (mCons (mC (.str "version")) (mCons (mFz (mLend 0 mf__law_pick [0] [] (mCons (mBin gAdd (mVar 7) (mFz (mSl (mVar 6) mP0 (mP1 (mC (.int 1)))))) mNil) mNil)) mNil))) (mCons (mVar 4) mNil)))))) 8) (mSeq (mDrop (mExt 8 (mFz lc__law_part_within_5))) (mFrz 8 mb__law_part_within_8)))))))))))
def mb__law_part_within : MS := (mSeq (mAsg (mFz (mLend 0 mf__law_versions [0] [] (mCons (mC (.int 7)) mNil) mNil)) (mN 1)) (mSeq mb__law_part_within_9 (mRet (mVal (mC (.bool true))))))
def mf__law_part_within : MF := mFn 16 mb__law_part_within
theorem ok__law_part_within (C : Cc K mg) : ∃ fd, FnP K "_law_part_within" s__law_part_within (He.ga K "_law_part_within") fd ∧ FnG P w K mg base 42 (He.ga K "_law_part_within") fd P__law_part_within mf__law_part_within := by
  obtain ⟨fd, F⟩ := C.says.def_ 38 (d := d__law_part_within) rfl
  obtain ⟨fd__law_cut, F__law_cut, G__law_cut⟩ := ok__law_cut (P := P) (w := w) (base := base) C
  obtain ⟨fd__law_in, F__law_in, G__law_in⟩ := ok__law_in (P := P) (w := w) (base := base) C
  obtain ⟨fd__law_pick, F__law_pick, G__law_pick⟩ := ok__law_pick (P := P) (w := w) (base := base) C
  obtain ⟨fd__law_pool, F__law_pool, G__law_pool⟩ := ok__law_pool (P := P) (w := w) (base := base) C
  obtain ⟨fd__law_same, F__law_same, G__law_same⟩ := ok__law_same (P := P) (w := w) (base := base) C 40
  obtain ⟨fd__law_span_pairs, F__law_span_pairs, G__law_span_pairs⟩ := ok__law_span_pairs (P := P) (w := w) (base := base) C
  obtain ⟨fd__law_versions, F__law_versions, G__law_versions⟩ := ok__law_versions (P := P) (w := w) (base := base) C
  obtain ⟨fd__law_without, F__law_without, G__law_without⟩ := ok__law_without (P := P) (w := w) (base := base) C
  obtain ⟨fd_judge_within, F_judge_within, G_judge_within⟩ := ok_judge_within (P := P) (w := w) (base := base) C
  obtain ⟨fd_within_holds, F_within_holds, G_within_holds⟩ := ok_within_holds (P := P) (w := w) (base := base) C
  exact ⟨fd, F, fnG_of F sc__law_part_within fun cdv A outer s H hr hg => (b_cons (s_asg (j_fz (j_lend 0 (ps := P__law_versions) (ks := []) G__law_versions F__law_versions.kp (g__law_versions C) (bg__law_versions_2 F__law_versions) (fun _ => .nil) (a_cons j_int a_nil) k_nil (l_cons l_nil) l_nil (Nat.le_of_ble_eq_true rfl))) (g_name 1 (hN := by exact fun _ => sc__law_part_within.nd))) (b_cons (s_for (i_any (j_fz (j_lend 0 (ps := P__law_span_pairs) (ks := []) G__law_span_pairs F__law_span_pairs.kp (g__law_span_pairs C) (bg__law_span_pairs_2 F__law_span_pairs) (fun _ => .nil) (a_cons (j_var 1) a_nil) k_nil (l_cons l_nil) l_nil (Nat.le_of_ble_eq_true rfl)))) (g_tup (gs_cons (g_name 2 (hN := by exact fun _ => sc__law_part_within.nd)) (gs_cons (g_name 3 (hN := by exact fun _ => sc__law_part_within.nd)) gs_nil))) (b_cons (s_par2 9 10 (e_cons (j_val (j_fz (j_call (ps := P__law_without) (ks := []) G__law_without F__law_without.kp (g__law_without C) (bg__law_without_2 F__law_without) (fun _ => .nil) (a_cons (j_var 2) (a_cons (j_var 3) a_nil)) k_nil (l_cons (l_cons l_nil)) l_nil (Nat.le_of_ble_eq_true rfl)))) (e_cons (j_val (j_fz (j_call (ps := P__law_without) (ks := []) G__law_without F__law_without.kp (g__law_without C) (bg__law_without_2 F__law_without) (fun _ => .nil) (a_cons (j_var 3) (a_cons (j_var 2) a_nil)) k_nil (l_cons (l_cons l_nil)) l_nil (Nat.le_of_ble_eq_true rfl)))) e_nil)) (hN := by exact fun _ => sc__law_part_within.nd)) (b_cons (s_asg (j_if (t_cmp o_eq (j_var 9) (j_tup a_nil)) (j_tup (a_cons j_str a_nil)) (j_tup (a_cons j_str (a_cons (j_ix (j_ix (j_var 9) j_int) j_int) a_nil)))) (g_name 4 (hN := by exact fun _ => sc__law_part_within.nd))) (b_cons (s_asg (j_fz (j_call (ps := P_judge_within) (ks := []) G_judge_within F_judge_within.kp (g_judge_within C) (bg_judge_within_2 F_judge_within) (fun _ => .nil) (a_cons (j_var 2) (a_cons (j_var 3) a_nil)) k_nil (l_cons (l_cons l_nil)) l_nil (Nat.le_of_ble_eq_true rfl))) (g_name 5 (hN := by exact fun _ => sc__law_part_within.nd))) (b_cons (s_if (t_not (t_val (j_fz (j_call (ps := P__law_same) (ks := []) G__law_same F__law_same.kp (g__law_same C) (bg__law_same_2 F__law_same) (fun _ => .nil) (a_cons (j_tup (a_cons (j_var 5) (a_cons (j_fz (j_call0 (ps := P_judge_within) (ks := ["other", "one"]) G_judge_within F_judge_within.kp (g_judge_within C) (bg_judge_within_0_other_one F_judge_within) (fun _ => .nil) (k_cons (j_var 3) (k_cons (j_var 2) k_nil)) (l_cons (l_cons l_nil)) (Nat.le_of_ble_eq_true rfl))) a_nil))) (a_cons (j_tup (a_cons (j_var 4) (a_cons (j_var 4) a_nil))) a_nil)) k_nil (l_cons (l_cons l_nil)) l_nil (Nat.le_of_ble_eq_true rfl))))) (b_one (s_ret (j_val j_bool))) b_nil) (b_cons (s_asg (j_fz (j_lend 0 (ps := P__law_pool) (ks := []) G__law_pool F__law_pool.kp (g__law_pool C) (bg__law_pool_3 F__law_pool) (fun _ => .nil) (a_cons (j_fz (j_lst (a_cons (j_var 2) (a_cons (j_var 3) a_nil)))) (a_cons (j_var 1) a_nil)) k_nil (l_cons (l_cons l_nil)) l_nil (Nat.le_of_ble_eq_true rfl))) (g_name 6 (hN := by exact fun _ => sc__law_part_within.nd))) (b_cons (s_lcV 7 [("version", 14)] (i_any (j_var 6)) (g_name 14 (hN := by exact fun _ => sc__law_part_within.nd)) (ts_one ((w_and (t_val (j_fz (j_call (ps := P__law_in) (ks := []) (by exact G__law_in) (by exact F__law_in.kp) (by exact (g__law_in C)) (by exact bg__law_in_2 F__law_in) (fun _ => .nil) (a_cons (j_var 2) (a_cons (j_var 14) a_nil)) k_nil (l_cons (l_cons l_nil)) l_nil (Nat.le_of_ble_eq_true rfl)))) (w_and1 (t_not (t_val (j_fz (j_call (ps := P__law_in) (ks := []) (by exact G__law_in) (by exact F__law_in.kp) (by exact (g__law_in C)) (by exact bg__law_in_2 F__law_in) (fun _ => .nil) (a_cons (j_var 3) (a_cons (j_var 14) a_nil)) k_nil (l_cons (l_cons l_nil)) l_nil (Nat.le_of_ble_eq_true rfl)))))))).jt) (j_var 14) (fun _ => blkOk_by (N := N__law_part_within) (sc := defScope s__law_part_within) (by decide +kernel)) (hN := by exact fun _ => sc__law_part_within.nd)) (b_cons (s_if ((w_or (t_cmp o_ne (j_cmp o_eq (j_var 7) (j_fz (j_lst a_nil))) (j_cmp o_eq (j_var 9) (j_tup a_nil))) (w_or1 ((w_and (t_cmp o_ne (j_var 7) (j_fz (j_lst a_nil))) (w_and1 (t_cmp o_ne (j_fz (j_callB c_min1 (g_min C) (a_cons (j_var 7) a_nil))) (j_ix (j_ix (j_var 9) j_int) j_int))))).jt))).jt (b_one (s_ret (j_val j_bool))) b_nil) (b_cons (s_own 8 (j_lst (a_cons (j_tup (a_cons j_str a_nil)) (a_cons (j_tup (a_cons j_str a_nil)) (a_cons (j_tup (a_cons j_str (a_cons (j_fz (j_lend 0 (ps := P__law_pick) (ks := []) G__law_pick F__law_pick.kp (g__law_pick C) (bg__law_pick_2 F__law_pick) (fun _ => .nil) (a_cons (j_var 6) a_nil) k_nil (l_cons l_nil) l_nil (Nat.le_of_ble_eq_true rfl))) a_nil))) (a_cons (j_tup (a_cons j_str (a_cons (j_fz (j_lend 0 (ps := P__law_pick) (ks := []) G__law_pick F__law_pick.kp (g__law_pick C) (bg__law_pick_2 F__law_pick) (fun _ => .nil) (a_cons (j_bin o_add (j_var 7) (j_fz (j_sl (j_var 6) p_none (p_some j_int)))) a_nil) k_nil (l_cons l_nil) l_nil (Nat.le_of_ble_eq_true rfl))) a_nil))) (a_cons (j_var 4) a_nil)))))) (hN := by exact fun _ => sc__law_part_within.nd)) (b_cons (s_expr (j_ext 8 (j_fz (j_lc [("span", 15)] (i_any (j_tup (a_cons (j_var 2) (a_cons (j_var 3) (a_cons (j_var 10) (a_cons (j_fz (j_call (ps := P__law_cut) (ks := []) G__law_cut F__law_cut.kp (g__law_cut C) (bg__law_cut_2 F__law_cut) (fun _ => .nil) (a_cons (j_var 2) (a_cons (j_var 3) a_nil)) k_nil (l_cons (l_cons l_nil)) l_nil (Nat.le_of_ble_eq_true rfl))) a_nil)))))) (g_name 15 (hN := by exact fun _ => sc__law_part_within.nd)) (ts_one (t_cmp o_ne (j_var 15) (j_tup a_nil))) (j_tup (a_cons j_str (a_cons (j_ix (j_ix (j_var 15) j_int) j_int) a_nil))) (fun _ => blkOk_by (N := N__law_part_within) (sc := defScope s__law_part_within) (by decide +kernel)) (hN := by exact fun _ => sc__law_part_within.nd))))) (b_frz 8 (b_one (s_for (i_enum (a_cons (j_var 8) a_nil) (g_enumerate C)) (g_tup (gs_cons (g_name 11 (hN := by exact fun _ => sc__law_part_within.nd)) (gs_cons (g_name 12 (hN := by exact fun _ => sc__law_part_within.nd)) gs_nil))) (b_cons (s_asg (j_cmp o_eq (j_bin o_mod (j_fz (j_callT c_int (g_int C) (a_cons (j_var 11) a_nil))) j_int) j_int) (g_name 13 (hN := by exact fun _ => sc__law_part_within.nd))) (b_cons (s_asg (j_if (t_val (j_var 13)) (j_fz (j_call0 (ps := P_within_holds) (ks := ["thing", "other", "one"]) G_within_holds F_within_holds.kp (g_within_holds C) (bg_within_holds_0_thing_other_one F_within_holds) (fun _ => .nil) (k_cons (j_var 12) (k_cons (j_var 3) (k_cons (j_var 2) k_nil))) (l_cons (l_cons (l_cons l_nil))) (Nat.le_of_ble_eq_true rfl))) (j_fz (j_call (ps := P_within_holds) (ks := []) G_within_holds F_within_holds.kp (g_within_holds C) (bg_within_holds_3 F_within_holds) (fun _ => .nil) (a_cons (j_var 2) (a_cons (j_var 3) (a_cons (j_var 12) a_nil))) k_nil (l_cons (l_cons (l_cons l_nil))) l_nil (Nat.le_of_ble_eq_true rfl)))) (g_name 5 (hN := by exact fun _ => sc__law_part_within.nd))) (b_one (s_if (t_not (t_val (j_fz (j_call (ps := P__law_same) (ks := []) G__law_same F__law_same.kp (g__law_same C) (bg__law_same_2 F__law_same) (fun _ => .nil) (a_cons (j_var 5) (a_cons (j_cmp o_eq (j_var 12) (j_var 4)) a_nil)) k_nil (l_cons (l_cons l_nil)) l_nil (Nat.le_of_ble_eq_true rfl))))) (b_one (s_ret (j_val j_bool))) b_nil))))))))))))))))) (b_one (s_ret (j_val j_bool)))))⟩
def mb__law_part_alike_1 : MS := (mAsg (mIf (mTest (mBin gEq (mVar 4) (mTup mNil))) (mTup (mCons (mC (.str "same")) mNil)) (mTup (mCons (mC (.str "version")) (mCons (mBin gIx (mBin gIx (mVar 4) (mC (.int 0))) (mC (.int 0))) mNil)))) (mN 5))
def mb__law_part_alike_2 : MS := (mIf (mTNot (mTest (mFz (mCall (mf__law_same 40) [0, 1] [] (mCons (mTup (mCons (mFz (mCall mf_judge_same [0, 1] [] (mCons (mVar 2) (mCons (mVar 3) mNil)) mNil)) (mCons (mFz (mCall mf_judge_same [1, 0] [] mNil (mCons (mVar 2) (mCons (mVar 3) mNil)))) mNil))) (mCons (mTup (mCons (mVar 5) (mCons (mVar 5) mNil))) mNil)) mNil)))) (mRet (mVal (mC (.bool false)))) mNx)
def mb__law_part_alike_3 : MS := (mIf (mTest (mBin gNe (mBin gEq (mVar 5) (mTup (mCons (mC (.str "same")) mNil))) (mBin gEq (mVar 2) (mVar 3)))) (mRet (mVal (mC (.bool false)))) mNx)
def lc__law_part_alike_4 : MO := (mLc (mIt (mVar 6)) (mN 13) (mTest (mBin gNe (mFz (mCall mf__law_in [0, 1] [] (mCons (mVar 2) (mCons (mVar 13) mNil)) mNil)) (mFz (mCall mf__law_in [0, 1] [] (mCons (mVar 3) (mCons (mVar 13) mNil)) mNil)))) (mVar 13) [13])
def mb__law_part_alike_5 : MS := (mIf (mTOr (mTest (mBin gNe (mBin gEq (mVar 7) (mFz (mLst mNil))) (mBin gEq (mVar 4) (mTup mNil)))) (mTAnd (mTest (mBin gNe (mVar 7) (mFz (mLst mNil)))) (mTest (mBin gNe (mFz (mCB gMin1 (mCons (mVar 7) mNil))) (mBin gIx (mBin gIx (mVar 4) (mC (.int 0))) (mC (.int 0))))))) (mRet (mVal (mC (.bool false)))) mNx)
def lc__law_part_alike_6 : MO := (mLc (mIt (mTup (mCons (mVar 2) (mCons (mVar 3) (mCons (mFz (mCall mf__law_cut [0, 1] [] (mCons (mVar 2) (mCons (mVar 3) mNil)) mNil)) mNil))))) (mN 14) (mTest (mBin gNe (mVar 14) (mTup mNil))) (mTup (mCons (mC (.str "version")) (mCons (mBin gIx (mBin gIx (mVar 14) (mC (.int 0))) (mC (.int 0))) mNil))) [14])
def mb__law_part_alike_7 : MS := (mAsg (mIf (mTest (mVar 11)) (mFz (mCall mf_same_holds [2, 1, 0] [] mNil (mCons (mVar 10) (mCons (mVar 3) (mCons (mVar 2) mNil))))) (mFz (mCall mf_same_holds [0, 1, 2] [] (mCons (mVar 2) (mCons (mVar 3) (mCons (mVar 10) mNil))) mNil))) (mN 12))
def mb__law_part_alike_8 : MS := (mIf (mTNot (mTest (mFz (mCall (mf__law_same 40) [0, 1] [] (mCons (mVar 12) (mCons (mBin gEq (mVar 10) (mVar 5)) mNil)) mNil)))) (mRet (mVal (mC (.bool false)))) mNx)
def mb__law_part_alike_9 : MS := (mFor (mEnum (mCons (mVar 8) mNil)) (mTupG 2 (mN1 (mN 9) (mN1 (mN 10) mN0))) (mSeq (mAsg (mBin gEq (mBin gMod (mFz (mCB gInt (mCons (mVar 9) mNil))) (mC (.int 3))) (mC (.int 0))) (mN 11)) (mSeq mb__law_part_alike_7 mb__law_part_alike_8)))
def mb__law_part_alike_10 : MS := (mFor (mIt (mFz (mLend 0 mf__law_span_pairs [0] [] (mCons (mVar 1) mNil) mNil))) (mTupG 2 (mN1 (mN 2) (mN1 (mN 3) mN0))) (mSeq (mAsg (mFz (mCall mf__law_joined [0, 1] [] (mCons (mFz (mCall mf__law_without [0, 1] [] (mCons (mVar 2) (mCons (mVar 3) mNil)) mNil)) (mCons (mFz (mCall mf__law_without [0, 1] [] (mCons (mVar 3) (mCons (mVar 2) mNil)) mNil)) mNil)) mNil)) (mN 4)) (mSeq mb__law_part_alike_1 (mSeq mb__law_part_alike_2 (mSeq mb__law_part_alike_3 (mSeq (mAsg (mFz (mLend 0 mf__law_pool [0, 1] [] (mCons (mFz (mLst (mCons (mVar 2) (mCons (mVar 3) mNil)))) (mCons (mVar 1) mNil)) mNil)) (mN 6)) (mSeq (mOwnV (mFz lc__law_part_alike_4) 7) (mSeq mb__law_part_alike_5 (mSeq (mOwn (mLst (mCons (mTup (mCons (mC (.str "within")) mNil)) (mCons (mTup (mCons (mC (.str "same")) mNil)) (mCons (mTup (mCons (mC (.str "version")) (mCons (mFz (mLend 0 mf__law_pick [0] [] (mCons (mVar 6) mNil) mNil)) mNil))) (mCons (mTup (mCons (mC (.str "version")) (mCons (mFz (mLend 0 mf__law_pick [0] [] (mCons (mBin gAdd (mVar 7) (mFz (mSl (mVar 6) mP0 (mP1 (mC (.int 1)))))) mNil) mNil)) mNil))) (mCons (mVar 5) mNil)))))) 8) (mSeq (mDrop (mExt 8 (mFz lc__law_part_alike_6))) (mFrz 8 mb__law_part_alike_9)))))))))))
def mb__law_part_alike : MS := (mSeq (mAsg (mFz (mLend 0 mf__law_versions [0] [] (mCons (mC (.int 7)) mNil) mNil)) (mN 1)) (mSeq mb__law_part_alike_10 (mRet (mVal (mC (.bool true))))))
def mf__law_part_alike : MF := mFn 15 mb__law_part_alike
theorem ok__law_part_alike (C : Cc K mg) : ∃ fd, FnP K "_law_part_alike" s__law_part_alike (He.ga K "_law_part_alike") fd ∧ FnG P w K mg base 42 (He.ga K "_law_part_alike") fd P__law_part_alike mf__law_part_alike := by
  obtain ⟨fd, F⟩ := C.says.def_ 39 (d := d__law_part_alike) rfl
  obtain ⟨fd__law_cut, F__law_cut, G__law_cut⟩ := ok__law_cut (P := P) (w := w) (base := base) C
  obtain ⟨fd__law_in, F__law_in, G__law_in⟩ := ok__law_in (P := P) (w := w) (base := base) C
  obtain ⟨fd__law_joined, F__law_joined, G__law_joined⟩ := ok__law_joined (P := P) (w := w) (base := base) C
  obtain ⟨fd__law_pick, F__law_pick, G__law_pick⟩ := ok__law_pick (P := P) (w := w) (base := base) C
  obtain ⟨fd__law_pool, F__law_pool, G__law_pool⟩ := ok__law_pool (P := P) (w := w) (base := base) C
  obtain ⟨fd__law_same, F__law_same, G__law_same⟩ := ok__law_same (P := P) (w := w) (base := base) C 40
  obtain ⟨fd__law_span_pairs, F__law_span_pairs, G__law_span_pairs⟩ := ok__law_span_pairs (P := P) (w := w) (base := base) C
  obtain ⟨fd__law_versions, F__law_versions, G__law_versions⟩ := ok__law_versions (P := P) (w := w) (base := base) C
  obtain ⟨fd__law_without, F__law_without, G__law_without⟩ := ok__law_without (P := P) (w := w) (base := base) C
  obtain ⟨fd_judge_same, F_judge_same, G_judge_same⟩ := ok_judge_same (P := P) (w := w) (base := base) C
  obtain ⟨fd_same_holds, F_same_holds, G_same_holds⟩ := ok_same_holds (P := P) (w := w) (base := base) C
  exact ⟨fd, F, fnG_of F sc__law_part_alike fun cdv A outer s H hr hg => (b_cons (s_asg (j_fz (j_lend 0 (ps := P__law_versions) (ks := []) G__law_versions F__law_versions.kp (g__law_versions C) (bg__law_versions_2 F__law_versions) (fun _ => .nil) (a_cons j_int a_nil) k_nil (l_cons l_nil) l_nil (Nat.le_of_ble_eq_true rfl))) (g_name 1 (hN := by exact fun _ => sc__law_part_alike.nd))) (b_cons (s_for (i_any (j_fz (j_lend 0 (ps := P__law_span_pairs) (ks := []) G__law_span_pairs F__law_span_pairs.kp (g__law_span_pairs C) (bg__law_span_pairs_2 F__law_span_pairs) (fun _ => .nil) (a_cons (j_var 1) a_nil) k_nil (l_cons l_nil) l_nil (Nat.le_of_ble_eq_true rfl)))) (g_tup (gs_cons (g_name 2 (hN := by exact fun _ => sc__law_part_alike.nd)) (gs_cons (g_name 3 (hN := by exact fun _ => sc__law_part_alike.nd)) gs_nil))) (b_cons (s_asg (j_fz (j_call (ps := P__law_joined) (ks := []) G__law_joined F__law_joined.kp (g__law_joined C) (bg__law_joined_2 F__law_joined) (fun _ => .nil) (a_cons (j_fz (j_call (ps := P__law_without) (ks := []) G__law_without F__law_without.kp (g__law_without C) (bg__law_without_2 F__law_without) (fun _ => .nil) (a_cons (j_var 2) (a_cons (j_var 3) a_nil)) k_nil (l_cons (l_cons l_nil)) l_nil (Nat.le_of_ble_eq_true rfl))) (a_cons (j_fz (j_call (ps := P__law_without) (ks := []) G__law_without F__law_without.kp (g__law_without C) (bg__law_without_2 F__law_without) (fun _ => .nil) (a_cons (j_var 3) (a_cons (j_var 2) a_nil)) k_nil (l_cons (l_cons l_nil)) l_nil (Nat.le_of_ble_eq_true rfl))) a_nil)) k_nil (l_cons (l_cons l_nil)) l_nil (Nat.le_of_ble_eq_true rfl))) (g_name 4 (hN := by exact fun _ => sc__law_part_alike.nd))) (b_cons (s_asg (j_if (t_cmp o_eq (j_var 4) (j_tup a_nil)) (j_tup (a_cons j_str a_nil)) (j_tup (a_cons j_str (a_cons (j_ix (j_ix (j_var 4) j_int) j_int) a_nil)))) (g_name 5 (hN := by exact fun _ => sc__law_part_alike.nd))) (b_cons (s_if (t_not (t_val (j_fz (j_call (ps := P__law_same) (ks := []) G__law_same F__law_same.kp (g__law_same C) (bg__law_same_2 F__law_same) (fun _ => .nil) (a_cons (j_tup (a_cons (j_fz (j_call (ps := P_judge_same) (ks := []) G_judge_same F_judge_same.kp (g_judge_same C) (bg_judge_same_2 F_judge_same) (fun _ => .nil) (a_cons (j_var 2) (a_cons (j_var 3) a_nil)) k_nil (l_cons (l_cons l_nil)) l_nil (Nat.le_of_ble_eq_true rfl))) (a_cons (j_fz (j_call0 (ps := P_judge_same) (ks := ["other", "one"]) G_judge_same F_judge_same.kp (g_judge_same C) (bg_judge_same_0_other_one F_judge_same) (fun _ => .nil) (k_cons (j_var 2) (k_cons (j_var 3) k_nil)) (l_cons (l_cons l_nil)) (Nat.le_of_ble_eq_true rfl))) a_nil))) (a_cons (j_tup (a_cons (j_var 5) (a_cons (j_var 5) a_nil))) a_nil)) k_nil (l_cons (l_cons l_nil)) l_nil (Nat.le_of_ble_eq_true rfl))))) (b_one (s_ret (j_val j_bool))) b_nil) (b_cons (s_if (t_cmp o_ne (j_cmp o_eq (j_var 5) (j_tup (a_cons j_str a_nil))) (j_cmp o_eq (j_var 2) (j_var 3))) (b_one (s_ret (j_val j_bool))) b_nil) (b_cons (s_asg (j_fz (j_lend 0 (ps := P__law_pool) (ks := []) G__law_pool F__law_pool.kp (g__law_pool C) (bg__law_pool_3 F__law_pool) (fun _ => .nil) (a_cons (j_fz (j_lst (a_cons (j_var 2) (a_cons (j_var 3) a_nil)))) (a_cons (j_var 1) a_nil)) k_nil (l_cons (l_cons l_nil)) l_nil (Nat.le_of_ble_eq_true rfl))) (g_name 6 (hN := by exact fun _ => sc__law_part_alike.nd))) (b_cons (s_lcV 7 [("version", 13)] (i_any (j_var 6)) (g_name 13 (hN := by exact fun _ => sc__law_part_alike.nd)) (ts_one (t_cmp o_ne (j_fz (j_call (ps := P__law_in) (ks := []) (by exact G__law_in) (by exact F__law_in.kp) (by exact (g__law_in C)) (by exact bg__law_in_2 F__law_in) (fun _ => .nil) (a_cons (j_var 2) (a_cons (j_var 13) a_nil)) k_nil (l_cons (l_cons l_nil)) l_nil (Nat.le_of_ble_eq_true rfl))) (j_fz (j_call (ps := P__law_in) (ks := []) (by exact G__law_in) (by exact F__law_in.kp) (by exact (g__law_in C)) (by exact bg__law_in_2 F__law_in) (fun _ => .nil) (a_cons (j_var 3) (a_cons (j_var 13) a_nil)) k_nil (l_cons (l_cons l_nil)) l_nil (Nat.le_of_ble_eq_true rfl))))) (j_var 13) (fun _ => blkOk_by (N := N__law_part_alike) (sc := defScope s__law_part_alike) (by decide +kernel)) (hN := by exact fun _ => sc__law_part_alike.nd)) (b_cons (s_if ((w_or (t_cmp o_ne (j_cmp o_eq (j_var 7) (j_fz (j_lst a_nil))) (j_cmp o_eq (j_var 4) (j_tup a_nil))) (w_or1 ((w_and (t_cmp o_ne (j_var 7) (j_fz (j_lst a_nil))) (w_and1 (t_cmp o_ne (j_fz (j_callB c_min1 (g_min C) (a_cons (j_var 7) a_nil))) (j_ix (j_ix (j_var 4) j_int) j_int))))).jt))).jt (b_one (s_ret (j_val j_bool))) b_nil) (b_cons (s_own 8 (j_lst (a_cons (j_tup (a_cons j_str a_nil)) (a_cons (j_tup (a_cons j_str a_nil)) (a_cons (j_tup (a_cons j_str (a_cons (j_fz (j_lend 0 (ps := P__law_pick) (ks := []) G__law_pick F__law_pick.kp (g__law_pick C) (bg__law_pick_2 F__law_pick) (fun _ => .nil) (a_cons (j_var 6) a_nil) k_nil (l_cons l_nil) l_nil (Nat.le_of_ble_eq_true rfl))) a_nil))) (a_cons (j_tup (a_cons j_str (a_cons (j_fz (j_lend 0 (ps := P__law_pick) (ks := []) G__law_pick F__law_pick.kp (g__law_pick C) (bg__law_pick_2 F__law_pick) (fun _ => .nil) (a_cons (j_bin o_add (j_var 7) (j_fz (j_sl (j_var 6) p_none (p_some j_int)))) a_nil) k_nil (l_cons l_nil) l_nil (Nat.le_of_ble_eq_true rfl))) a_nil))) (a_cons (j_var 5) a_nil)))))) (hN := by exact fun _ => sc__law_part_alike.nd)) (b_cons (s_expr (j_ext 8 (j_fz (j_lc [("span", 14)] (i_any (j_tup (a_cons (j_var 2) (a_cons (j_var 3) (a_cons (j_fz (j_call (ps := P__law_cut) (ks := []) G__law_cut F__law_cut.kp (g__law_cut C) (bg__law_cut_2 F__law_cut) (fun _ => .nil) (a_cons (j_var 2) (a_cons (j_var 3) a_nil)) k_nil (l_cons (l_cons l_nil)) l_nil (Nat.le_of_ble_eq_true rfl))) a_nil))))) (g_name 14 (hN := by exact fun _ => sc__law_part_alike.nd)) (ts_one (t_cmp o_ne (j_var 14) (j_tup a_nil))) (j_tup (a_cons j_str (a_cons (j_ix (j_ix (j_var 14) j_int) j_int) a_nil))) (fun _ => blkOk_by (N := N__law_part_alike) (sc := defScope s__law_part_alike) (by decide +kernel)) (hN := by exact fun _ => sc__law_part_alike.nd))))) (b_frz 8 (b_one (s_for (i_enum (a_cons (j_var 8) a_nil) (g_enumerate C)) (g_tup (gs_cons (g_name 9 (hN := by exact fun _ => sc__law_part_alike.nd)) (gs_cons (g_name 10 (hN := by exact fun _ => sc__law_part_alike.nd)) gs_nil))) (b_cons (s_asg (j_cmp o_eq (j_bin o_mod (j_fz (j_callT c_int (g_int C) (a_cons (j_var 9) a_nil))) j_int) j_int) (g_name 11 (hN := by exact fun _ => sc__law_part_alike.nd))) (b_cons (s_asg (j_if (t_val (j_var 11)) (j_fz (j_call0 (ps := P_same_holds) (ks := ["thing", "other", "one"]) G_same_holds F_same_holds.kp (g_same_holds C) (bg_same_holds_0_thing_other_one F_same_holds) (fun _ => .nil) (k_cons (j_var 10) (k_cons (j_var 3) (k_cons (j_var 2) k_nil))) (l_cons (l_cons (l_cons l_nil))) (Nat.le_of_ble_eq_true rfl))) (j_fz (j_call (ps := P_same_holds) (ks := []) G_same_holds F_same_holds.kp (g_same_holds C) (bg_same_holds_3 F_same_holds) (fun _ => .nil) (a_cons (j_var 2) (a_cons (j_var 3) (a_cons (j_var 10) a_nil))) k_nil (l_cons (l_cons (l_cons l_nil))) l_nil (Nat.le_of_ble_eq_true rfl)))) (g_name 12 (hN := by exact fun _ => sc__law_part_alike.nd))) (b_one (s_if (t_not (t_val (j_fz (j_call (ps := P__law_same) (ks := []) G__law_same F__law_same.kp (g__law_same C) (bg__law_same_2 F__law_same) (fun _ => .nil) (a_cons (j_var 12) (a_cons (j_cmp o_eq (j_var 10) (j_var 5)) a_nil)) k_nil (l_cons (l_cons l_nil)) l_nil (Nat.le_of_ble_eq_true rfl))))) (b_one (s_ret (j_val j_bool))) b_nil))))))))))))))))) (b_one (s_ret (j_val j_bool)))))⟩
def mb_law_1 : MS := (mIf (mTAnd (mTest (mBin gEq (mVar 4) (mC (.int 0)))) (mTNot (mTest (mFz (mLend 1 mf__law_part_within [] [] mNil mNil))))) (mRet (mVal (mC (.bool false)))) mNx)
def mb_law_2 : MS := (mIf (mTAnd (mTest (mBin gEq (mVar 4) (mC (.int 1)))) (mTNot (mTest (mFz (mLend 1 mf__law_part_alike [] [] mNil mNil))))) (mRet (mVal (mC (.bool false)))) mNx)
def mb_law_3 : MS := (mFor (mR1 (mCons (mC (.int 2)) mNil)) (mN 3) (mSeq (mAsg (mBin gMod (mFz (mCB gInt (mCons (mBin gAdd (mVar 2) (mVar 3)) mNil))) (mC (.int 2))) (mN 4)) (mSeq mb_law_1 mb_law_2)))
def mb_law : MS := (mSeq (mOwn (mScr 0 mf__law_deck) 1) (mSeq (mAsg (mFz (mLend 1 mf__law_draw [0] [] (mCons (mC (.int 2)) mNil) mNil)) (mN 2)) (mSeq mb_law_3 (mRet (mVal (mC (.bool true)))))))
def mf_law : MF := mFn 5 mb_law
theorem ok_law (C : Cc K mg) : ∃ fd, FnP K "law" s_law (He.ga K "law") fd ∧ FnG P w K mg base 43 (He.ga K "law") fd P_law mf_law := by
  obtain ⟨fd, F⟩ := C.says.def_ 40 (d := d_law) rfl
  obtain ⟨fd__law_deck, F__law_deck, G__law_deck⟩ := ok__law_deck (P := P) (w := w) (base := base) C
  obtain ⟨fd__law_draw, F__law_draw, G__law_draw⟩ := ok__law_draw (P := P) (w := w) (base := base) C
  obtain ⟨fd__law_part_alike, F__law_part_alike, G__law_part_alike⟩ := ok__law_part_alike (P := P) (w := w) (base := base) C
  obtain ⟨fd__law_part_within, F__law_part_within, G__law_part_within⟩ := ok__law_part_within (P := P) (w := w) (base := base) C
  exact ⟨fd, F, fnG_of F sc_law fun cdv A outer s H hr hg => (b_cons (s_own 1 (j_scr 0 G__law_deck F__law_deck.kp (g__law_deck C) (bg__law_deck_1 F__law_deck) (Nat.le_of_ble_eq_true rfl)) (hN := by exact fun _ => sc_law.nd)) (b_cons (s_asg (j_fz (j_lend 1 (ps := P__law_draw) (ks := []) G__law_draw F__law_draw.kp (g__law_draw C) (bg__law_draw_2 F__law_draw) (fun _ => .nil) (a_cons j_int a_nil) k_nil (l_cons l_nil) l_nil (Nat.le_of_ble_eq_true rfl))) (g_name 2 (hN := by exact fun _ => sc_law.nd))) (b_cons (s_for (i_range1 (a_cons j_int a_nil) (g_range C)) (g_name 3 (hN := by exact fun _ => sc_law.nd)) (b_cons (s_asg (j_bin o_mod (j_fz (j_callT c_int (g_int C) (a_cons (j_bin o_add (j_var 2) (j_var 3)) a_nil))) j_int) (g_name 4 (hN := by exact fun _ => sc_law.nd))) (b_cons (s_if ((w_and (t_cmp o_eq (j_var 4) j_int) (w_and1 (t_not (t_val (j_fz (j_lend 1 (ps := P__law_part_within) (ks := []) G__law_part_within F__law_part_within.kp (g__law_part_within C) (bg__law_part_within_1 F__law_part_within) (fun _ => .nil) a_nil k_nil l_nil l_nil (Nat.le_of_ble_eq_true rfl)))))))).jt (b_one (s_ret (j_val j_bool))) b_nil) (b_one (s_if ((w_and (t_cmp o_eq (j_var 4) j_int) (w_and1 (t_not (t_val (j_fz (j_lend 1 (ps := P__law_part_alike) (ks := []) G__law_part_alike F__law_part_alike.kp (g__law_part_alike C) (bg__law_part_alike_1 F__law_part_alike) (fun _ => .nil) a_nil k_nil l_nil l_nil (Nat.le_of_ble_eq_true rfl)))))))).jt (b_one (s_ret (j_val j_bool))) b_nil))))) (b_one (s_ret (j_val j_bool))))))⟩
end
abbrev R : PySem.W.OpenRow := PySem.W.OpenLaw.row PySem.Challenge.rw_facejudge_k08_whole_ranges_within_others
abbrev hk : PySem.W.Hook := Fj.hookC 4 fa fn cs
def ob (s : PySem.W.SharedT) : Fj.AlC := Fj.obsCG 4 fa fn cs (HandSHeadRun.getT s)
theorem ob_eq (s : PySem.W.SharedT) : ob s = hk.obs s.abs := Fj.obsCG_eq (HandSHeadRun.getT_eq s)
def names : List Str := (["VersionError", "BadRange", "is_integer", "WHOLE", "is_version_value", "is_pair_of_ends", "is_range_value", "need_range", "is_in", "borders_of", "range_by", "combined", "joined_of", "without_of", "least_of", "need_two"] : List Str) ++ (["paper_for", "is_paper_for", "unlike", "judge_within", "within_holds", "judge_same", "same_holds", "_law_deck", "_law_draw", "_law_pick", "_law_same", "_law_mixed", "_law_number", "_law_version", "_law_versions", "_law_next"] : List Str) ++ (["_law_range", "_law_in", "_law_borders", "_law_made", "_law_joined", "_law_cut", "_law_without", "_law_pool", "_law_span_pairs", "_law_part_within", "_law_part_alike"] : List Str)
theorem run (w : World) : HandSHeadRun.RunEq R (PySem.W.view R.prog [49]) hk ob 3400 names w := by
  intro os
  kernel_rfl
theorem facts {P : Program} {w : World} {K : PySem.W.Frag} {h : Heap} {mg : Str → Option Value} {f : Addr} (X : K.In h) (G : h.Ns mainGlobals mg) (hfa : mg ("law" : Str) = some (.ref f)) (c : SaysC fa fn cs K) :
    ∃ fd : FuncData, (∀ (s : Shared) (v : Value), BindsTo s fd ⟨[v], []⟩ [("script", v)]) ∧ ∀ base : Heap, FnG P w K mg base 43 f fd ["script"] mf_law := by
  have C : Cc K mg := ⟨c, h, X, G⟩
  obtain ⟨fd, F⟩ := c.d.def_ 40 (d := d_law) rfl
  have e := hfa.symm.trans (g_law C)
  cases e
  have b := FunD.bindsA (ps := ["script"]) F fun _ _ _ _ _ _ us hl => match us, hl with | [_], _ => rfl
  refine ⟨fd, fun s v => b s [v] rfl, fun base => ?_⟩
  obtain ⟨fd2, F2, G2⟩ := ok_law (P := P) (w := w) (base := base) C
  have e : fd2 = fd := FunD.same F2 F
  subst e
  exact G2
end
end L_k08

set_option maxRecDepth 100000
set_option maxHeartbeats 0
set_option linter.all false
set_option linter.unusedSimpArgs false
namespace L_k08
open PySem PySem.Spec PyProof.Rows L2 Fj
theorem draw_ok : DrawS 0 mf__law_draw := by
  intro n l m t below hd hn hb hb2
  obtain ⟨h1, h2, h3, h4, h5⟩ := hd
  have ml : (if below > 2 then below else 2) < 2 ^ 120 ∧ 0 < (if below > 2 then below else 2) := by split <;> omega
  rcases List.eq_nil_or_concat l with rfl | ⟨l1, x, rfl⟩
  · simp (config := {maxSteps := 1000000}) only [mf__law_draw, mb__law_draw, mb__law_draw_2, mb__law_draw_1, Fj.wp0, Fj.wp1, Fj.wp2, Fj.wp3, Fj.wp4, Fj.wp5, Fj.wp6, Fj.wp7, Fj.wp8, Fj.wp9, Fj.wp10, Fj.wp11, Fj.wp12, Fj.wp13, Fj.wp14, Fj.wp15, Fj.wp16, Fj.wp17, Fj.wp18, Fj.wp19, Fj.wp20, Fj.wp21, Fj.tyN, Int.reduceEq, Int.reduceLT, Int.reduceLE, Int.reduceAdd, Int.reduceSub, Int.reduceMul, Int.reduceNeg, Int.reducePow, Int.reduceToNat, Int.reduceMod, Int.reduceDiv, Int.reduceNe, Nat.reduceEqDiff, Nat.reduceMul, borOk, dkAll, dkKept, nlD, nlAll, id, frz, freeE, outsE, pick, merE, wipeE, Nat.reduceAdd, Nat.reduceSub, Nat.reduceLeDiff, Nat.reduceLT, reduceCtorEq, if_true, if_false, eq_self, forall_const]
    repeat' first
      | exact mulCi (by omega) (by omega) (by omega) (by omega)
      | exact divCi (by omega) (by omega)
      | exact dk_end hb ⟨by omega, by omega, by omega, by omega, by simp⟩
      | omega
      | refine And.intro ?_ ?_
  · have h6 : l1.length + 1 ≤ 63 := by simpa using h5
    have e1 : (l1 ++ [x]).isEmpty = false := by simp
    simp (config := {maxSteps := 1000000}) only [mf__law_draw, mb__law_draw, mb__law_draw_2, mb__law_draw_1, List.concat_eq_append, List.getLast?_concat, List.dropLast_concat, e1, Fj.wp0, Fj.wp1, Fj.wp2, Fj.wp3, Fj.wp4, Fj.wp5, Fj.wp6, Fj.wp7, Fj.wp8, Fj.wp9, Fj.wp10, Fj.wp11, Fj.wp12, Fj.wp13, Fj.wp14, Fj.wp15, Fj.wp16, Fj.wp17, Fj.wp18, Fj.wp19, Fj.wp20, Fj.wp21, Fj.tyN, Int.reduceEq, Int.reduceLT, Int.reduceLE, Int.reduceAdd, Int.reduceSub, Int.reduceMul, Int.reduceNeg, Int.reducePow, Int.reduceToNat, Int.reduceMod, Int.reduceDiv, Int.reduceNe, Nat.reduceEqDiff, Nat.reduceMul, borOk, dkAll, dkKept, nlD, nlAll, id, frz, freeE, outsE, pick, merE, wipeE, Nat.reduceAdd, Nat.reduceSub, Nat.reduceLeDiff, Nat.reduceLT, reduceCtorEq, if_true, if_false, eq_self, forall_const]
    repeat' first
      | exact mulCi (by omega) (by omega) (by omega) (by omega)
      | exact divCi (by omega) (by omega)
      | exact divCi ml.2 ml.1
      | exact dk_end hb ⟨by omega, by omega, by omega, by omega, by first | omega | (simp; omega)⟩
      | decide
      | (refine IfB.mk (fun _ => ?_) (fun _ => ?_) <;> simp (config := {maxSteps := 1000000}) only [Fj.wp0, Fj.wp1, Fj.wp2, Fj.wp3, Fj.wp4, Fj.wp5, Fj.wp6, Fj.wp7, Fj.wp8, Fj.wp9, Fj.wp10, Fj.wp11, Fj.wp12, Fj.wp13, Fj.wp14, Fj.wp15, Fj.wp16, Fj.wp17, Fj.wp18, Fj.wp19, Fj.wp20, Fj.wp21, Fj.tyN, Int.reduceEq, Int.reduceLT, Int.reduceLE, Int.reduceAdd, Int.reduceSub, Int.reduceMul, Int.reduceNeg, Int.reducePow, Int.reduceToNat, Int.reduceMod, Int.reduceDiv, Int.reduceNe, Nat.reduceEqDiff, Nat.reduceMul, borOk, dkAll, dkKept, nlD, nlAll, id, frz, freeE, outsE, pick, merE, wipeE, Nat.reduceAdd, Nat.reduceSub, Nat.reduceLeDiff, Nat.reduceLT, reduceCtorEq, if_true, if_false, eq_self, forall_const])
      | refine And.intro ?_ ?_
      | omega
theorem pick_ok : PickS 0 mf__law_pick := by
  intro n l m t ds hd hn hne hlen
  have hl : 0 < ds.length := List.length_pos_iff.mpr hne
  simp (config := {maxSteps := 1000000}) only [mf__law_pick, mb__law_pick, Fj.wp0, Fj.wp1, Fj.wp2, Fj.wp3, Fj.wp4, Fj.wp5, Fj.wp6, Fj.wp7, Fj.wp8, Fj.wp9, Fj.wp10, Fj.wp11, Fj.wp12, Fj.wp13, Fj.wp14, Fj.wp15, Fj.wp16, Fj.wp17, Fj.wp18, Fj.wp19, Fj.wp20, Fj.wp21, Fj.tyN, Int.reduceEq, Int.reduceLT, Int.reduceLE, Int.reduceAdd, Int.reduceSub, Int.reduceMul, Int.reduceNeg, Int.reducePow, Int.reduceToNat, Int.reduceMod, Int.reduceDiv, Int.reduceNe, Nat.reduceEqDiff, Nat.reduceMul, borOk, dkAll, dkKept, nlD, nlAll, id, frz, freeE, outsE, pick, merE, wipeE, Nat.reduceAdd, Nat.reduceSub, Nat.reduceLeDiff, Nat.reduceLT, reduceCtorEq, if_true, if_false, eq_self, forall_const]
  refine (draw_ok n l m t ds.length hd hn (by omega) (by omega)).mono ?_
  rintro _ _ ⟨r, l', m', t', o, rfl, h1, h2, rfl, h3⟩
  obtain ⟨d, e, hm, _⟩ := atI_mem h1 h2
  simp (config := {maxSteps := 1000000}) only [e, Fj.wp0, Fj.wp1, Fj.wp2, Fj.wp3, Fj.wp4, Fj.wp5, Fj.wp6, Fj.wp7, Fj.wp8, Fj.wp9, Fj.wp10, Fj.wp11, Fj.wp12, Fj.wp13, Fj.wp14, Fj.wp15, Fj.wp16, Fj.wp17, Fj.wp18, Fj.wp19, Fj.wp20, Fj.wp21, Fj.tyN, Int.reduceEq, Int.reduceLT, Int.reduceLE, Int.reduceAdd, Int.reduceSub, Int.reduceMul, Int.reduceNeg, Int.reducePow, Int.reduceToNat, Int.reduceMod, Int.reduceDiv, Int.reduceNe, Nat.reduceEqDiff, Nat.reduceMul, borOk, dkAll, dkKept, nlD, nlAll, id, frz, freeE, outsE, pick, merE, wipeE, Nat.reduceAdd, Nat.reduceSub, Nat.reduceLeDiff, Nat.reduceLT, reduceCtorEq, if_true, if_false, eq_self, forall_const]
  exact ⟨d, l', m', t', [Ent.no], hm, rfl, rfl, h3⟩
theorem deck_ok : DeckS 0 mf__law_deck := by
  intro ns hn
  have hl : (ns.map PyData.int).length ≤ 63 := by rw [List.length_map]; exact hn
  have hc := cut63 hl
  simp (config := {maxSteps := 1000000}) only [mf__law_deck, mb__law_deck, mb__law_deck_1, hc, Fj.wp0, Fj.wp1, Fj.wp2, Fj.wp3, Fj.wp4, Fj.wp5, Fj.wp6, Fj.wp7, Fj.wp8, Fj.wp9, Fj.wp10, Fj.wp11, Fj.wp12, Fj.wp13, Fj.wp14, Fj.wp15, Fj.wp16, Fj.wp17, Fj.wp18, Fj.wp19, Fj.wp20, Fj.wp21, Fj.tyN, Int.reduceEq, Int.reduceLT, Int.reduceLE, Int.reduceAdd, Int.reduceSub, Int.reduceMul, Int.reduceNeg, Int.reducePow, Int.reduceToNat, Int.reduceMod, Int.reduceDiv, Int.reduceNe, Nat.reduceEqDiff, Nat.reduceMul, borOk, dkAll, dkKept, nlD, nlAll, id, frz, freeE, outsE, pick, merE, wipeE, Nat.reduceAdd, Nat.reduceSub, Nat.reduceLeDiff, Nat.reduceLT, reduceCtorEq, if_true, if_false, eq_self, forall_const]
  refine w_forL (fun ds ρ => (∃ js : List Int, ds = js.map .int) ∧ ∃ m e, 0 ≤ m ∧ m < 2147483647 ∧ pinE e = false ∧ ρ = [.scr ns, .val (.int m), e]) ?_ ?_ _ _ ⟨⟨ns, rfl⟩, _, _, by decide, by decide, rfl, rfl⟩
  · rintro d ds ρ ⟨⟨js, e⟩, m, e2, h1, h2, h3, rfl⟩
    cases js with
    | nil => cases e
    | cons j js =>
      cases e
      simp (config := {maxSteps := 1000000}) only [h3, Fj.wp0, Fj.wp1, Fj.wp2, Fj.wp3, Fj.wp4, Fj.wp5, Fj.wp6, Fj.wp7, Fj.wp8, Fj.wp9, Fj.wp10, Fj.wp11, Fj.wp12, Fj.wp13, Fj.wp14, Fj.wp15, Fj.wp16, Fj.wp17, Fj.wp18, Fj.wp19, Fj.wp20, Fj.wp21, Fj.tyN, Int.reduceEq, Int.reduceLT, Int.reduceLE, Int.reduceAdd, Int.reduceSub, Int.reduceMul, Int.reduceNeg, Int.reducePow, Int.reduceToNat, Int.reduceMod, Int.reduceDiv, Int.reduceNe, Nat.reduceEqDiff, Nat.reduceMul, borOk, dkAll, dkKept, nlD, nlAll, id, frz, freeE, outsE, pick, merE, wipeE, Nat.reduceAdd, Nat.reduceSub, Nat.reduceLeDiff, Nat.reduceLT, reduceCtorEq, if_true, if_false, eq_self, forall_const]
      refine ⟨mulCi (by omega) (by omega) (by omega) (by omega), ⟨js, rfl⟩, _, _, Int.emod_nonneg _ (by decide), Int.emod_lt_of_pos _ (by decide), rfl, rfl⟩
  · rintro ρ ⟨-, m, e2, h1, h2, h3, rfl⟩
    simp (config := {maxSteps := 1000000}) only [hc, h3, lc__law_deck_2, Fj.wp0, Fj.wp1, Fj.wp2, Fj.wp3, Fj.wp4, Fj.wp5, Fj.wp6, Fj.wp7, Fj.wp8, Fj.wp9, Fj.wp10, Fj.wp11, Fj.wp12, Fj.wp13, Fj.wp14, Fj.wp15, Fj.wp16, Fj.wp17, Fj.wp18, Fj.wp19, Fj.wp20, Fj.wp21, Fj.tyN, Int.reduceEq, Int.reduceLT, Int.reduceLE, Int.reduceAdd, Int.reduceSub, Int.reduceMul, Int.reduceNeg, Int.reducePow, Int.reduceToNat, Int.reduceMod, Int.reduceDiv, Int.reduceNe, Nat.reduceEqDiff, Nat.reduceMul, borOk, dkAll, dkKept, nlD, nlAll, id, frz, freeE, outsE, pick, merE, wipeE, Nat.reduceAdd, Nat.reduceSub, Nat.reduceLeDiff, Nat.reduceLT, reduceCtorEq, if_true, if_false, eq_self, forall_const]
    refine w_lcL (fun ds acc ρ => (∃ js : List Int, ds = js.map .int) ∧ (∃ ks : List Int, acc = ks.map .int) ∧ acc.length + ds.length ≤ 63 ∧ ρ = [.scr ns, .val (.int m), .no]) ?_ ?_ _ _ _ ⟨⟨ns, rfl⟩, ⟨[], rfl⟩, by simpa using hn, rfl⟩
    · rintro d ds acc ρ ⟨⟨js, e⟩, ⟨ks, rfl⟩, h4, rfl⟩
      cases js with
      | nil => cases e
      | cons j js =>
        cases e
        have h5 : ks.length + (js.length + 1) ≤ 63 := by simpa using h4
        simp (config := {maxSteps := 1000000}) only [Fj.wp0, Fj.wp1, Fj.wp2, Fj.wp3, Fj.wp4, Fj.wp5, Fj.wp6, Fj.wp7, Fj.wp8, Fj.wp9, Fj.wp10, Fj.wp11, Fj.wp12, Fj.wp13, Fj.wp14, Fj.wp15, Fj.wp16, Fj.wp17, Fj.wp18, Fj.wp19, Fj.wp20, Fj.wp21, Fj.tyN, Int.reduceEq, Int.reduceLT, Int.reduceLE, Int.reduceAdd, Int.reduceSub, Int.reduceMul, Int.reduceNeg, Int.reducePow, Int.reduceToNat, Int.reduceMod, Int.reduceDiv, Int.reduceNe, Nat.reduceEqDiff, Nat.reduceMul, borOk, dkAll, dkKept, nlD, nlAll, id, frz, freeE, outsE, pick, merE, wipeE, Nat.reduceAdd, Nat.reduceSub, Nat.reduceLeDiff, Nat.reduceLT, reduceCtorEq, if_true, if_false, eq_self, forall_const]
        exact ⟨by rw [List.length_map]; omega, ⟨js, rfl⟩, ⟨ks ++ [j], by simp⟩, by simp; omega⟩
    · rintro acc ρ ⟨-, ⟨ks, rfl⟩, h4, rfl⟩
      have h5 : ks.length ≤ 63 := by simpa using h4
      simp (config := {maxSteps := 1000000}) only [← List.map_reverse, Fj.wp0, Fj.wp1, Fj.wp2, Fj.wp3, Fj.wp4, Fj.wp5, Fj.wp6, Fj.wp7, Fj.wp8, Fj.wp9, Fj.wp10, Fj.wp11, Fj.wp12, Fj.wp13, Fj.wp14, Fj.wp15, Fj.wp16, Fj.wp17, Fj.wp18, Fj.wp19, Fj.wp20, Fj.wp21, Fj.tyN, Int.reduceEq, Int.reduceLT, Int.reduceLE, Int.reduceAdd, Int.reduceSub, Int.reduceMul, Int.reduceNeg, Int.reducePow, Int.reduceToNat, Int.reduceMod, Int.reduceDiv, Int.reduceNe, Nat.reduceEqDiff, Nat.reduceMul, borOk, dkAll, dkKept, nlD, nlAll, id, frz, freeE, outsE, pick, merE, wipeE, Nat.reduceAdd, Nat.reduceSub, Nat.reduceLeDiff, Nat.reduceLT, reduceCtorEq, if_true, if_false, eq_self, forall_const]
      exact ⟨_, _, _, rfl, h1, by omega, by decide, by decide, by rw [List.length_reverse]; exact h5⟩
abbrev vt (a b c k n : Int) : PyData := .tuple [.int a, .int b, .int c, .int k, .int n]
structure Vok (B a b c k n : Int) : Prop where
  a0 : 0 ≤ a
  a1 : a < B
  b0 : 0 ≤ b
  b1 : b < B
  c0 : 0 ≤ c
  c1 : c < B
  k0 : 0 ≤ k
  k3 : k ≤ 3
  n0 : 0 ≤ n
  n1 : n < B
  w : k = 3 → n = 0
def Ver (B : Int) (d : PyData) : Prop := ∃ a b c k n, d = vt a b c k n ∧ Vok B a b c k n
theorem Vok.up {B B' a b c k n : Int} (h : Vok B a b c k n) (hb : B ≤ B') : Vok B' a b c k n := by
  obtain ⟨h1, h2, h3, h4, h5, h6, h7, h8, h9, h10, h11⟩ := h
  exact ⟨h1, by omega, h3, by omega, h5, by omega, h7, h8, h9, by omega, h11⟩
theorem Ver.up {B B' : Int} {d : PyData} (h : Ver B d) (hb : B ≤ B') : Ver B' d := by
  obtain ⟨a, b, c, k, n, e, v⟩ := h
  exact ⟨a, b, c, k, n, e, v.up hb⟩
theorem law_next_eq (a b c k n : Int) : mf__law_next [.val (vt a b c k n)] = some (.val (if k < 3 then vt a b c k (n + 1) else vt a b (c + 1) 0 0), [.no]) := by
  refine W_eq ?_
  simp (config := {maxSteps := 1000000}) only [mf__law_next, mb__law_next, mb__law_next_1, Fj.wp0, Fj.wp1, Fj.wp2, Fj.wp3, Fj.wp4, Fj.wp5, Fj.wp6, Fj.wp7, Fj.wp8, Fj.wp9, Fj.wp10, Fj.wp11, Fj.wp12, Fj.wp13, Fj.wp14, Fj.wp15, Fj.wp16, Fj.wp17, Fj.wp18, Fj.wp19, Fj.wp20, Fj.wp21, Fj.tyN, Int.reduceEq, Int.reduceLT, Int.reduceLE, Int.reduceAdd, Int.reduceSub, Int.reduceMul, Int.reduceNeg, Int.reducePow, Int.reduceToNat, Int.reduceMod, Int.reduceDiv, Int.reduceNe, Nat.reduceEqDiff, Nat.reduceMul, borOk, dkAll, dkKept, nlD, nlAll, id, frz, freeE, outsE, pick, merE, wipeE, Nat.reduceAdd, Nat.reduceSub, Nat.reduceLeDiff, Nat.reduceLT, reduceCtorEq, if_true, if_false, eq_self, forall_const]
  refine IfB.mk (fun h => ?_) (fun h => ?_)
  · have h := of_decide_eq_true h
    simp (config := {maxSteps := 1000000}) only [if_pos h, Fj.wp0, Fj.wp1, Fj.wp2, Fj.wp3, Fj.wp4, Fj.wp5, Fj.wp6, Fj.wp7, Fj.wp8, Fj.wp9, Fj.wp10, Fj.wp11, Fj.wp12, Fj.wp13, Fj.wp14, Fj.wp15, Fj.wp16, Fj.wp17, Fj.wp18, Fj.wp19, Fj.wp20, Fj.wp21, Fj.tyN, Int.reduceEq, Int.reduceLT, Int.reduceLE, Int.reduceAdd, Int.reduceSub, Int.reduceMul, Int.reduceNeg, Int.reducePow, Int.reduceToNat, Int.reduceMod, Int.reduceDiv, Int.reduceNe, Nat.reduceEqDiff, Nat.reduceMul, borOk, dkAll, dkKept, nlD, nlAll, id, frz, freeE, outsE, pick, merE, wipeE, Nat.reduceAdd, Nat.reduceSub, Nat.reduceLeDiff, Nat.reduceLT, reduceCtorEq, if_true, if_false, eq_self, forall_const]
  · have h := of_decide_eq_false h
    simp (config := {maxSteps := 1000000}) only [if_neg h, Fj.wp0, Fj.wp1, Fj.wp2, Fj.wp3, Fj.wp4, Fj.wp5, Fj.wp6, Fj.wp7, Fj.wp8, Fj.wp9, Fj.wp10, Fj.wp11, Fj.wp12, Fj.wp13, Fj.wp14, Fj.wp15, Fj.wp16, Fj.wp17, Fj.wp18, Fj.wp19, Fj.wp20, Fj.wp21, Fj.tyN, Int.reduceEq, Int.reduceLT, Int.reduceLE, Int.reduceAdd, Int.reduceSub, Int.reduceMul, Int.reduceNeg, Int.reducePow, Int.reduceToNat, Int.reduceMod, Int.reduceDiv, Int.reduceNe, Nat.reduceEqDiff, Nat.reduceMul, borOk, dkAll, dkKept, nlD, nlAll, id, frz, freeE, outsE, pick, merE, wipeE, Nat.reduceAdd, Nat.reduceSub, Nat.reduceLeDiff, Nat.reduceLT, reduceCtorEq, if_true, if_false, eq_self, forall_const]
theorem iv_eq {B a b c k n : Int} (v : Vok B a b c k n) : mf_is_version_value [.val (vt a b c k n)] = some (.val (.bool true), [.no]) := by
  refine W_eq ?_
  have ii : ∀ i, mf_is_integer [.val (.int i)] = some (.val (.bool true), [.no]) := fun i => by
    refine W_eq ?_
    simp (config := {maxSteps := 1000000}) only [mf_is_integer, mb_is_integer, Fj.wp0, Fj.wp1, Fj.wp2, Fj.wp3, Fj.wp4, Fj.wp5, Fj.wp6, Fj.wp7, Fj.wp8, Fj.wp9, Fj.wp10, Fj.wp11, Fj.wp12, Fj.wp13, Fj.wp14, Fj.wp15, Fj.wp16, Fj.wp17, Fj.wp18, Fj.wp19, Fj.wp20, Fj.wp21, Fj.tyN, Int.reduceEq, Int.reduceLT, Int.reduceLE, Int.reduceAdd, Int.reduceSub, Int.reduceMul, Int.reduceNeg, Int.reducePow, Int.reduceToNat, Int.reduceMod, Int.reduceDiv, Int.reduceNe, Nat.reduceEqDiff, Nat.reduceMul, borOk, dkAll, dkKept, nlD, nlAll, id, frz, freeE, outsE, pick, merE, wipeE, Nat.reduceAdd, Nat.reduceSub, Nat.reduceLeDiff, Nat.reduceLT, reduceCtorEq, if_true, if_false, eq_self, forall_const]
  simp (config := {maxSteps := 1000000}) only [mf_is_version_value, mb_is_version_value, mb_is_version_value_2, lc_is_version_value_1, Fj.w_lcNil, Fj.w_lcCons, ii, decide_eq_true v.a0, decide_eq_true v.b0, decide_eq_true v.c0, decide_eq_true v.k0, decide_eq_true v.n0, Fj.wp0, Fj.wp1, Fj.wp2, Fj.wp3, Fj.wp4, Fj.wp5, Fj.wp6, Fj.wp7, Fj.wp8, Fj.wp9, Fj.wp10, Fj.wp11, Fj.wp12, Fj.wp13, Fj.wp14, Fj.wp15, Fj.wp16, Fj.wp17, Fj.wp18, Fj.wp19, Fj.wp20, Fj.wp21, Fj.tyN, Int.reduceEq, Int.reduceLT, Int.reduceLE, Int.reduceAdd, Int.reduceSub, Int.reduceMul, Int.reduceNeg, Int.reducePow, Int.reduceToNat, Int.reduceMod, Int.reduceDiv, Int.reduceNe, Nat.reduceEqDiff, Nat.reduceMul, borOk, dkAll, dkKept, nlD, nlAll, id, frz, freeE, outsE, pick, merE, wipeE, Nat.reduceAdd, Nat.reduceSub, Nat.reduceLeDiff, Nat.reduceLT, reduceCtorEq, if_true, if_false, eq_self, forall_const]
  refine IfB.mk (fun h => ⟨rfl, rfl⟩) fun h => ?_
  have e3 : k = 3 := by have := of_decide_eq_false h; have := v.k3; omega
  simp (config := {maxSteps := 1000000}) only [e3, v.w e3, Fj.wp0, Fj.wp1, Fj.wp2, Fj.wp3, Fj.wp4, Fj.wp5, Fj.wp6, Fj.wp7, Fj.wp8, Fj.wp9, Fj.wp10, Fj.wp11, Fj.wp12, Fj.wp13, Fj.wp14, Fj.wp15, Fj.wp16, Fj.wp17, Fj.wp18, Fj.wp19, Fj.wp20, Fj.wp21, Fj.tyN, Int.reduceEq, Int.reduceLT, Int.reduceLE, Int.reduceAdd, Int.reduceSub, Int.reduceMul, Int.reduceNeg, Int.reducePow, Int.reduceToNat, Int.reduceMod, Int.reduceDiv, Int.reduceNe, Nat.reduceEqDiff, Nat.reduceMul, borOk, dkAll, dkKept, nlD, nlAll, id, frz, freeE, outsE, pick, merE, wipeE, Nat.reduceAdd, Nat.reduceSub, Nat.reduceLeDiff, Nat.reduceLT, reduceCtorEq, if_true, if_false, eq_self, forall_const]
theorem number_ok (n : Nat) (l : List Int) (m t : Int) (h : DkOk n l m t) (hn : n < 2 ^ 60) : W (mf__law_number [.own false (.deck 0 l m t)]) fun e outs => ∃ r l' m' t' o, e = .val (.int r) ∧ 0 ≤ r ∧ r < 1000000000 ∧ outs = .own false (.deck 0 l' m' t') :: o ∧ DkOk (n + 2) l' m' t' := by
  simp (config := {maxSteps := 1000000}) only [mf__law_number, mb__law_number, Fj.wp0, Fj.wp1, Fj.wp2, Fj.wp3, Fj.wp4, Fj.wp5, Fj.wp6, Fj.wp7, Fj.wp8, Fj.wp9, Fj.wp10, Fj.wp11, Fj.wp12, Fj.wp13, Fj.wp14, Fj.wp15, Fj.wp16, Fj.wp17, Fj.wp18, Fj.wp19, Fj.wp20, Fj.wp21, Fj.tyN, Int.reduceEq, Int.reduceLT, Int.reduceLE, Int.reduceAdd, Int.reduceSub, Int.reduceMul, Int.reduceNeg, Int.reducePow, Int.reduceToNat, Int.reduceMod, Int.reduceDiv, Int.reduceNe, Nat.reduceEqDiff, Nat.reduceMul, borOk, dkAll, dkKept, nlD, nlAll, id, frz, freeE, outsE, pick, merE, wipeE, Nat.reduceAdd, Nat.reduceSub, Nat.reduceLeDiff, Nat.reduceLT, reduceCtorEq, if_true, if_false, eq_self, forall_const]
  refine ⟨by decide, by decide, ?_⟩
  refine (draw_ok n l m t 1000000 h (by omega) (by decide) (by decide)).mono ?_
  rintro _ _ ⟨r, l', m', t', o, rfl, h1, h2, rfl, h3⟩
  simp (config := {maxSteps := 1000000}) only [Fj.wp0, Fj.wp1, Fj.wp2, Fj.wp3, Fj.wp4, Fj.wp5, Fj.wp6, Fj.wp7, Fj.wp8, Fj.wp9, Fj.wp10, Fj.wp11, Fj.wp12, Fj.wp13, Fj.wp14, Fj.wp15, Fj.wp16, Fj.wp17, Fj.wp18, Fj.wp19, Fj.wp20, Fj.wp21, Fj.tyN, Int.reduceEq, Int.reduceLT, Int.reduceLE, Int.reduceAdd, Int.reduceSub, Int.reduceMul, Int.reduceNeg, Int.reducePow, Int.reduceToNat, Int.reduceMod, Int.reduceDiv, Int.reduceNe, Nat.reduceEqDiff, Nat.reduceMul, borOk, dkAll, dkKept, nlD, nlAll, id, frz, freeE, outsE, pick, merE, wipeE, Nat.reduceAdd, Nat.reduceSub, Nat.reduceLeDiff, Nat.reduceLT, reduceCtorEq, if_true, if_false, eq_self, forall_const]
  refine (pick_ok (n + 1) l' m' t' _ h3 (by omega) (by simp) (by simp)).mono ?_
  rintro _ _ ⟨d, l2, m2, t2, o2, hd, rfl, rfl, h4⟩
  have hr : ∃ r2, d = .int r2 ∧ 0 ≤ r2 ∧ r2 < 1000000000 := by
    simp only [List.mem_cons, List.not_mem_nil, or_false] at hd
    rcases hd with rfl | rfl | rfl | rfl | rfl | rfl | rfl | rfl | rfl | rfl | rfl | rfl | rfl <;> exact ⟨_, rfl, by omega, by omega⟩
  obtain ⟨r2, rfl, h5, h6⟩ := hr
  simp (config := {maxSteps := 1000000}) only [Fj.wp0, Fj.wp1, Fj.wp2, Fj.wp3, Fj.wp4, Fj.wp5, Fj.wp6, Fj.wp7, Fj.wp8, Fj.wp9, Fj.wp10, Fj.wp11, Fj.wp12, Fj.wp13, Fj.wp14, Fj.wp15, Fj.wp16, Fj.wp17, Fj.wp18, Fj.wp19, Fj.wp20, Fj.wp21, Fj.tyN, Int.reduceEq, Int.reduceLT, Int.reduceLE, Int.reduceAdd, Int.reduceSub, Int.reduceMul, Int.reduceNeg, Int.reducePow, Int.reduceToNat, Int.reduceMod, Int.reduceDiv, Int.reduceNe, Nat.reduceEqDiff, Nat.reduceMul, borOk, dkAll, dkKept, nlD, nlAll, id, frz, freeE, outsE, pick, merE, wipeE, Nat.reduceAdd, Nat.reduceSub, Nat.reduceLeDiff, Nat.reduceLT, reduceCtorEq, if_true, if_false, eq_self, forall_const]
  exact ⟨r2, l2, m2, t2, [], rfl, h5, h6, rfl, h4⟩
theorem shaped_vers {B : Int} : ∀ {ds : List PyData}, (∀ d ∈ ds, Ver B d) → PyData.canLayAll0 ds = true ∧ PyData.depthAll ds ≤ 1
  | [], _ => ⟨rfl, Nat.zero_le _⟩
  | d :: ds, h => by
    obtain ⟨h1, h2⟩ := shaped_vers (ds := ds) fun x hx => h x (List.mem_cons_of_mem _ hx)
    obtain ⟨a, b, c, k, n, rfl, _⟩ := h d (List.mem_cons_self ..)
    refine ⟨?_, ?_⟩
    · unfold PyData.canLayAll0
      rw [h1]
      simp [PyData.canLay0, PyData.canLayAll0]
    · unfold PyData.depthAll
      simp [PyData.depth, PyData.depthAll]
      omega
theorem shapedL {B : Int} {ds : List PyData} (h : ∀ d ∈ ds, Ver B d) : SeqAt.shaped (.list ds) = true := by
  obtain ⟨h1, h2⟩ := shaped_vers h
  unfold SeqAt.shaped
  rw [show PyData.canLay0 (.list ds) = true from by unfold PyData.canLay0; exact h1]
  rw [show PyData.depth (.list ds) = PyData.depthAll ds + 1 from by unfold PyData.depth; rfl]
  exact decide_eq_true (by omega)
/-- the state behind the four numbers -/
def St (near : List PyData) (B : Int) (M : Nat) (k : Int) (ρ : En) : Prop := ∃ l m t a b c n e, ρ = [.own false (.deck 0 l m t), .val (.list near), .val (.int k), .val (.int a), .val (.int b), .val (.int c), .val (.int n), e, .no] ∧ DkOk M l m t ∧ pinE e = false ∧ 0 ≤ a ∧ a < B ∧ 0 ≤ b ∧ b < B ∧ 0 ≤ c ∧ c < B ∧ 0 ≤ n ∧ n < B
def St2 (near : List PyData) (B : Int) (M : Nat) (k : Int) (ρ : En) : Prop := ∃ l m t a b c n, ∃ x1 x2 x3 x4 x5, Vok B x1 x2 x3 x4 x5 ∧ ρ = [.own false (.deck 0 l m t), .val (.list near), .val (.int k), .val (.int a), .val (.int b), .val (.int c), .val (.int n), .val (vt x1 x2 x3 x4 x5), .no] ∧ DkOk M l m t ∧ 0 ≤ a ∧ a < B ∧ 0 ≤ b ∧ b < B ∧ 0 ≤ c ∧ c < B ∧ 0 ≤ n ∧ n < B
theorem St2.down {near : List PyData} {B : Int} {M : Nat} {k : Int} {ρ : En} (h : St2 near B M k ρ) : St near B M k ρ := by
  obtain ⟨l, m, t, a, b, c, n, x1, x2, x3, x4, x5, v, rfl, h1, h2, h3, h4, h5, h6, h7, h8, h9⟩ := h
  exact ⟨l, m, t, a, b, c, n, _, rfl, h1, rfl, h2, h3, h4, h5, h6, h7, h8, h9⟩
theorem stepA {near : List PyData} {B : Int} {M : Nat} {k : Int} {ρ : En} (hM : M < 2 ^ 60) (h : St2 near B M k ρ) : W1 (mb__law_version_2 ρ) (fun f => ∃ ρ, f = .nx ρ ∧ St2 near B (M + 1) k ρ) := by
  obtain ⟨l, m, t, a, b, c, n, x1, x2, x3, x4, x5, v, rfl, h1, h2, h3, h4, h5, h6, h7, h8, h9⟩ := h
  obtain ⟨v1, v2, v3, v4, v5, v6, v7, v8, v9, v10, v11⟩ := id v
  simp (config := {maxSteps := 1000000}) only [mb__law_version_2, Fj.wp0, Fj.wp1, Fj.wp2, Fj.wp3, Fj.wp4, Fj.wp5, Fj.wp6, Fj.wp7, Fj.wp8, Fj.wp9, Fj.wp10, Fj.wp11, Fj.wp12, Fj.wp13, Fj.wp14, Fj.wp15, Fj.wp16, Fj.wp17, Fj.wp18, Fj.wp19, Fj.wp20, Fj.wp21, Fj.tyN, Int.reduceEq, Int.reduceLT, Int.reduceLE, Int.reduceAdd, Int.reduceSub, Int.reduceMul, Int.reduceNeg, Int.reducePow, Int.reduceToNat, Int.reduceMod, Int.reduceDiv, Int.reduceNe, Nat.reduceEqDiff, Nat.reduceMul, borOk, dkAll, dkKept, nlD, nlAll, id, frz, freeE, outsE, pick, merE, wipeE, Nat.reduceAdd, Nat.reduceSub, Nat.reduceLeDiff, Nat.reduceLT, reduceCtorEq, if_true, if_false, eq_self, forall_const]
  refine (draw_ok M l m t _ h1 (by omega) (by decide) (by decide)).mono ?_
  rintro _ _ ⟨r, l', m', t', o, rfl, q1, q2, rfl, q3⟩
  simp (config := {maxSteps := 1000000}) only [Fj.wp0, Fj.wp1, Fj.wp2, Fj.wp3, Fj.wp4, Fj.wp5, Fj.wp6, Fj.wp7, Fj.wp8, Fj.wp9, Fj.wp10, Fj.wp11, Fj.wp12, Fj.wp13, Fj.wp14, Fj.wp15, Fj.wp16, Fj.wp17, Fj.wp18, Fj.wp19, Fj.wp20, Fj.wp21, Fj.tyN, Int.reduceEq, Int.reduceLT, Int.reduceLE, Int.reduceAdd, Int.reduceSub, Int.reduceMul, Int.reduceNeg, Int.reducePow, Int.reduceToNat, Int.reduceMod, Int.reduceDiv, Int.reduceNe, Nat.reduceEqDiff, Nat.reduceMul, borOk, dkAll, dkKept, nlD, nlAll, id, frz, freeE, outsE, pick, merE, wipeE, Nat.reduceAdd, Nat.reduceSub, Nat.reduceLeDiff, Nat.reduceLT, reduceCtorEq, if_true, if_false, eq_self, forall_const]
  refine IfB.mk (fun _ => ?_) (fun _ => ?_) <;> simp (config := {maxSteps := 1000000}) only [Fj.wp0, Fj.wp1, Fj.wp2, Fj.wp3, Fj.wp4, Fj.wp5, Fj.wp6, Fj.wp7, Fj.wp8, Fj.wp9, Fj.wp10, Fj.wp11, Fj.wp12, Fj.wp13, Fj.wp14, Fj.wp15, Fj.wp16, Fj.wp17, Fj.wp18, Fj.wp19, Fj.wp20, Fj.wp21, Fj.tyN, Int.reduceEq, Int.reduceLT, Int.reduceLE, Int.reduceAdd, Int.reduceSub, Int.reduceMul, Int.reduceNeg, Int.reducePow, Int.reduceToNat, Int.reduceMod, Int.reduceDiv, Int.reduceNe, Nat.reduceEqDiff, Nat.reduceMul, borOk, dkAll, dkKept, nlD, nlAll, id, frz, freeE, outsE, pick, merE, wipeE, Nat.reduceAdd, Nat.reduceSub, Nat.reduceLeDiff, Nat.reduceLT, reduceCtorEq, if_true, if_false, eq_self, forall_const] <;> exact ⟨_, rfl, l', m', t', _, _, _, _, x1, x2, x3, x4, x5, v, rfl, q3, by assumption, by assumption, by assumption, by assumption, by assumption, by assumption, by assumption, by assumption⟩
theorem stepB {near : List PyData} {B : Int} {M : Nat} {k : Int} {ρ : En} (hM : M < 2 ^ 60) (h : St2 near B M k ρ) : W1 (mb__law_version_3 ρ) (fun f => ∃ ρ, f = .nx ρ ∧ St2 near B (M + 1) k ρ) := by
  obtain ⟨l, m, t, a, b, c, n, x1, x2, x3, x4, x5, v, rfl, h1, h2, h3, h4, h5, h6, h7, h8, h9⟩ := h
  obtain ⟨v1, v2, v3, v4, v5, v6, v7, v8, v9, v10, v11⟩ := id v
  simp (config := {maxSteps := 1000000}) only [mb__law_version_3, Fj.wp0, Fj.wp1, Fj.wp2, Fj.wp3, Fj.wp4, Fj.wp5, Fj.wp6, Fj.wp7, Fj.wp8, Fj.wp9, Fj.wp10, Fj.wp11, Fj.wp12, Fj.wp13, Fj.wp14, Fj.wp15, Fj.wp16, Fj.wp17, Fj.wp18, Fj.wp19, Fj.wp20, Fj.wp21, Fj.tyN, Int.reduceEq, Int.reduceLT, Int.reduceLE, Int.reduceAdd, Int.reduceSub, Int.reduceMul, Int.reduceNeg, Int.reducePow, Int.reduceToNat, Int.reduceMod, Int.reduceDiv, Int.reduceNe, Nat.reduceEqDiff, Nat.reduceMul, borOk, dkAll, dkKept, nlD, nlAll, id, frz, freeE, outsE, pick, merE, wipeE, Nat.reduceAdd, Nat.reduceSub, Nat.reduceLeDiff, Nat.reduceLT, reduceCtorEq, if_true, if_false, eq_self, forall_const]
  refine (draw_ok M l m t _ h1 (by omega) (by decide) (by decide)).mono ?_
  rintro _ _ ⟨r, l', m', t', o, rfl, q1, q2, rfl, q3⟩
  simp (config := {maxSteps := 1000000}) only [Fj.wp0, Fj.wp1, Fj.wp2, Fj.wp3, Fj.wp4, Fj.wp5, Fj.wp6, Fj.wp7, Fj.wp8, Fj.wp9, Fj.wp10, Fj.wp11, Fj.wp12, Fj.wp13, Fj.wp14, Fj.wp15, Fj.wp16, Fj.wp17, Fj.wp18, Fj.wp19, Fj.wp20, Fj.wp21, Fj.tyN, Int.reduceEq, Int.reduceLT, Int.reduceLE, Int.reduceAdd, Int.reduceSub, Int.reduceMul, Int.reduceNeg, Int.reducePow, Int.reduceToNat, Int.reduceMod, Int.reduceDiv, Int.reduceNe, Nat.reduceEqDiff, Nat.reduceMul, borOk, dkAll, dkKept, nlD, nlAll, id, frz, freeE, outsE, pick, merE, wipeE, Nat.reduceAdd, Nat.reduceSub, Nat.reduceLeDiff, Nat.reduceLT, reduceCtorEq, if_true, if_false, eq_self, forall_const]
  refine IfB.mk (fun _ => ?_) (fun _ => ?_) <;> simp (config := {maxSteps := 1000000}) only [Fj.wp0, Fj.wp1, Fj.wp2, Fj.wp3, Fj.wp4, Fj.wp5, Fj.wp6, Fj.wp7, Fj.wp8, Fj.wp9, Fj.wp10, Fj.wp11, Fj.wp12, Fj.wp13, Fj.wp14, Fj.wp15, Fj.wp16, Fj.wp17, Fj.wp18, Fj.wp19, Fj.wp20, Fj.wp21, Fj.tyN, Int.reduceEq, Int.reduceLT, Int.reduceLE, Int.reduceAdd, Int.reduceSub, Int.reduceMul, Int.reduceNeg, Int.reducePow, Int.reduceToNat, Int.reduceMod, Int.reduceDiv, Int.reduceNe, Nat.reduceEqDiff, Nat.reduceMul, borOk, dkAll, dkKept, nlD, nlAll, id, frz, freeE, outsE, pick, merE, wipeE, Nat.reduceAdd, Nat.reduceSub, Nat.reduceLeDiff, Nat.reduceLT, reduceCtorEq, if_true, if_false, eq_self, forall_const] <;> exact ⟨_, rfl, l', m', t', _, _, _, _, x1, x2, x3, x4, x5, v, rfl, q3, by assumption, by assumption, by assumption, by assumption, by assumption, by assumption, by assumption, by assumption⟩
theorem stepC {near : List PyData} {B : Int} {M : Nat} {k : Int} {ρ : En} (hM : M < 2 ^ 60) (h : St2 near B M k ρ) : W1 (mb__law_version_4 ρ) (fun f => ∃ ρ, f = .nx ρ ∧ St2 near B (M + 1) k ρ) := by
  obtain ⟨l, m, t, a, b, c, n, x1, x2, x3, x4, x5, v, rfl, h1, h2, h3, h4, h5, h6, h7, h8, h9⟩ := h
  obtain ⟨v1, v2, v3, v4, v5, v6, v7, v8, v9, v10, v11⟩ := id v
  simp (config := {maxSteps := 1000000}) only [mb__law_version_4, Fj.wp0, Fj.wp1, Fj.wp2, Fj.wp3, Fj.wp4, Fj.wp5, Fj.wp6, Fj.wp7, Fj.wp8, Fj.wp9, Fj.wp10, Fj.wp11, Fj.wp12, Fj.wp13, Fj.wp14, Fj.wp15, Fj.wp16, Fj.wp17, Fj.wp18, Fj.wp19, Fj.wp20, Fj.wp21, Fj.tyN, Int.reduceEq, Int.reduceLT, Int.reduceLE, Int.reduceAdd, Int.reduceSub, Int.reduceMul, Int.reduceNeg, Int.reducePow, Int.reduceToNat, Int.reduceMod, Int.reduceDiv, Int.reduceNe, Nat.reduceEqDiff, Nat.reduceMul, borOk, dkAll, dkKept, nlD, nlAll, id, frz, freeE, outsE, pick, merE, wipeE, Nat.reduceAdd, Nat.reduceSub, Nat.reduceLeDiff, Nat.reduceLT, reduceCtorEq, if_true, if_false, eq_self, forall_const]
  refine (draw_ok M l m t _ h1 (by omega) (by decide) (by decide)).mono ?_
  rintro _ _ ⟨r, l', m', t', o, rfl, q1, q2, rfl, q3⟩
  simp (config := {maxSteps := 1000000}) only [Fj.wp0, Fj.wp1, Fj.wp2, Fj.wp3, Fj.wp4, Fj.wp5, Fj.wp6, Fj.wp7, Fj.wp8, Fj.wp9, Fj.wp10, Fj.wp11, Fj.wp12, Fj.wp13, Fj.wp14, Fj.wp15, Fj.wp16, Fj.wp17, Fj.wp18, Fj.wp19, Fj.wp20, Fj.wp21, Fj.tyN, Int.reduceEq, Int.reduceLT, Int.reduceLE, Int.reduceAdd, Int.reduceSub, Int.reduceMul, Int.reduceNeg, Int.reducePow, Int.reduceToNat, Int.reduceMod, Int.reduceDiv, Int.reduceNe, Nat.reduceEqDiff, Nat.reduceMul, borOk, dkAll, dkKept, nlD, nlAll, id, frz, freeE, outsE, pick, merE, wipeE, Nat.reduceAdd, Nat.reduceSub, Nat.reduceLeDiff, Nat.reduceLT, reduceCtorEq, if_true, if_false, eq_self, forall_const]
  refine IfB.mk (fun _ => ?_) (fun _ => ?_) <;> simp (config := {maxSteps := 1000000}) only [Fj.wp0, Fj.wp1, Fj.wp2, Fj.wp3, Fj.wp4, Fj.wp5, Fj.wp6, Fj.wp7, Fj.wp8, Fj.wp9, Fj.wp10, Fj.wp11, Fj.wp12, Fj.wp13, Fj.wp14, Fj.wp15, Fj.wp16, Fj.wp17, Fj.wp18, Fj.wp19, Fj.wp20, Fj.wp21, Fj.tyN, Int.reduceEq, Int.reduceLT, Int.reduceLE, Int.reduceAdd, Int.reduceSub, Int.reduceMul, Int.reduceNeg, Int.reducePow, Int.reduceToNat, Int.reduceMod, Int.reduceDiv, Int.reduceNe, Nat.reduceEqDiff, Nat.reduceMul, borOk, dkAll, dkKept, nlD, nlAll, id, frz, freeE, outsE, pick, merE, wipeE, Nat.reduceAdd, Nat.reduceSub, Nat.reduceLeDiff, Nat.reduceLT, reduceCtorEq, if_true, if_false, eq_self, forall_const] <;> exact ⟨_, rfl, l', m', t', _, _, _, _, x1, x2, x3, x4, x5, v, rfl, q3, by assumption, by assumption, by assumption, by assumption, by assumption, by assumption, by assumption, by assumption⟩
theorem stepD {near : List PyData} {B : Int} {M : Nat} {k : Int} {ρ : En} (hM : M < 2 ^ 60) (h : St2 near B M k ρ) : W1 (mb__law_version_5 ρ) (fun f => ∃ ρ, f = .nx ρ ∧ St2 near B (M + 1) k ρ) := by
  obtain ⟨l, m, t, a, b, c, n, x1, x2, x3, x4, x5, v, rfl, h1, h2, h3, h4, h5, h6, h7, h8, h9⟩ := h
  obtain ⟨v1, v2, v3, v4, v5, v6, v7, v8, v9, v10, v11⟩ := id v
  simp (config := {maxSteps := 1000000}) only [mb__law_version_5, Fj.wp0, Fj.wp1, Fj.wp2, Fj.wp3, Fj.wp4, Fj.wp5, Fj.wp6, Fj.wp7, Fj.wp8, Fj.wp9, Fj.wp10, Fj.wp11, Fj.wp12, Fj.wp13, Fj.wp14, Fj.wp15, Fj.wp16, Fj.wp17, Fj.wp18, Fj.wp19, Fj.wp20, Fj.wp21, Fj.tyN, Int.reduceEq, Int.reduceLT, Int.reduceLE, Int.reduceAdd, Int.reduceSub, Int.reduceMul, Int.reduceNeg, Int.reducePow, Int.reduceToNat, Int.reduceMod, Int.reduceDiv, Int.reduceNe, Nat.reduceEqDiff, Nat.reduceMul, borOk, dkAll, dkKept, nlD, nlAll, id, frz, freeE, outsE, pick, merE, wipeE, Nat.reduceAdd, Nat.reduceSub, Nat.reduceLeDiff, Nat.reduceLT, reduceCtorEq, if_true, if_false, eq_self, forall_const]
  refine (draw_ok M l m t _ h1 (by omega) (by decide) (by decide)).mono ?_
  rintro _ _ ⟨r, l', m', t', o, rfl, q1, q2, rfl, q3⟩
  simp (config := {maxSteps := 1000000}) only [Fj.wp0, Fj.wp1, Fj.wp2, Fj.wp3, Fj.wp4, Fj.wp5, Fj.wp6, Fj.wp7, Fj.wp8, Fj.wp9, Fj.wp10, Fj.wp11, Fj.wp12, Fj.wp13, Fj.wp14, Fj.wp15, Fj.wp16, Fj.wp17, Fj.wp18, Fj.wp19, Fj.wp20, Fj.wp21, Fj.tyN, Int.reduceEq, Int.reduceLT, Int.reduceLE, Int.reduceAdd, Int.reduceSub, Int.reduceMul, Int.reduceNeg, Int.reducePow, Int.reduceToNat, Int.reduceMod, Int.reduceDiv, Int.reduceNe, Nat.reduceEqDiff, Nat.reduceMul, borOk, dkAll, dkKept, nlD, nlAll, id, frz, freeE, outsE, pick, merE, wipeE, Nat.reduceAdd, Nat.reduceSub, Nat.reduceLeDiff, Nat.reduceLT, reduceCtorEq, if_true, if_false, eq_self, forall_const]
  refine IfB.mk (fun _ => ?_) (fun _ => ?_) <;> simp (config := {maxSteps := 1000000}) only [Fj.wp0, Fj.wp1, Fj.wp2, Fj.wp3, Fj.wp4, Fj.wp5, Fj.wp6, Fj.wp7, Fj.wp8, Fj.wp9, Fj.wp10, Fj.wp11, Fj.wp12, Fj.wp13, Fj.wp14, Fj.wp15, Fj.wp16, Fj.wp17, Fj.wp18, Fj.wp19, Fj.wp20, Fj.wp21, Fj.tyN, Int.reduceEq, Int.reduceLT, Int.reduceLE, Int.reduceAdd, Int.reduceSub, Int.reduceMul, Int.reduceNeg, Int.reducePow, Int.reduceToNat, Int.reduceMod, Int.reduceDiv, Int.reduceNe, Nat.reduceEqDiff, Nat.reduceMul, borOk, dkAll, dkKept, nlD, nlAll, id, frz, freeE, outsE, pick, merE, wipeE, Nat.reduceAdd, Nat.reduceSub, Nat.reduceLeDiff, Nat.reduceLT, reduceCtorEq, if_true, if_false, eq_self, forall_const] <;> exact ⟨_, rfl, l', m', t', _, _, _, _, x1, x2, x3, x4, x5, v, rfl, q3, by assumption, by assumption, by assumption, by assumption, by assumption, by assumption, by assumption, by assumption⟩
theorem nearStep {near : List PyData} {B : Int} {M : Nat} {k : Int} {ρ : En} (hM : M < 2 ^ 50) (hn : ∀ d ∈ near, Ver B d) (hl : near.length ≤ 100000) (h : St near B M k ρ) : W1 (mb__law_version_6 ρ) (fun f => ∃ ρ, f = .nx ρ ∧ St near B (M + 6) k ρ) := by
  obtain ⟨l, m, t, a, b, c, n, e, rfl, h1, he, h2, h3, h4, h5, h6, h7, h8, h9⟩ := h
  have stay : St near B (M + 6) k [.own false (.deck 0 l m t), .val (.list near), .val (.int k), .val (.int a), .val (.int b), .val (.int c), .val (.int n), e, .no] := ⟨l, m, t, a, b, c, n, e, rfl, h1.mono (by omega), he, h2, h3, h4, h5, h6, h7, h8, h9⟩
  simp (config := {maxSteps := 1000000}) only [mb__law_version_6, shapedL hn, Fj.wp0, Fj.wp1, Fj.wp2, Fj.wp3, Fj.wp4, Fj.wp5, Fj.wp6, Fj.wp7, Fj.wp8, Fj.wp9, Fj.wp10, Fj.wp11, Fj.wp12, Fj.wp13, Fj.wp14, Fj.wp15, Fj.wp16, Fj.wp17, Fj.wp18, Fj.wp19, Fj.wp20, Fj.wp21, Fj.tyN, Int.reduceEq, Int.reduceLT, Int.reduceLE, Int.reduceAdd, Int.reduceSub, Int.reduceMul, Int.reduceNeg, Int.reducePow, Int.reduceToNat, Int.reduceMod, Int.reduceDiv, Int.reduceNe, Nat.reduceEqDiff, Nat.reduceMul, borOk, dkAll, dkKept, nlD, nlAll, id, frz, freeE, outsE, pick, merE, wipeE, Nat.reduceAdd, Nat.reduceSub, Nat.reduceLeDiff, Nat.reduceLT, reduceCtorEq, if_true, if_false, eq_self, forall_const]
  refine IfB.mk (fun hne => ?_) (fun _ => ?_)
  · have hne : near ≠ [] := by
      intro z
      rw [z] at hne
      cases hne
    simp (config := {maxSteps := 1000000}) only [Fj.wp0, Fj.wp1, Fj.wp2, Fj.wp3, Fj.wp4, Fj.wp5, Fj.wp6, Fj.wp7, Fj.wp8, Fj.wp9, Fj.wp10, Fj.wp11, Fj.wp12, Fj.wp13, Fj.wp14, Fj.wp15, Fj.wp16, Fj.wp17, Fj.wp18, Fj.wp19, Fj.wp20, Fj.wp21, Fj.tyN, Int.reduceEq, Int.reduceLT, Int.reduceLE, Int.reduceAdd, Int.reduceSub, Int.reduceMul, Int.reduceNeg, Int.reducePow, Int.reduceToNat, Int.reduceMod, Int.reduceDiv, Int.reduceNe, Nat.reduceEqDiff, Nat.reduceMul, borOk, dkAll, dkKept, nlD, nlAll, id, frz, freeE, outsE, pick, merE, wipeE, Nat.reduceAdd, Nat.reduceSub, Nat.reduceLeDiff, Nat.reduceLT, reduceCtorEq, if_true, if_false, eq_self, forall_const]
    refine (draw_ok M l m t _ h1 (by omega) (by decide) (by decide)).mono ?_
    rintro _ _ ⟨r, l', m', t', o, rfl, q1, q2, rfl, q3⟩
    simp (config := {maxSteps := 1000000}) only [Fj.wp0, Fj.wp1, Fj.wp2, Fj.wp3, Fj.wp4, Fj.wp5, Fj.wp6, Fj.wp7, Fj.wp8, Fj.wp9, Fj.wp10, Fj.wp11, Fj.wp12, Fj.wp13, Fj.wp14, Fj.wp15, Fj.wp16, Fj.wp17, Fj.wp18, Fj.wp19, Fj.wp20, Fj.wp21, Fj.tyN, Int.reduceEq, Int.reduceLT, Int.reduceLE, Int.reduceAdd, Int.reduceSub, Int.reduceMul, Int.reduceNeg, Int.reducePow, Int.reduceToNat, Int.reduceMod, Int.reduceDiv, Int.reduceNe, Nat.reduceEqDiff, Nat.reduceMul, borOk, dkAll, dkKept, nlD, nlAll, id, frz, freeE, outsE, pick, merE, wipeE, Nat.reduceAdd, Nat.reduceSub, Nat.reduceLeDiff, Nat.reduceLT, reduceCtorEq, if_true, if_false, eq_self, forall_const]
    refine IfB.mk (fun _ => ?_) (fun _ => ?_)
    · simp (config := {maxSteps := 1000000}) only [Fj.wp0, Fj.wp1, Fj.wp2, Fj.wp3, Fj.wp4, Fj.wp5, Fj.wp6, Fj.wp7, Fj.wp8, Fj.wp9, Fj.wp10, Fj.wp11, Fj.wp12, Fj.wp13, Fj.wp14, Fj.wp15, Fj.wp16, Fj.wp17, Fj.wp18, Fj.wp19, Fj.wp20, Fj.wp21, Fj.tyN, Int.reduceEq, Int.reduceLT, Int.reduceLE, Int.reduceAdd, Int.reduceSub, Int.reduceMul, Int.reduceNeg, Int.reducePow, Int.reduceToNat, Int.reduceMod, Int.reduceDiv, Int.reduceNe, Nat.reduceEqDiff, Nat.reduceMul, borOk, dkAll, dkKept, nlD, nlAll, id, frz, freeE, outsE, pick, merE, wipeE, Nat.reduceAdd, Nat.reduceSub, Nat.reduceLeDiff, Nat.reduceLT, reduceCtorEq, if_true, if_false, eq_self, forall_const]
      refine (pick_ok (M + 1) l' m' t' near q3 (by omega) hne hl).mono ?_
      rintro _ _ ⟨d, l2, m2, t2, o2, hd, rfl, rfl, q4⟩
      obtain ⟨x1, x2, x3, x4, x5, rfl, v⟩ := hn d hd
      simp (config := {maxSteps := 1000000}) only [he, Fj.wp0, Fj.wp1, Fj.wp2, Fj.wp3, Fj.wp4, Fj.wp5, Fj.wp6, Fj.wp7, Fj.wp8, Fj.wp9, Fj.wp10, Fj.wp11, Fj.wp12, Fj.wp13, Fj.wp14, Fj.wp15, Fj.wp16, Fj.wp17, Fj.wp18, Fj.wp19, Fj.wp20, Fj.wp21, Fj.tyN, Int.reduceEq, Int.reduceLT, Int.reduceLE, Int.reduceAdd, Int.reduceSub, Int.reduceMul, Int.reduceNeg, Int.reducePow, Int.reduceToNat, Int.reduceMod, Int.reduceDiv, Int.reduceNe, Nat.reduceEqDiff, Nat.reduceMul, borOk, dkAll, dkKept, nlD, nlAll, id, frz, freeE, outsE, pick, merE, wipeE, Nat.reduceAdd, Nat.reduceSub, Nat.reduceLeDiff, Nat.reduceLT, reduceCtorEq, if_true, if_false, eq_self, forall_const]
      have s0 : St2 near B (M + 2) k [.own false (.deck 0 l2 m2 t2), .val (.list near), .val (.int k), .val (.int a), .val (.int b), .val (.int c), .val (.int n), .val (vt x1 x2 x3 x4 x5), .no] := ⟨l2, m2, t2, a, b, c, n, x1, x2, x3, x4, x5, v, rfl, q4, h2, h3, h4, h5, h6, h7, h8, h9⟩
      refine (stepA (by omega) s0).mono ?_
      rintro _ ⟨ρ1, rfl, s1⟩
      simp (config := {maxSteps := 1000000}) only [Fj.wp0, Fj.wp1, Fj.wp2, Fj.wp3, Fj.wp4, Fj.wp5, Fj.wp6, Fj.wp7, Fj.wp8, Fj.wp9, Fj.wp10, Fj.wp11, Fj.wp12, Fj.wp13, Fj.wp14, Fj.wp15, Fj.wp16, Fj.wp17, Fj.wp18, Fj.wp19, Fj.wp20, Fj.wp21, Fj.tyN, Int.reduceEq, Int.reduceLT, Int.reduceLE, Int.reduceAdd, Int.reduceSub, Int.reduceMul, Int.reduceNeg, Int.reducePow, Int.reduceToNat, Int.reduceMod, Int.reduceDiv, Int.reduceNe, Nat.reduceEqDiff, Nat.reduceMul, borOk, dkAll, dkKept, nlD, nlAll, id, frz, freeE, outsE, pick, merE, wipeE, Nat.reduceAdd, Nat.reduceSub, Nat.reduceLeDiff, Nat.reduceLT, reduceCtorEq, if_true, if_false, eq_self, forall_const]
      refine (stepB (by omega) s1).mono ?_
      rintro _ ⟨ρ2, rfl, s2⟩
      simp (config := {maxSteps := 1000000}) only [Fj.wp0, Fj.wp1, Fj.wp2, Fj.wp3, Fj.wp4, Fj.wp5, Fj.wp6, Fj.wp7, Fj.wp8, Fj.wp9, Fj.wp10, Fj.wp11, Fj.wp12, Fj.wp13, Fj.wp14, Fj.wp15, Fj.wp16, Fj.wp17, Fj.wp18, Fj.wp19, Fj.wp20, Fj.wp21, Fj.tyN, Int.reduceEq, Int.reduceLT, Int.reduceLE, Int.reduceAdd, Int.reduceSub, Int.reduceMul, Int.reduceNeg, Int.reducePow, Int.reduceToNat, Int.reduceMod, Int.reduceDiv, Int.reduceNe, Nat.reduceEqDiff, Nat.reduceMul, borOk, dkAll, dkKept, nlD, nlAll, id, frz, freeE, outsE, pick, merE, wipeE, Nat.reduceAdd, Nat.reduceSub, Nat.reduceLeDiff, Nat.reduceLT, reduceCtorEq, if_true, if_false, eq_self, forall_const]
      refine (stepC (by omega) s2).mono ?_
      rintro _ ⟨ρ3, rfl, s3⟩
      simp (config := {maxSteps := 1000000}) only [Fj.wp0, Fj.wp1, Fj.wp2, Fj.wp3, Fj.wp4, Fj.wp5, Fj.wp6, Fj.wp7, Fj.wp8, Fj.wp9, Fj.wp10, Fj.wp11, Fj.wp12, Fj.wp13, Fj.wp14, Fj.wp15, Fj.wp16, Fj.wp17, Fj.wp18, Fj.wp19, Fj.wp20, Fj.wp21, Fj.tyN, Int.reduceEq, Int.reduceLT, Int.reduceLE, Int.reduceAdd, Int.reduceSub, Int.reduceMul, Int.reduceNeg, Int.reducePow, Int.reduceToNat, Int.reduceMod, Int.reduceDiv, Int.reduceNe, Nat.reduceEqDiff, Nat.reduceMul, borOk, dkAll, dkKept, nlD, nlAll, id, frz, freeE, outsE, pick, merE, wipeE, Nat.reduceAdd, Nat.reduceSub, Nat.reduceLeDiff, Nat.reduceLT, reduceCtorEq, if_true, if_false, eq_self, forall_const]
      refine (stepD (by omega) s3).mono ?_
      rintro _ ⟨ρ4, rfl, s4⟩
      exact ⟨ρ4, rfl, s4.down⟩
    · (try simp (config := {maxSteps := 1000000}) only [Fj.wp0, Fj.wp1, Fj.wp2, Fj.wp3, Fj.wp4, Fj.wp5, Fj.wp6, Fj.wp7, Fj.wp8, Fj.wp9, Fj.wp10, Fj.wp11, Fj.wp12, Fj.wp13, Fj.wp14, Fj.wp15, Fj.wp16, Fj.wp17, Fj.wp18, Fj.wp19, Fj.wp20, Fj.wp21, Fj.tyN, Int.reduceEq, Int.reduceLT, Int.reduceLE, Int.reduceAdd, Int.reduceSub, Int.reduceMul, Int.reduceNeg, Int.reducePow, Int.reduceToNat, Int.reduceMod, Int.reduceDiv, Int.reduceNe, Nat.reduceEqDiff, Nat.reduceMul, borOk, dkAll, dkKept, nlD, nlAll, id, frz, freeE, outsE, pick, merE, wipeE, Nat.reduceAdd, Nat.reduceSub, Nat.reduceLeDiff, Nat.reduceLT, reduceCtorEq, if_true, if_false, eq_self, forall_const])
      exact ⟨_, rfl, l', m', t', a, b, c, n, e, rfl, q3.mono (by omega), he, h2, h3, h4, h5, h6, h7, h8, h9⟩
  · (try simp (config := {maxSteps := 1000000}) only [Fj.wp0, Fj.wp1, Fj.wp2, Fj.wp3, Fj.wp4, Fj.wp5, Fj.wp6, Fj.wp7, Fj.wp8, Fj.wp9, Fj.wp10, Fj.wp11, Fj.wp12, Fj.wp13, Fj.wp14, Fj.wp15, Fj.wp16, Fj.wp17, Fj.wp18, Fj.wp19, Fj.wp20, Fj.wp21, Fj.tyN, Int.reduceEq, Int.reduceLT, Int.reduceLE, Int.reduceAdd, Int.reduceSub, Int.reduceMul, Int.reduceNeg, Int.reducePow, Int.reduceToNat, Int.reduceMod, Int.reduceDiv, Int.reduceNe, Nat.reduceEqDiff, Nat.reduceMul, borOk, dkAll, dkKept, nlD, nlAll, id, frz, freeE, outsE, pick, merE, wipeE, Nat.reduceAdd, Nat.reduceSub, Nat.reduceLeDiff, Nat.reduceLT, reduceCtorEq, if_true, if_false, eq_self, forall_const])
    exact ⟨_, rfl, stay⟩
theorem version_ok {near : List PyData} {B : Int} {M : Nat} {l : List Int} {m t : Int} (hB : 1000000000 ≤ B) (hM : M < 2 ^ 40) (hn : ∀ d ∈ near, Ver B d) (hl : near.length ≤ 100000) (h : DkOk M l m t) :
    W (mf__law_version [.own false (.deck 0 l m t), .val (.list near)]) fun e outs => ∃ d l' m' t' o, e = .val d ∧ Ver B d ∧ outs = .own false (.deck 0 l' m' t') :: o ∧ DkOk (M + 15) l' m' t' := by
  simp (config := {maxSteps := 1000000}) only [mf__law_version, mb__law_version, Fj.wp0, Fj.wp1, Fj.wp2, Fj.wp3, Fj.wp4, Fj.wp5, Fj.wp6, Fj.wp7, Fj.wp8, Fj.wp9, Fj.wp10, Fj.wp11, Fj.wp12, Fj.wp13, Fj.wp14, Fj.wp15, Fj.wp16, Fj.wp17, Fj.wp18, Fj.wp19, Fj.wp20, Fj.wp21, Fj.tyN, Int.reduceEq, Int.reduceLT, Int.reduceLE, Int.reduceAdd, Int.reduceSub, Int.reduceMul, Int.reduceNeg, Int.reducePow, Int.reduceToNat, Int.reduceMod, Int.reduceDiv, Int.reduceNe, Nat.reduceEqDiff, Nat.reduceMul, borOk, dkAll, dkKept, nlD, nlAll, id, frz, freeE, outsE, pick, merE, wipeE, Nat.reduceAdd, Nat.reduceSub, Nat.reduceLeDiff, Nat.reduceLT, reduceCtorEq, if_true, if_false, eq_self, forall_const]
  refine (pick_ok M l m t _ h (by omega) (by simp) (by simp)).mono ?_
  rintro _ _ ⟨d, l1, m1, t1, o1, hd, rfl, rfl, h1⟩
  have hk : ∃ k, d = .int k ∧ 0 ≤ k ∧ k ≤ 3 := by
    simp only [List.mem_cons, List.not_mem_nil, or_false] at hd
    rcases hd with rfl | rfl | rfl | rfl | rfl | rfl <;> exact ⟨_, rfl, by omega, by omega⟩
  obtain ⟨k, rfl, k0, k3⟩ := hk
  simp (config := {maxSteps := 1000000}) only [lc__law_version_1, Fj.wp0, Fj.wp1, Fj.wp2, Fj.wp3, Fj.wp4, Fj.wp5, Fj.wp6, Fj.wp7, Fj.wp8, Fj.wp9, Fj.wp10, Fj.wp11, Fj.wp12, Fj.wp13, Fj.wp14, Fj.wp15, Fj.wp16, Fj.wp17, Fj.wp18, Fj.wp19, Fj.wp20, Fj.wp21, Fj.tyN, Int.reduceEq, Int.reduceLT, Int.reduceLE, Int.reduceAdd, Int.reduceSub, Int.reduceMul, Int.reduceNeg, Int.reducePow, Int.reduceToNat, Int.reduceMod, Int.reduceDiv, Int.reduceNe, Nat.reduceEqDiff, Nat.reduceMul, borOk, dkAll, dkKept, nlD, nlAll, id, frz, freeE, outsE, pick, merE, wipeE, Nat.reduceAdd, Nat.reduceSub, Nat.reduceLeDiff, Nat.reduceLT, reduceCtorEq, if_true, if_false, eq_self, forall_const]
  refine w_lcL (fun ds acc ρ => acc.length + ds.length = 4 ∧ (∃ ks : List Int, acc = ks.map .int ∧ ∀ r ∈ ks, 0 ≤ r ∧ r < 1000000000) ∧ ∃ l m t, ρ = [.own false (.deck 0 l m t), .val (.list near), .val (.int k), .no, .no, .no, .no, .no, .no] ∧ DkOk (M + 1 + 2 * acc.length) l m t) ?_ ?_ _ _ _ ⟨by rw [rng_len]; rfl, ⟨[], rfl, fun _ z => (List.not_mem_nil z).elim⟩, l1, m1, t1, rfl, h1⟩
  · rintro d ds acc ρ ⟨ha, ⟨ks, rfl, hks⟩, l2, m2, t2, rfl, h2⟩
    rw [List.length_map] at h2 ha
    simp (config := {maxSteps := 1000000}) only [Fj.wp0, Fj.wp1, Fj.wp2, Fj.wp3, Fj.wp4, Fj.wp5, Fj.wp6, Fj.wp7, Fj.wp8, Fj.wp9, Fj.wp10, Fj.wp11, Fj.wp12, Fj.wp13, Fj.wp14, Fj.wp15, Fj.wp16, Fj.wp17, Fj.wp18, Fj.wp19, Fj.wp20, Fj.wp21, Fj.tyN, Int.reduceEq, Int.reduceLT, Int.reduceLE, Int.reduceAdd, Int.reduceSub, Int.reduceMul, Int.reduceNeg, Int.reducePow, Int.reduceToNat, Int.reduceMod, Int.reduceDiv, Int.reduceNe, Nat.reduceEqDiff, Nat.reduceMul, borOk, dkAll, dkKept, nlD, nlAll, id, frz, freeE, outsE, pick, merE, wipeE, Nat.reduceAdd, Nat.reduceSub, Nat.reduceLeDiff, Nat.reduceLT, reduceCtorEq, if_true, if_false, eq_self, forall_const]
    rw [List.length_cons] at ha
    refine (number_ok _ l2 m2 t2 h2 (by omega)).mono ?_
    rintro _ _ ⟨r, l3, m3, t3, o3, rfl, r1, r2, rfl, h3⟩
    simp (config := {maxSteps := 1000000}) only [Fj.wp0, Fj.wp1, Fj.wp2, Fj.wp3, Fj.wp4, Fj.wp5, Fj.wp6, Fj.wp7, Fj.wp8, Fj.wp9, Fj.wp10, Fj.wp11, Fj.wp12, Fj.wp13, Fj.wp14, Fj.wp15, Fj.wp16, Fj.wp17, Fj.wp18, Fj.wp19, Fj.wp20, Fj.wp21, Fj.tyN, Int.reduceEq, Int.reduceLT, Int.reduceLE, Int.reduceAdd, Int.reduceSub, Int.reduceMul, Int.reduceNeg, Int.reducePow, Int.reduceToNat, Int.reduceMod, Int.reduceDiv, Int.reduceNe, Nat.reduceEqDiff, Nat.reduceMul, borOk, dkAll, dkKept, nlD, nlAll, id, frz, freeE, outsE, pick, merE, wipeE, Nat.reduceAdd, Nat.reduceSub, Nat.reduceLeDiff, Nat.reduceLT, reduceCtorEq, if_true, if_false, eq_self, forall_const]
    refine ⟨by rw [List.length_map]; omega, by simp; omega, ⟨ks ++ [r], by simp, fun x hx => ?_⟩, l3, m3, t3, rfl, h3.mono (by simp; omega)⟩
    rcases List.mem_append.mp hx with z | z
    · exact hks x z
    · rw [List.mem_singleton.mp z]
      exact ⟨r1, r2⟩
  · rintro acc ρ ⟨ha, ⟨ks, rfl, hks⟩, l2, m2, t2, rfl, h2⟩
    rw [List.length_map, List.length_nil] at ha
    rw [List.length_map] at h2
    match ks, ha, hks, h2 with
    | [a, b, c, n], _, hks, h2 =>
      have g1 := hks a (by simp)
      have g2 := hks b (by simp)
      have g3 := hks c (by simp)
      have g4 := hks n (by simp)
      simp (config := {maxSteps := 1000000}) only [Fj.wp0, Fj.wp1, Fj.wp2, Fj.wp3, Fj.wp4, Fj.wp5, Fj.wp6, Fj.wp7, Fj.wp8, Fj.wp9, Fj.wp10, Fj.wp11, Fj.wp12, Fj.wp13, Fj.wp14, Fj.wp15, Fj.wp16, Fj.wp17, Fj.wp18, Fj.wp19, Fj.wp20, Fj.wp21, Fj.tyN, Int.reduceEq, Int.reduceLT, Int.reduceLE, Int.reduceAdd, Int.reduceSub, Int.reduceMul, Int.reduceNeg, Int.reducePow, Int.reduceToNat, Int.reduceMod, Int.reduceDiv, Int.reduceNe, Nat.reduceEqDiff, Nat.reduceMul, borOk, dkAll, dkKept, nlD, nlAll, id, frz, freeE, outsE, pick, merE, wipeE, Nat.reduceAdd, Nat.reduceSub, Nat.reduceLeDiff, Nat.reduceLT, reduceCtorEq, if_true, if_false, eq_self, forall_const]
      refine (nearStep (B := B) (M := M + 9) (k := k) (by omega) hn hl ⟨l2, m2, t2, a, b, c, n, _, rfl, h2, rfl, g1.1, by omega, g2.1, by omega, g3.1, by omega, g4.1, by omega⟩).mono ?_
      rintro _ ⟨ρ5, rfl, l5, m5, t5, a5, b5, c5, n5, e5, rfl, h5, _, f1, f2, f3, f4, f5, f6, f7, f8⟩
      simp (config := {maxSteps := 1000000}) only [mb__law_version_7, Fj.wp0, Fj.wp1, Fj.wp2, Fj.wp3, Fj.wp4, Fj.wp5, Fj.wp6, Fj.wp7, Fj.wp8, Fj.wp9, Fj.wp10, Fj.wp11, Fj.wp12, Fj.wp13, Fj.wp14, Fj.wp15, Fj.wp16, Fj.wp17, Fj.wp18, Fj.wp19, Fj.wp20, Fj.wp21, Fj.tyN, Int.reduceEq, Int.reduceLT, Int.reduceLE, Int.reduceAdd, Int.reduceSub, Int.reduceMul, Int.reduceNeg, Int.reducePow, Int.reduceToNat, Int.reduceMod, Int.reduceDiv, Int.reduceNe, Nat.reduceEqDiff, Nat.reduceMul, borOk, dkAll, dkKept, nlD, nlAll, id, frz, freeE, outsE, pick, merE, wipeE, Nat.reduceAdd, Nat.reduceSub, Nat.reduceLeDiff, Nat.reduceLT, reduceCtorEq, if_true, if_false, eq_self, forall_const]
      refine IfB.mk (fun hk => ?_) (fun hk => ?_)
      · have hk := of_decide_eq_true hk
        simp (config := {maxSteps := 1000000}) only [Fj.wp0, Fj.wp1, Fj.wp2, Fj.wp3, Fj.wp4, Fj.wp5, Fj.wp6, Fj.wp7, Fj.wp8, Fj.wp9, Fj.wp10, Fj.wp11, Fj.wp12, Fj.wp13, Fj.wp14, Fj.wp15, Fj.wp16, Fj.wp17, Fj.wp18, Fj.wp19, Fj.wp20, Fj.wp21, Fj.tyN, Int.reduceEq, Int.reduceLT, Int.reduceLE, Int.reduceAdd, Int.reduceSub, Int.reduceMul, Int.reduceNeg, Int.reducePow, Int.reduceToNat, Int.reduceMod, Int.reduceDiv, Int.reduceNe, Nat.reduceEqDiff, Nat.reduceMul, borOk, dkAll, dkKept, nlD, nlAll, id, frz, freeE, outsE, pick, merE, wipeE, Nat.reduceAdd, Nat.reduceSub, Nat.reduceLeDiff, Nat.reduceLT, reduceCtorEq, if_true, if_false, eq_self, forall_const]
        exact ⟨_, l5, m5, t5, _, rfl, ⟨a5, b5, c5, k, 0, rfl, ⟨f1, f2, f3, f4, f5, f6, k0, k3, by omega, by omega, fun _ => rfl⟩⟩, rfl, h5⟩
      · have hk := of_decide_eq_false hk
        simp (config := {maxSteps := 1000000}) only [Fj.wp0, Fj.wp1, Fj.wp2, Fj.wp3, Fj.wp4, Fj.wp5, Fj.wp6, Fj.wp7, Fj.wp8, Fj.wp9, Fj.wp10, Fj.wp11, Fj.wp12, Fj.wp13, Fj.wp14, Fj.wp15, Fj.wp16, Fj.wp17, Fj.wp18, Fj.wp19, Fj.wp20, Fj.wp21, Fj.tyN, Int.reduceEq, Int.reduceLT, Int.reduceLE, Int.reduceAdd, Int.reduceSub, Int.reduceMul, Int.reduceNeg, Int.reducePow, Int.reduceToNat, Int.reduceMod, Int.reduceDiv, Int.reduceNe, Nat.reduceEqDiff, Nat.reduceMul, borOk, dkAll, dkKept, nlD, nlAll, id, frz, freeE, outsE, pick, merE, wipeE, Nat.reduceAdd, Nat.reduceSub, Nat.reduceLeDiff, Nat.reduceLT, reduceCtorEq, if_true, if_false, eq_self, forall_const]
        exact ⟨_, l5, m5, t5, _, rfl, ⟨a5, b5, c5, k, n5, rfl, ⟨f1, f2, f3, f4, f5, f6, k0, k3, f7, f8, fun z => absurd z hk⟩⟩, rfl, h5⟩
theorem next_ver {B a b c k n : Int} (v : Vok B a b c k n) : Vok (B + 1) a b (if k < 3 then c else c + 1) (if k < 3 then k else 0) (if k < 3 then n + 1 else 0) := by
  obtain ⟨h1, h2, h3, h4, h5, h6, h7, h8, h9, h10, h11⟩ := v
  by_cases h : k < 3
  · simp only [if_pos h]
    constructor <;> omega
  · simp only [if_neg h]
    constructor <;> omega
theorem next_Ver {B a b c k n : Int} (v : Vok B a b c k n) : Ver (B + 1) (if k < 3 then vt a b c k (n + 1) else vt a b (c + 1) 0 0) := by
  have := next_ver v
  by_cases h : k < 3
  · simp only [if_pos h] at this ⊢
    exact ⟨_, _, _, _, _, rfl, this⟩
  · simp only [if_neg h] at this ⊢
    exact ⟨_, _, _, _, _, rfl, this⟩
theorem versions_ok {M many : Nat} {l : List Int} {m t : Int} (hM : M < 2 ^ 30) (hmany : many ≤ 100) (h : DkOk M l m t) :
    W (mf__law_versions [.own false (.deck 0 l m t), .val (.int many)]) fun e outs => ∃ ds l' m' t' o, e = .own true (.lst ds) ∧ (∀ d ∈ ds, Ver 1000000100 d) ∧ ds.length = many ∧ outs = .own false (.deck 0 l' m' t') :: o ∧ DkOk (M + 20 * many) l' m' t' := by
  simp (config := {maxSteps := 1000000}) only [mf__law_versions, mb__law_versions, mb__law_versions_2, Fj.wp0, Fj.wp1, Fj.wp2, Fj.wp3, Fj.wp4, Fj.wp5, Fj.wp6, Fj.wp7, Fj.wp8, Fj.wp9, Fj.wp10, Fj.wp11, Fj.wp12, Fj.wp13, Fj.wp14, Fj.wp15, Fj.wp16, Fj.wp17, Fj.wp18, Fj.wp19, Fj.wp20, Fj.wp21, Fj.tyN, Int.reduceEq, Int.reduceLT, Int.reduceLE, Int.reduceAdd, Int.reduceSub, Int.reduceMul, Int.reduceNeg, Int.reducePow, Int.reduceToNat, Int.reduceMod, Int.reduceDiv, Int.reduceNe, Nat.reduceEqDiff, Nat.reduceMul, borOk, dkAll, dkKept, nlD, nlAll, id, frz, freeE, outsE, pick, merE, wipeE, Nat.reduceAdd, Nat.reduceSub, Nat.reduceLeDiff, Nat.reduceLT, reduceCtorEq, if_true, if_false, eq_self, forall_const]
  refine ⟨by omega, ?_⟩
  refine w_forL (fun ds ρ => ∃ (fs : List PyData) (l : List Int) (m t : Int) (e3 e4 : Ent), ds.length + fs.length = many ∧ (∀ d ∈ fs, Ver (1000000000 + fs.length) d) ∧ Pl e3 ∧ Pl e4 ∧ DkOk (M + 20 * fs.length) l m t ∧ ρ = [.own false (.deck 0 l m t), .val (.int many), .own true (.lst fs), e3, e4]) ?_ ?_ _ _ ⟨[], l, m, t, _, _, by rw [rng_len, Int.toNat_natCast]; rfl, fun _ z => (List.not_mem_nil z).elim, .no, .no, h, rfl⟩
  · rintro d ds ρ ⟨fs, l, m, t, e3, e4, hl, hv, p3, p4, hd, rfl⟩
    rw [List.length_cons] at hl
    simp (config := {maxSteps := 1000000}) only [p3.all, p4.all, Fj.wp0, Fj.wp1, Fj.wp2, Fj.wp3, Fj.wp4, Fj.wp5, Fj.wp6, Fj.wp7, Fj.wp8, Fj.wp9, Fj.wp10, Fj.wp11, Fj.wp12, Fj.wp13, Fj.wp14, Fj.wp15, Fj.wp16, Fj.wp17, Fj.wp18, Fj.wp19, Fj.wp20, Fj.wp21, Fj.tyN, Int.reduceEq, Int.reduceLT, Int.reduceLE, Int.reduceAdd, Int.reduceSub, Int.reduceMul, Int.reduceNeg, Int.reducePow, Int.reduceToNat, Int.reduceMod, Int.reduceDiv, Int.reduceNe, Nat.reduceEqDiff, Nat.reduceMul, borOk, dkAll, dkKept, nlD, nlAll, id, frz, freeE, outsE, pick, merE, wipeE, Nat.reduceAdd, Nat.reduceSub, Nat.reduceLeDiff, Nat.reduceLT, reduceCtorEq, if_true, if_false, eq_self, forall_const]
    refine (version_ok (B := 1000000000 + fs.length) (by omega) (by omega) hv (by omega) hd).mono ?_
    rintro _ _ ⟨d1, l1, m1, t1, o1, rfl, hv1, rfl, hd1⟩
    obtain ⟨a, b, c, k, n, rfl, v⟩ := hv1
    simp (config := {maxSteps := 1000000}) only [p3.all, p4.all, mb__law_versions_1, shapedL hv, Fj.wp0, Fj.wp1, Fj.wp2, Fj.wp3, Fj.wp4, Fj.wp5, Fj.wp6, Fj.wp7, Fj.wp8, Fj.wp9, Fj.wp10, Fj.wp11, Fj.wp12, Fj.wp13, Fj.wp14, Fj.wp15, Fj.wp16, Fj.wp17, Fj.wp18, Fj.wp19, Fj.wp20, Fj.wp21, Fj.tyN, Int.reduceEq, Int.reduceLT, Int.reduceLE, Int.reduceAdd, Int.reduceSub, Int.reduceMul, Int.reduceNeg, Int.reducePow, Int.reduceToNat, Int.reduceMod, Int.reduceDiv, Int.reduceNe, Nat.reduceEqDiff, Nat.reduceMul, borOk, dkAll, dkKept, nlD, nlAll, id, frz, freeE, outsE, pick, merE, wipeE, Nat.reduceAdd, Nat.reduceSub, Nat.reduceLeDiff, Nat.reduceLT, reduceCtorEq, if_true, if_false, eq_self, forall_const]
    have fin : ∀ (x : PyData) (l m t), DkOk (M + 20 * fs.length + 20) l m t → Ver (1000000000 + fs.length + 1) x → ∃ (fs' : List PyData) (l' : List Int) (m' t' : Int) (e3 e4 : Ent), ds.length + fs'.length = many ∧ (∀ d ∈ fs', Ver (1000000000 + fs'.length) d) ∧ Pl e3 ∧ Pl e4 ∧ DkOk (M + 20 * fs'.length) l' m' t' ∧ [Ent.own false (.deck 0 l m t), .val (.int many), .own true (.lst (fs ++ [x])), .val d, .val x] = [.own false (.deck 0 l' m' t'), .val (.int many), .own true (.lst fs'), e3, e4] := fun x l m t h1 h2 => by
      refine ⟨fs ++ [x], l, m, t, _, _, by simp; omega, fun y hy => ?_, .val, .val, h1.mono (by simp; omega), rfl⟩
      rw [List.length_append, List.length_singleton]
      rcases List.mem_append.mp hy with z | z
      · exact (hv y z).up (by omega)
      · rw [List.mem_singleton.mp z]
        exact h2.up (by omega)
    refine IfB.mk (fun hne => ?_) (fun _ => ?_)
    · have hne : fs ≠ [] := by
        intro z
        rw [z] at hne
        cases hne
      simp (config := {maxSteps := 1000000}) only [p3.all, p4.all, Fj.wp0, Fj.wp1, Fj.wp2, Fj.wp3, Fj.wp4, Fj.wp5, Fj.wp6, Fj.wp7, Fj.wp8, Fj.wp9, Fj.wp10, Fj.wp11, Fj.wp12, Fj.wp13, Fj.wp14, Fj.wp15, Fj.wp16, Fj.wp17, Fj.wp18, Fj.wp19, Fj.wp20, Fj.wp21, Fj.tyN, Int.reduceEq, Int.reduceLT, Int.reduceLE, Int.reduceAdd, Int.reduceSub, Int.reduceMul, Int.reduceNeg, Int.reducePow, Int.reduceToNat, Int.reduceMod, Int.reduceDiv, Int.reduceNe, Nat.reduceEqDiff, Nat.reduceMul, borOk, dkAll, dkKept, nlD, nlAll, id, frz, freeE, outsE, pick, merE, wipeE, Nat.reduceAdd, Nat.reduceSub, Nat.reduceLeDiff, Nat.reduceLT, reduceCtorEq, if_true, if_false, eq_self, forall_const]
      refine (draw_ok _ l1 m1 t1 _ hd1 (by omega) (by decide) (by decide)).mono ?_
      rintro _ _ ⟨r, l2, m2, t2, o2, rfl, q1, q2, rfl, hd2⟩
      simp (config := {maxSteps := 1000000}) only [p3.all, p4.all, Fj.wp0, Fj.wp1, Fj.wp2, Fj.wp3, Fj.wp4, Fj.wp5, Fj.wp6, Fj.wp7, Fj.wp8, Fj.wp9, Fj.wp10, Fj.wp11, Fj.wp12, Fj.wp13, Fj.wp14, Fj.wp15, Fj.wp16, Fj.wp17, Fj.wp18, Fj.wp19, Fj.wp20, Fj.wp21, Fj.tyN, Int.reduceEq, Int.reduceLT, Int.reduceLE, Int.reduceAdd, Int.reduceSub, Int.reduceMul, Int.reduceNeg, Int.reducePow, Int.reduceToNat, Int.reduceMod, Int.reduceDiv, Int.reduceNe, Nat.reduceEqDiff, Nat.reduceMul, borOk, dkAll, dkKept, nlD, nlAll, id, frz, freeE, outsE, pick, merE, wipeE, Nat.reduceAdd, Nat.reduceSub, Nat.reduceLeDiff, Nat.reduceLT, reduceCtorEq, if_true, if_false, eq_self, forall_const]
      refine IfB.mk (fun _ => ?_) (fun _ => ?_)
      · simp (config := {maxSteps := 1000000}) only [p3.all, p4.all, Fj.wp0, Fj.wp1, Fj.wp2, Fj.wp3, Fj.wp4, Fj.wp5, Fj.wp6, Fj.wp7, Fj.wp8, Fj.wp9, Fj.wp10, Fj.wp11, Fj.wp12, Fj.wp13, Fj.wp14, Fj.wp15, Fj.wp16, Fj.wp17, Fj.wp18, Fj.wp19, Fj.wp20, Fj.wp21, Fj.tyN, Int.reduceEq, Int.reduceLT, Int.reduceLE, Int.reduceAdd, Int.reduceSub, Int.reduceMul, Int.reduceNeg, Int.reducePow, Int.reduceToNat, Int.reduceMod, Int.reduceDiv, Int.reduceNe, Nat.reduceEqDiff, Nat.reduceMul, borOk, dkAll, dkKept, nlD, nlAll, id, frz, freeE, outsE, pick, merE, wipeE, Nat.reduceAdd, Nat.reduceSub, Nat.reduceLeDiff, Nat.reduceLT, reduceCtorEq, if_true, if_false, eq_self, forall_const]
        refine (pick_ok _ l2 m2 t2 fs hd2 (by omega) hne (by omega)).mono ?_
        rintro _ _ ⟨x, l3, m3, t3, o3, hx, rfl, rfl, hd3⟩
        obtain ⟨a', b', c', k', n', rfl, v'⟩ := hv x hx
        have nv := next_Ver v'
        simp (config := {maxSteps := 1000000}) only [p3.all, p4.all, law_next_eq, Fj.wp0, Fj.wp1, Fj.wp2, Fj.wp3, Fj.wp4, Fj.wp5, Fj.wp6, Fj.wp7, Fj.wp8, Fj.wp9, Fj.wp10, Fj.wp11, Fj.wp12, Fj.wp13, Fj.wp14, Fj.wp15, Fj.wp16, Fj.wp17, Fj.wp18, Fj.wp19, Fj.wp20, Fj.wp21, Fj.tyN, Int.reduceEq, Int.reduceLT, Int.reduceLE, Int.reduceAdd, Int.reduceSub, Int.reduceMul, Int.reduceNeg, Int.reducePow, Int.reduceToNat, Int.reduceMod, Int.reduceDiv, Int.reduceNe, Nat.reduceEqDiff, Nat.reduceMul, borOk, dkAll, dkKept, nlD, nlAll, id, frz, freeE, outsE, pick, merE, wipeE, Nat.reduceAdd, Nat.reduceSub, Nat.reduceLeDiff, Nat.reduceLT, reduceCtorEq, if_true, if_false, eq_self, forall_const]
        have hnl : nlD (if k' < 3 then vt a' b' c' k' (n' + 1) else vt a' b' (c' + 1) 0 0) = true := by split <;> rfl
        refine ⟨hnl, ?_⟩
        exact ⟨by omega, fin _ _ _ _ (hd3.mono (by omega)) nv⟩
      · (try simp (config := {maxSteps := 1000000}) only [p3.all, p4.all, Fj.wp0, Fj.wp1, Fj.wp2, Fj.wp3, Fj.wp4, Fj.wp5, Fj.wp6, Fj.wp7, Fj.wp8, Fj.wp9, Fj.wp10, Fj.wp11, Fj.wp12, Fj.wp13, Fj.wp14, Fj.wp15, Fj.wp16, Fj.wp17, Fj.wp18, Fj.wp19, Fj.wp20, Fj.wp21, Fj.tyN, Int.reduceEq, Int.reduceLT, Int.reduceLE, Int.reduceAdd, Int.reduceSub, Int.reduceMul, Int.reduceNeg, Int.reducePow, Int.reduceToNat, Int.reduceMod, Int.reduceDiv, Int.reduceNe, Nat.reduceEqDiff, Nat.reduceMul, borOk, dkAll, dkKept, nlD, nlAll, id, frz, freeE, outsE, pick, merE, wipeE, Nat.reduceAdd, Nat.reduceSub, Nat.reduceLeDiff, Nat.reduceLT, reduceCtorEq, if_true, if_false, eq_self, forall_const])
        exact ⟨by omega, fin _ _ _ _ (hd2.mono (by omega)) ⟨a, b, c, k, n, rfl, v.up (by omega)⟩⟩
    · (try simp (config := {maxSteps := 1000000}) only [p3.all, p4.all, Fj.wp0, Fj.wp1, Fj.wp2, Fj.wp3, Fj.wp4, Fj.wp5, Fj.wp6, Fj.wp7, Fj.wp8, Fj.wp9, Fj.wp10, Fj.wp11, Fj.wp12, Fj.wp13, Fj.wp14, Fj.wp15, Fj.wp16, Fj.wp17, Fj.wp18, Fj.wp19, Fj.wp20, Fj.wp21, Fj.tyN, Int.reduceEq, Int.reduceLT, Int.reduceLE, Int.reduceAdd, Int.reduceSub, Int.reduceMul, Int.reduceNeg, Int.reducePow, Int.reduceToNat, Int.reduceMod, Int.reduceDiv, Int.reduceNe, Nat.reduceEqDiff, Nat.reduceMul, borOk, dkAll, dkKept, nlD, nlAll, id, frz, freeE, outsE, pick, merE, wipeE, Nat.reduceAdd, Nat.reduceSub, Nat.reduceLeDiff, Nat.reduceLT, reduceCtorEq, if_true, if_false, eq_self, forall_const])
      exact ⟨by omega, fin _ _ _ _ (hd1.mono (by omega)) ⟨a, b, c, k, n, rfl, v.up (by omega)⟩⟩
  · rintro ρ ⟨fs, l, m, t, e3, e4, hl, hv, p3, p4, hd, rfl⟩
    rw [List.length_nil, Nat.zero_add] at hl
    rw [hl] at hd hv
    simp (config := {maxSteps := 1000000}) only [Fj.wp0, Fj.wp1, Fj.wp2, Fj.wp3, Fj.wp4, Fj.wp5, Fj.wp6, Fj.wp7, Fj.wp8, Fj.wp9, Fj.wp10, Fj.wp11, Fj.wp12, Fj.wp13, Fj.wp14, Fj.wp15, Fj.wp16, Fj.wp17, Fj.wp18, Fj.wp19, Fj.wp20, Fj.wp21, Fj.tyN, Int.reduceEq, Int.reduceLT, Int.reduceLE, Int.reduceAdd, Int.reduceSub, Int.reduceMul, Int.reduceNeg, Int.reducePow, Int.reduceToNat, Int.reduceMod, Int.reduceDiv, Int.reduceNe, Nat.reduceEqDiff, Nat.reduceMul, borOk, dkAll, dkKept, nlD, nlAll, id, frz, freeE, outsE, pick, merE, wipeE, Nat.reduceAdd, Nat.reduceSub, Nat.reduceLeDiff, Nat.reduceLT, reduceCtorEq, if_true, if_false, eq_self, forall_const]
    exact ⟨fs, l, m, t, _, rfl, fun d hd => (hv d hd).up (by omega), hl, rfl, hd⟩
end L_k08

set_option maxRecDepth 100000
set_option maxHeartbeats 0
set_option linter.all false
set_option linter.unusedSimpArgs false
namespace L_k08
open PySem PySem.Spec PyProof.Rows L2 Fj
theorem all_any {α : Type} (f : α → Bool) (xs : List α) : (xs.map f).any id = xs.any f := by
  induction xs with
  | nil => rfl
  | cons x xs ih => rw [List.map_cons, List.any_cons, List.any_cons, ih]; rfl
theorem bools_map {α : Type} (f : α → Bool) (xs : List α) : boolsD (xs.map fun x => PyData.bool (f x)) = some (xs.map f) := by
  induction xs with
  | nil => rfl
  | cons x xs ih =>
    rw [List.map_cons]
    show (boolsD (xs.map fun x => PyData.bool (f x))).map (fun l => f x :: l) = _
    rw [ih]
    rfl
theorem is_in_eq (ps : List (Vr × Option Vr)) (hl : ps.length ≤ 1000) (v : Vr) : mf_is_in [.val (rds ps), .val (tupI v)] = some (.val (.bool (Rg.inR HT.lexLt ps v)), [.no, .no]) := by
  refine W_eq ?_
  simp (config := {maxSteps := 1000000}) only [mf_is_in, mb_is_in, lc_is_in_1, Fj.wp0, Fj.wp1, Fj.wp2, Fj.wp3, Fj.wp4, Fj.wp5, Fj.wp6, Fj.wp7, Fj.wp8, Fj.wp9, Fj.wp10, Fj.wp11, Fj.wp12, Fj.wp13, Fj.wp14, Fj.wp15, Fj.wp16, Fj.wp17, Fj.wp18, Fj.wp19, Fj.wp20, Fj.wp21, Fj.tyN, Int.reduceEq, Int.reduceLT, Int.reduceLE, Int.reduceAdd, Int.reduceSub, Int.reduceMul, Int.reduceNeg, Int.reducePow, Int.reduceToNat, Int.reduceMod, Int.reduceDiv, Int.reduceNe, Nat.reduceEqDiff, Nat.reduceMul, borOk, dkAll, dkKept, nlD, nlAll, id, frz, freeE, outsE, pick, merE, wipeE, Nat.reduceAdd, Nat.reduceSub, Nat.reduceLeDiff, Nat.reduceLT, reduceCtorEq, if_true, if_false, eq_self, forall_const]
  refine w_lcL (fun ds acc ρ => ∃ done rest, ps = done ++ rest ∧ ds = rest.map rd ∧ acc = done.map (fun p => PyData.bool (Rg.inP HT.lexLt p v)) ∧ ρ = [.val (rds ps), .val (tupI v), .no, .no]) ?_ ?_ _ _ _ ⟨[], ps, rfl, rfl, rfl, rfl⟩
  · rintro d ds acc ρ ⟨done, rest, e1, e2, rfl, rfl⟩
    cases rest with
    | nil => cases e2
    | cons p rest =>
      rw [List.map_cons] at e2
      cases e2
      have hlen : done.length < 100000 := by
        have := congrArg List.length e1
        rw [List.length_append, List.length_cons] at this
        omega
      have fin : ∃ done' rest', ps = done' ++ rest' ∧ rest.map rd = rest'.map rd ∧ done.map (fun p => PyData.bool (Rg.inP HT.lexLt p v)) ++ [PyData.bool (Rg.inP HT.lexLt p v)] = done'.map (fun p => PyData.bool (Rg.inP HT.lexLt p v)) := ⟨done ++ [p], rest, by rw [e1, List.append_assoc]; rfl, rfl, by rw [List.map_append]; rfl⟩
      obtain ⟨lo, hi⟩ := p
      obtain ⟨done', rest', f1, f2, f3⟩ := fin
      have hl2 : (done.map fun p => PyData.bool (Rg.inP HT.lexLt p v)).length < 100000 := by rw [List.length_map]; exact hlen
      cases hi with
      | none =>
        have i1 : Rg.inP HT.lexLt (lo, none) v = !HT.lexLt v lo := Bool.and_true _
        rw [i1] at f3
        cases h1 : HT.lexLt v lo <;> rw [h1] at f3 <;> simp (config := {maxSteps := 1000000}) only [rd, rdH, tupI, Fj.g_leT, h1, isND, Fj.wp0, Fj.wp1, Fj.wp2, Fj.wp3, Fj.wp4, Fj.wp5, Fj.wp6, Fj.wp7, Fj.wp8, Fj.wp9, Fj.wp10, Fj.wp11, Fj.wp12, Fj.wp13, Fj.wp14, Fj.wp15, Fj.wp16, Fj.wp17, Fj.wp18, Fj.wp19, Fj.wp20, Fj.wp21, Fj.tyN, Int.reduceEq, Int.reduceLT, Int.reduceLE, Int.reduceAdd, Int.reduceSub, Int.reduceMul, Int.reduceNeg, Int.reducePow, Int.reduceToNat, Int.reduceMod, Int.reduceDiv, Int.reduceNe, Nat.reduceEqDiff, Nat.reduceMul, borOk, dkAll, dkKept, nlD, nlAll, id, frz, freeE, outsE, pick, merE, wipeE, Nat.reduceAdd, Nat.reduceSub, Nat.reduceLeDiff, Nat.reduceLT, reduceCtorEq, if_true, if_false, eq_self, forall_const] <;> exact ⟨hl2, done', rest', f1, f2, f3⟩
      | some hi =>
        have i1 : Rg.inP HT.lexLt (lo, some hi) v = (!HT.lexLt v lo && HT.lexLt v hi) := rfl
        rw [i1] at f3
        cases h1 : HT.lexLt v lo <;> cases h2 : HT.lexLt v hi <;> rw [h1, h2] at f3 <;> simp (config := {maxSteps := 1000000}) only [rd, rdH, tupI, Fj.g_leT, h1, h2, isND, Fj.wp0, Fj.wp1, Fj.wp2, Fj.wp3, Fj.wp4, Fj.wp5, Fj.wp6, Fj.wp7, Fj.wp8, Fj.wp9, Fj.wp10, Fj.wp11, Fj.wp12, Fj.wp13, Fj.wp14, Fj.wp15, Fj.wp16, Fj.wp17, Fj.wp18, Fj.wp19, Fj.wp20, Fj.wp21, Fj.tyN, Int.reduceEq, Int.reduceLT, Int.reduceLE, Int.reduceAdd, Int.reduceSub, Int.reduceMul, Int.reduceNeg, Int.reducePow, Int.reduceToNat, Int.reduceMod, Int.reduceDiv, Int.reduceNe, Nat.reduceEqDiff, Nat.reduceMul, borOk, dkAll, dkKept, nlD, nlAll, id, frz, freeE, outsE, pick, merE, wipeE, Nat.reduceAdd, Nat.reduceSub, Nat.reduceLeDiff, Nat.reduceLT, reduceCtorEq, if_true, if_false, eq_self, forall_const] <;> exact ⟨hl2, done', rest', f1, f2, f3⟩
  · rintro acc ρ ⟨done, rest, e1, e2, rfl, rfl⟩
    have : rest = [] := List.map_eq_nil_iff.mp e2.symm
    subst this
    rw [List.append_nil] at e1
    subst e1
    simp (config := {maxSteps := 1000000}) only [bools_map, all_any, Fj.wp0, Fj.wp1, Fj.wp2, Fj.wp3, Fj.wp4, Fj.wp5, Fj.wp6, Fj.wp7, Fj.wp8, Fj.wp9, Fj.wp10, Fj.wp11, Fj.wp12, Fj.wp13, Fj.wp14, Fj.wp15, Fj.wp16, Fj.wp17, Fj.wp18, Fj.wp19, Fj.wp20, Fj.wp21, Fj.tyN, Int.reduceEq, Int.reduceLT, Int.reduceLE, Int.reduceAdd, Int.reduceSub, Int.reduceMul, Int.reduceNeg, Int.reducePow, Int.reduceToNat, Int.reduceMod, Int.reduceDiv, Int.reduceNe, Nat.reduceEqDiff, Nat.reduceMul, borOk, dkAll, dkKept, nlD, nlAll, id, frz, freeE, outsE, pick, merE, wipeE, Nat.reduceAdd, Nat.reduceSub, Nat.reduceLeDiff, Nat.reduceLT, reduceCtorEq, if_true, if_false, eq_self, forall_const]
    rfl
theorem borders_of_eq (ps : List (Vr × Option Vr)) (hl : ps.length ≤ 1000) : mf_borders_of [.val (rds ps)] = some (.own true (.lst ((Rg.ends ps).map tupI)), [.no]) := by
  refine W_eq ?_
  simp (config := {maxSteps := 1000000}) only [mf_borders_of, mb_borders_of, mb_borders_of_2, Fj.wp0, Fj.wp1, Fj.wp2, Fj.wp3, Fj.wp4, Fj.wp5, Fj.wp6, Fj.wp7, Fj.wp8, Fj.wp9, Fj.wp10, Fj.wp11, Fj.wp12, Fj.wp13, Fj.wp14, Fj.wp15, Fj.wp16, Fj.wp17, Fj.wp18, Fj.wp19, Fj.wp20, Fj.wp21, Fj.tyN, Int.reduceEq, Int.reduceLT, Int.reduceLE, Int.reduceAdd, Int.reduceSub, Int.reduceMul, Int.reduceNeg, Int.reducePow, Int.reduceToNat, Int.reduceMod, Int.reduceDiv, Int.reduceNe, Nat.reduceEqDiff, Nat.reduceMul, borOk, dkAll, dkKept, nlD, nlAll, id, frz, freeE, outsE, pick, merE, wipeE, Nat.reduceAdd, Nat.reduceSub, Nat.reduceLeDiff, Nat.reduceLT, reduceCtorEq, if_true, if_false, eq_self, forall_const]
  refine w_forL (fun ds ρ => ∃ done rest e2 e3, ps = done ++ rest ∧ ds = rest.map rd ∧ Pl e2 ∧ Pl e3 ∧ ρ = [.val (rds ps), .own true (.lst ((Rg.ends done).map tupI)), e2, e3]) ?_ ?_ _ _ ⟨[], ps, _, _, rfl, rfl, .no, .no, rfl⟩
  · rintro d ds ρ ⟨done, rest, e2, e3, e1, ed, p2, p3, rfl⟩
    cases rest with
    | nil => cases ed
    | cons p rest =>
      rw [List.map_cons] at ed
      cases ed
      have hlen : done.length < 1000 := by
        have := congrArg List.length e1
        rw [List.length_append, List.length_cons] at this
        omega
      have ends_le : ∀ qs : List (Vr × Option Vr), (Rg.ends qs).length ≤ 2 * qs.length := by
        intro qs
        induction qs with
        | nil => exact Nat.le_refl _
        | cons q qs ih =>
          obtain ⟨x, y⟩ := q
          cases y with
          | none => show (Rg.ends qs).length + 1 ≤ _; rw [List.length_cons]; omega
          | some y => show (Rg.ends qs).length + 2 ≤ _; rw [List.length_cons]; omega
      have ends_app : ∀ (qs rs : List (Vr × Option Vr)), Rg.ends (qs ++ rs) = Rg.ends qs ++ Rg.ends rs := by
        intro qs rs
        induction qs with
        | nil => rfl
        | cons q qs ih =>
          obtain ⟨x, y⟩ := q
          cases y with
          | none => show x :: Rg.ends (qs ++ rs) = _; rw [ih]; rfl
          | some y => show x :: y :: Rg.ends (qs ++ rs) = _; rw [ih]; rfl
      have hE := ends_le done
      obtain ⟨lo, hi⟩ := p
      cases hi with
      | none =>
        simp (config := {maxSteps := 1000000}) only [rd, rdH, tupI, mb_borders_of_1, p2.all, p3.all, isND, Fj.wp0, Fj.wp1, Fj.wp2, Fj.wp3, Fj.wp4, Fj.wp5, Fj.wp6, Fj.wp7, Fj.wp8, Fj.wp9, Fj.wp10, Fj.wp11, Fj.wp12, Fj.wp13, Fj.wp14, Fj.wp15, Fj.wp16, Fj.wp17, Fj.wp18, Fj.wp19, Fj.wp20, Fj.wp21, Fj.tyN, Int.reduceEq, Int.reduceLT, Int.reduceLE, Int.reduceAdd, Int.reduceSub, Int.reduceMul, Int.reduceNeg, Int.reducePow, Int.reduceToNat, Int.reduceMod, Int.reduceDiv, Int.reduceNe, Nat.reduceEqDiff, Nat.reduceMul, borOk, dkAll, dkKept, nlD, nlAll, id, frz, freeE, outsE, pick, merE, wipeE, Nat.reduceAdd, Nat.reduceSub, Nat.reduceLeDiff, Nat.reduceLT, reduceCtorEq, if_true, if_false, eq_self, forall_const]
        have hx : (Rg.ends (done ++ [(lo, none)])).map tupI = (Rg.ends done).map tupI ++ [tupI lo] := by rw [ends_app, List.map_append]; rfl
        exact ⟨by rw [List.length_map]; omega, done ++ [(lo, none)], rest, .val (tupI lo), .val .none, by rw [e1, List.append_assoc]; rfl, rfl, .val, .val, by rw [hx]⟩
      | some hi =>
        simp (config := {maxSteps := 1000000}) only [rd, rdH, tupI, mb_borders_of_1, p2.all, p3.all, isND, Fj.wp0, Fj.wp1, Fj.wp2, Fj.wp3, Fj.wp4, Fj.wp5, Fj.wp6, Fj.wp7, Fj.wp8, Fj.wp9, Fj.wp10, Fj.wp11, Fj.wp12, Fj.wp13, Fj.wp14, Fj.wp15, Fj.wp16, Fj.wp17, Fj.wp18, Fj.wp19, Fj.wp20, Fj.wp21, Fj.tyN, Int.reduceEq, Int.reduceLT, Int.reduceLE, Int.reduceAdd, Int.reduceSub, Int.reduceMul, Int.reduceNeg, Int.reducePow, Int.reduceToNat, Int.reduceMod, Int.reduceDiv, Int.reduceNe, Nat.reduceEqDiff, Nat.reduceMul, borOk, dkAll, dkKept, nlD, nlAll, id, frz, freeE, outsE, pick, merE, wipeE, Nat.reduceAdd, Nat.reduceSub, Nat.reduceLeDiff, Nat.reduceLT, reduceCtorEq, if_true, if_false, eq_self, forall_const]
        have hx : (Rg.ends (done ++ [(lo, some hi)])).map tupI = (Rg.ends done).map tupI ++ [tupI lo] ++ [tupI hi] := by rw [ends_app, List.map_append, List.append_assoc]; rfl
        exact ⟨by rw [List.length_map]; omega, by rw [List.length_append, List.length_map]; simp; omega, done ++ [(lo, some hi)], rest, .val (tupI lo), .val (tupI hi), by rw [e1, List.append_assoc]; rfl, rfl, .val, .val, by rw [hx]⟩
  · rintro ρ ⟨done, rest, e2, e3, e1, ed, p2, p3, rfl⟩
    have : rest = [] := List.map_eq_nil_iff.mp ed.symm
    subst this
    rw [List.append_nil] at e1
    subst e1
    simp (config := {maxSteps := 1000000}) only [Fj.wp0, Fj.wp1, Fj.wp2, Fj.wp3, Fj.wp4, Fj.wp5, Fj.wp6, Fj.wp7, Fj.wp8, Fj.wp9, Fj.wp10, Fj.wp11, Fj.wp12, Fj.wp13, Fj.wp14, Fj.wp15, Fj.wp16, Fj.wp17, Fj.wp18, Fj.wp19, Fj.wp20, Fj.wp21, Fj.tyN, Int.reduceEq, Int.reduceLT, Int.reduceLE, Int.reduceAdd, Int.reduceSub, Int.reduceMul, Int.reduceNeg, Int.reducePow, Int.reduceToNat, Int.reduceMod, Int.reduceDiv, Int.reduceNe, Nat.reduceEqDiff, Nat.reduceMul, borOk, dkAll, dkKept, nlD, nlAll, id, frz, freeE, outsE, pick, merE, wipeE, Nat.reduceAdd, Nat.reduceSub, Nat.reduceLeDiff, Nat.reduceLT, reduceCtorEq, if_true, if_false, eq_self, forall_const]
end L_k08

set_option maxRecDepth 100000
set_option maxHeartbeats 0
set_option linter.all false
set_option linter.unusedSimpArgs false
namespace L_k08
open PySem PySem.Spec PyProof.Rows L2 Fj
theorem range_by_eq (bs : List Vr) (hl : bs.length ≤ 2000) : mf_range_by [.val (.list (bs.map tupI))] = some (.val (rds (Rg.prs bs)), [.no]) := by
  refine W_eq ?_
  simp (config := {maxSteps := 1000000}) only [mf_range_by, mb_range_by, lc_range_by_1, Fj.wp0, Fj.wp1, Fj.wp2, Fj.wp3, Fj.wp4, Fj.wp5, Fj.wp6, Fj.wp7, Fj.wp8, Fj.wp9, Fj.wp10, Fj.wp11, Fj.wp12, Fj.wp13, Fj.wp14, Fj.wp15, Fj.wp16, Fj.wp17, Fj.wp18, Fj.wp19, Fj.wp20, Fj.wp21, Fj.tyN, Int.reduceEq, Int.reduceLT, Int.reduceLE, Int.reduceAdd, Int.reduceSub, Int.reduceMul, Int.reduceNeg, Int.reducePow, Int.reduceToNat, Int.reduceMod, Int.reduceDiv, Int.reduceNe, Nat.reduceEqDiff, Nat.reduceMul, borOk, dkAll, dkKept, nlD, nlAll, id, frz, freeE, outsE, pick, merE, wipeE, Nat.reduceAdd, Nat.reduceSub, Nat.reduceLeDiff, Nat.reduceLT, reduceCtorEq, if_true, if_false, eq_self, forall_const]
  refine ⟨by simp; omega, ?_⟩
  refine r3_two (k := bs.length) (ρ' := [.val (.list (bs.map tupI)), .val (.list (bs.map tupI ++ [.none])), .no]) ?_ (by omega) ?_
  · simp (config := {maxSteps := 1000000}) only [List.length_map, Fj.wp0, Fj.wp1, Fj.wp2, Fj.wp3, Fj.wp4, Fj.wp5, Fj.wp6, Fj.wp7, Fj.wp8, Fj.wp9, Fj.wp10, Fj.wp11, Fj.wp12, Fj.wp13, Fj.wp14, Fj.wp15, Fj.wp16, Fj.wp17, Fj.wp18, Fj.wp19, Fj.wp20, Fj.wp21, Fj.tyN, Int.reduceEq, Int.reduceLT, Int.reduceLE, Int.reduceAdd, Int.reduceSub, Int.reduceMul, Int.reduceNeg, Int.reducePow, Int.reduceToNat, Int.reduceMod, Int.reduceDiv, Int.reduceNe, Nat.reduceEqDiff, Nat.reduceMul, borOk, dkAll, dkKept, nlD, nlAll, id, frz, freeE, outsE, pick, merE, wipeE, Nat.reduceAdd, Nat.reduceSub, Nat.reduceLeDiff, Nat.reduceLT, reduceCtorEq, if_true, if_false, eq_self, forall_const]
  simp (config := {maxSteps := 1000000}) only [Fj.wp0, Fj.wp1, Fj.wp2, Fj.wp3, Fj.wp4, Fj.wp5, Fj.wp6, Fj.wp7, Fj.wp8, Fj.wp9, Fj.wp10, Fj.wp11, Fj.wp12, Fj.wp13, Fj.wp14, Fj.wp15, Fj.wp16, Fj.wp17, Fj.wp18, Fj.wp19, Fj.wp20, Fj.wp21, Fj.tyN, Int.reduceEq, Int.reduceLT, Int.reduceLE, Int.reduceAdd, Int.reduceSub, Int.reduceMul, Int.reduceNeg, Int.reducePow, Int.reduceToNat, Int.reduceMod, Int.reduceDiv, Int.reduceNe, Nat.reduceEqDiff, Nat.reduceMul, borOk, dkAll, dkKept, nlD, nlAll, id, frz, freeE, outsE, pick, merE, wipeE, Nat.reduceAdd, Nat.reduceSub, Nat.reduceLeDiff, Nat.reduceLT, reduceCtorEq, if_true, if_false, eq_self, forall_const]
  have hp := prs_len bs
  refine w_lcL (fun ds acc ρ => ∃ j, ds = (rngCD 0 2 ((bs.length + 1) / 2)).drop j ∧ j ≤ (bs.length + 1) / 2 ∧ acc = ((Rg.prs bs).take j).map rd ∧ ρ = [.val (.list (bs.map tupI)), .val (.list (bs.map tupI ++ [.none])), .no]) ?_ ?_ _ _ _ ⟨0, rfl, Nat.zero_le _, rfl, rfl⟩
  · rintro d ds acc ρ ⟨j, e1, e2, rfl, rfl⟩
    have hj : j < (bs.length + 1) / 2 := by
      refine Nat.lt_of_not_le fun z => ?_
      have hd : (rngCD 0 2 ((bs.length + 1) / 2)).drop j = [] := List.drop_eq_nil_of_le (by rw [rngC_len]; exact z)
      rw [hd] at e1
      cases e1
    obtain ⟨x, x1, x2⟩ := prs_get bs j (by omega)
    have hd : (rngCD 0 2 ((bs.length + 1) / 2)).drop j = .int (0 + (j : Nat) * 2) :: (rngCD 0 2 ((bs.length + 1) / 2)).drop (j + 1) := by
      have hlt : j < (rngCD 0 2 ((bs.length + 1) / 2)).length := by rw [rngC_len]; exact hj
      rw [List.drop_eq_getElem_cons hlt]
      congr 1
      have := rngC_get (lo := 0) (st := 2) hj
      rw [List.getElem?_eq_getElem hlt] at this
      exact Option.some.inj this
    rw [hd] at e1
    cases e1
    have a1 : L2.atI (bs.map tupI ++ [PyData.none]) (0 + (j : Int) * 2) = some (tupI x) := by
      rw [show (0 + (j : Int) * 2) = ((2 * j : Nat) : Int) by omega, Fj.atI_nat, ends_get bs _ (by omega), x1]
      rfl
    have a2 : L2.atI (bs.map tupI ++ [PyData.none]) (0 + (j : Int) * 2 + 1) = some (rdH bs[2 * j + 1]?) := by
      rw [show (0 + (j : Int) * 2 + 1) = ((2 * j + 1 : Nat) : Int) by omega, Fj.atI_nat, ends_get bs _ (by omega)]
    simp (config := {maxSteps := 1000000}) only [a1, a2, Fj.wp0, Fj.wp1, Fj.wp2, Fj.wp3, Fj.wp4, Fj.wp5, Fj.wp6, Fj.wp7, Fj.wp8, Fj.wp9, Fj.wp10, Fj.wp11, Fj.wp12, Fj.wp13, Fj.wp14, Fj.wp15, Fj.wp16, Fj.wp17, Fj.wp18, Fj.wp19, Fj.wp20, Fj.wp21, Fj.tyN, Int.reduceEq, Int.reduceLT, Int.reduceLE, Int.reduceAdd, Int.reduceSub, Int.reduceMul, Int.reduceNeg, Int.reducePow, Int.reduceToNat, Int.reduceMod, Int.reduceDiv, Int.reduceNe, Nat.reduceEqDiff, Nat.reduceMul, borOk, dkAll, dkKept, nlD, nlAll, id, frz, freeE, outsE, pick, merE, wipeE, Nat.reduceAdd, Nat.reduceSub, Nat.reduceLeDiff, Nat.reduceLT, reduceCtorEq, if_true, if_false, eq_self, forall_const]
    refine ⟨by rw [List.length_map, List.length_take]; omega, j + 1, rfl, by omega, ?_⟩
    rw [List.take_add_one, x2, List.map_append]
    rfl
  · rintro acc ρ ⟨j, e1, e2, rfl, rfl⟩
    have hj : j = (bs.length + 1) / 2 := by
      refine Nat.le_antisymm e2 (Nat.le_of_not_lt fun z => ?_)
      have : ((rngCD 0 2 ((bs.length + 1) / 2)).drop j).length = 0 := by rw [← e1]; rfl
      rw [List.length_drop, rngC_len] at this
      omega
    rw [hj, ← hp, List.take_length]
    simp (config := {maxSteps := 1000000}) only [Fj.wp0, Fj.wp1, Fj.wp2, Fj.wp3, Fj.wp4, Fj.wp5, Fj.wp6, Fj.wp7, Fj.wp8, Fj.wp9, Fj.wp10, Fj.wp11, Fj.wp12, Fj.wp13, Fj.wp14, Fj.wp15, Fj.wp16, Fj.wp17, Fj.wp18, Fj.wp19, Fj.wp20, Fj.wp21, Fj.tyN, Int.reduceEq, Int.reduceLT, Int.reduceLE, Int.reduceAdd, Int.reduceSub, Int.reduceMul, Int.reduceNeg, Int.reducePow, Int.reduceToNat, Int.reduceMod, Int.reduceDiv, Int.reduceNe, Nat.reduceEqDiff, Nat.reduceMul, borOk, dkAll, dkKept, nlD, nlAll, id, frz, freeE, outsE, pick, merE, wipeE, Nat.reduceAdd, Nat.reduceSub, Nat.reduceLeDiff, Nat.reduceLT, reduceCtorEq, if_true, if_false, eq_self, forall_const]
end L_k08

set_option maxRecDepth 100000
set_option maxHeartbeats 0
set_option linter.all false
set_option linter.unusedSimpArgs false
namespace L_k08
open PySem PySem.Spec PyProof.Rows L2 Fj
def VerR (B : Int) (v : Vr) : Prop := ∃ a b c k n, v = [a, b, c, k, n] ∧ Vok B a b c k n
theorem VerR.ver {B : Int} {v : Vr} (h : VerR B v) : Ver B (tupI v) := by
  obtain ⟨a, b, c, k, n, rfl, w⟩ := h
  exact ⟨a, b, c, k, n, rfl, w⟩
theorem Ver.row {B : Int} {d : PyData} (h : Ver B d) : ∃ v, d = tupI v ∧ VerR B v := by
  obtain ⟨a, b, c, k, n, rfl, w⟩ := h
  exact ⟨[a, b, c, k, n], rfl, a, b, c, k, n, rfl, w⟩
theorem VerR.up {B B' : Int} {v : Vr} (h : VerR B v) (hb : B ≤ B') : VerR B' v := by
  obtain ⟨a, b, c, k, n, rfl, w⟩ := h
  exact ⟨a, b, c, k, n, rfl, w.up hb⟩
theorem VerR.vsm {B : Int} {v : Vr} (h : VerR B v) (hB : B ≤ 100000000000) : Vsm v := by
  obtain ⟨a, b, c, k, n, rfl, ⟨h1, h2, h3, h4, h5, h6, h7, h8, h9, h10, h11⟩⟩ := h
  refine ⟨Nat.le_refl _, fun i hi => ?_⟩
  simp only [List.mem_cons, List.not_mem_nil, or_false] at hi
  rcases hi with rfl | rfl | rfl | rfl | rfl <;> omega
theorem VerR.nn {B : Int} {v : Vr} (h : VerR B v) : v.length = 5 ∧ ∀ i ∈ v, 0 ≤ i := by
  obtain ⟨a, b, c, k, n, rfl, ⟨h1, h2, h3, h4, h5, h6, h7, h8, h9, h10, h11⟩⟩ := h
  refine ⟨rfl, fun i hi => ?_⟩
  simp only [List.mem_cons, List.not_mem_nil, or_false] at hi
  rcases hi with rfl | rfl | rfl | rfl | rfl <;> omega
theorem iv_row {B : Int} {v : Vr} (h : VerR B v) : mf_is_version_value [.val (tupI v)] = some (.val (.bool true), [.no]) := by
  obtain ⟨a, b, c, k, n, rfl, w⟩ := h
  exact iv_eq w
theorem pair_eq {B : Int} {p : Vr × Option Vr} (h1 : VerR B p.1) (h2 : ∀ x, p.2 = some x → VerR B x ∧ HT.lexLt p.1 x = true) : mf_is_pair_of_ends [.val (rd p)] = some (.val (.bool true), [.no]) := by
  refine W_eq ?_
  obtain ⟨a, x⟩ := p
  have e1 := iv_row h1
  cases x with
  | none => simp (config := {maxSteps := 1000000}) only [mf_is_pair_of_ends, mb_is_pair_of_ends, mb_is_pair_of_ends_1, rd, rdH, e1, isND, Fj.wp0, Fj.wp1, Fj.wp2, Fj.wp3, Fj.wp4, Fj.wp5, Fj.wp6, Fj.wp7, Fj.wp8, Fj.wp9, Fj.wp10, Fj.wp11, Fj.wp12, Fj.wp13, Fj.wp14, Fj.wp15, Fj.wp16, Fj.wp17, Fj.wp18, Fj.wp19, Fj.wp20, Fj.wp21, Fj.tyN, Int.reduceEq, Int.reduceLT, Int.reduceLE, Int.reduceAdd, Int.reduceSub, Int.reduceMul, Int.reduceNeg, Int.reducePow, Int.reduceToNat, Int.reduceMod, Int.reduceDiv, Int.reduceNe, Nat.reduceEqDiff, Nat.reduceMul, borOk, dkAll, dkKept, nlD, nlAll, id, frz, freeE, outsE, pick, merE, wipeE, Nat.reduceAdd, Nat.reduceSub, Nat.reduceLeDiff, Nat.reduceLT, reduceCtorEq, if_true, if_false, eq_self, forall_const]
  | some x =>
    obtain ⟨h3, h4⟩ := h2 x rfl
    have e2 := iv_row h3
    have h4 : HT.lexLt a x = true := h4
    simp (config := {maxSteps := 1000000}) only [mf_is_pair_of_ends, mb_is_pair_of_ends, mb_is_pair_of_ends_1, rd, rdH, e1, e2, isND, h4, Fj.wp0, Fj.wp1, Fj.wp2, Fj.wp3, Fj.wp4, Fj.wp5, Fj.wp6, Fj.wp7, Fj.wp8, Fj.wp9, Fj.wp10, Fj.wp11, Fj.wp12, Fj.wp13, Fj.wp14, Fj.wp15, Fj.wp16, Fj.wp17, Fj.wp18, Fj.wp19, Fj.wp20, Fj.wp21, Fj.tyN, Int.reduceEq, Int.reduceLT, Int.reduceLE, Int.reduceAdd, Int.reduceSub, Int.reduceMul, Int.reduceNeg, Int.reducePow, Int.reduceToNat, Int.reduceMod, Int.reduceDiv, Int.reduceNe, Nat.reduceEqDiff, Nat.reduceMul, borOk, dkAll, dkKept, nlD, nlAll, id, frz, freeE, outsE, pick, merE, wipeE, Nat.reduceAdd, Nat.reduceSub, Nat.reduceLeDiff, Nat.reduceLT, reduceCtorEq, if_true, if_false, eq_self, forall_const]
theorem range_value_eq {B : Int} {bs : List Vr} (hu : Upv bs) (hv : ∀ b ∈ bs, VerR B b) (hl : bs.length ≤ 1000) : mf_is_range_value [.val (rds (Rg.prs bs))] = some (.val (.bool true), [.no]) := by
  refine W_eq ?_
  have hp := prs_le bs
  simp (config := {maxSteps := 1000000}) only [mf_is_range_value, mb_is_range_value, mb_is_range_value_2, lc_is_range_value_1, Fj.wp0, Fj.wp1, Fj.wp2, Fj.wp3, Fj.wp4, Fj.wp5, Fj.wp6, Fj.wp7, Fj.wp8, Fj.wp9, Fj.wp10, Fj.wp11, Fj.wp12, Fj.wp13, Fj.wp14, Fj.wp15, Fj.wp16, Fj.wp17, Fj.wp18, Fj.wp19, Fj.wp20, Fj.wp21, Fj.tyN, Int.reduceEq, Int.reduceLT, Int.reduceLE, Int.reduceAdd, Int.reduceSub, Int.reduceMul, Int.reduceNeg, Int.reducePow, Int.reduceToNat, Int.reduceMod, Int.reduceDiv, Int.reduceNe, Nat.reduceEqDiff, Nat.reduceMul, borOk, dkAll, dkKept, nlD, nlAll, id, frz, freeE, outsE, pick, merE, wipeE, Nat.reduceAdd, Nat.reduceSub, Nat.reduceLeDiff, Nat.reduceLT, reduceCtorEq, if_true, if_false, eq_self, forall_const]
  refine w_lcMap rd (fun _ => .bool true) (fun p hp => ?_) (by omega) ?_
  · obtain ⟨g1, g2⟩ := prs_mem hu p hp
    have e := pair_eq (hv _ g1) fun x hx => ⟨hv _ (g2 x hx).1, (g2 x hx).2⟩
    simp (config := {maxSteps := 1000000}) only [e, Fj.wp0, Fj.wp1, Fj.wp2, Fj.wp3, Fj.wp4, Fj.wp5, Fj.wp6, Fj.wp7, Fj.wp8, Fj.wp9, Fj.wp10, Fj.wp11, Fj.wp12, Fj.wp13, Fj.wp14, Fj.wp15, Fj.wp16, Fj.wp17, Fj.wp18, Fj.wp19, Fj.wp20, Fj.wp21, Fj.tyN, Int.reduceEq, Int.reduceLT, Int.reduceLE, Int.reduceAdd, Int.reduceSub, Int.reduceMul, Int.reduceNeg, Int.reducePow, Int.reduceToNat, Int.reduceMod, Int.reduceDiv, Int.reduceNe, Nat.reduceEqDiff, Nat.reduceMul, borOk, dkAll, dkKept, nlD, nlAll, id, frz, freeE, outsE, pick, merE, wipeE, Nat.reduceAdd, Nat.reduceSub, Nat.reduceLeDiff, Nat.reduceLT, reduceCtorEq, if_true, if_false, eq_self, forall_const]
  · simp (config := {maxSteps := 1000000}) only [Fj.g_boolsF, Fj.all_true, lc_is_range_value_3, Fj.cut_1, Fj.wp0, Fj.wp1, Fj.wp2, Fj.wp3, Fj.wp4, Fj.wp5, Fj.wp6, Fj.wp7, Fj.wp8, Fj.wp9, Fj.wp10, Fj.wp11, Fj.wp12, Fj.wp13, Fj.wp14, Fj.wp15, Fj.wp16, Fj.wp17, Fj.wp18, Fj.wp19, Fj.wp20, Fj.wp21, Fj.tyN, Int.reduceEq, Int.reduceLT, Int.reduceLE, Int.reduceAdd, Int.reduceSub, Int.reduceMul, Int.reduceNeg, Int.reducePow, Int.reduceToNat, Int.reduceMod, Int.reduceDiv, Int.reduceNe, Nat.reduceEqDiff, Nat.reduceMul, borOk, dkAll, dkKept, nlD, nlAll, id, frz, freeE, outsE, pick, merE, wipeE, Nat.reduceAdd, Nat.reduceSub, Nat.reduceLeDiff, Nat.reduceLT, reduceCtorEq, if_true, if_false, eq_self, forall_const]
    rw [← List.map_id (zipD _ _)]
    refine w_lcMap id (fun _ => .bool true) (fun d hd => ?_) ?_ ?_
    · obtain ⟨p, q, h, rfl, h1, h2⟩ := zip_chn (prs_chn hu) d hd
      simp (config := {maxSteps := 1000000}) only [rd, rdH, h1, h2, isND, Fj.wp0, Fj.wp1, Fj.wp2, Fj.wp3, Fj.wp4, Fj.wp5, Fj.wp6, Fj.wp7, Fj.wp8, Fj.wp9, Fj.wp10, Fj.wp11, Fj.wp12, Fj.wp13, Fj.wp14, Fj.wp15, Fj.wp16, Fj.wp17, Fj.wp18, Fj.wp19, Fj.wp20, Fj.wp21, Fj.tyN, Int.reduceEq, Int.reduceLT, Int.reduceLE, Int.reduceAdd, Int.reduceSub, Int.reduceMul, Int.reduceNeg, Int.reducePow, Int.reduceToNat, Int.reduceMod, Int.reduceDiv, Int.reduceNe, Nat.reduceEqDiff, Nat.reduceMul, borOk, dkAll, dkKept, nlD, nlAll, id, frz, freeE, outsE, pick, merE, wipeE, Nat.reduceAdd, Nat.reduceSub, Nat.reduceLeDiff, Nat.reduceLT, reduceCtorEq, if_true, if_false, eq_self, forall_const]
    · unfold zipD
      rw [List.length_map, List.length_zip, List.length_map]
      omega
    · simp (config := {maxSteps := 1000000}) only [Fj.g_boolsF, Fj.all_true, Fj.wp0, Fj.wp1, Fj.wp2, Fj.wp3, Fj.wp4, Fj.wp5, Fj.wp6, Fj.wp7, Fj.wp8, Fj.wp9, Fj.wp10, Fj.wp11, Fj.wp12, Fj.wp13, Fj.wp14, Fj.wp15, Fj.wp16, Fj.wp17, Fj.wp18, Fj.wp19, Fj.wp20, Fj.wp21, Fj.tyN, Int.reduceEq, Int.reduceLT, Int.reduceLE, Int.reduceAdd, Int.reduceSub, Int.reduceMul, Int.reduceNeg, Int.reducePow, Int.reduceToNat, Int.reduceMod, Int.reduceDiv, Int.reduceNe, Nat.reduceEqDiff, Nat.reduceMul, borOk, dkAll, dkKept, nlD, nlAll, id, frz, freeE, outsE, pick, merE, wipeE, Nat.reduceAdd, Nat.reduceSub, Nat.reduceLeDiff, Nat.reduceLT, reduceCtorEq, if_true, if_false, eq_self, forall_const]
theorem need_eq {B : Int} {bs : List Vr} (hu : Upv bs) (hv : ∀ b ∈ bs, VerR B b) (hl : bs.length ≤ 1000) : mf_need_range [.val (rds (Rg.prs bs))] = some (.val .none, [.no]) := by
  refine W_eq ?_
  have e := range_value_eq hu hv hl
  simp (config := {maxSteps := 1000000}) only [mf_need_range, mb_need_range, mb_need_range_1, e, Fj.wp0, Fj.wp1, Fj.wp2, Fj.wp3, Fj.wp4, Fj.wp5, Fj.wp6, Fj.wp7, Fj.wp8, Fj.wp9, Fj.wp10, Fj.wp11, Fj.wp12, Fj.wp13, Fj.wp14, Fj.wp15, Fj.wp16, Fj.wp17, Fj.wp18, Fj.wp19, Fj.wp20, Fj.wp21, Fj.tyN, Int.reduceEq, Int.reduceLT, Int.reduceLE, Int.reduceAdd, Int.reduceSub, Int.reduceMul, Int.reduceNeg, Int.reducePow, Int.reduceToNat, Int.reduceMod, Int.reduceDiv, Int.reduceNe, Nat.reduceEqDiff, Nat.reduceMul, borOk, dkAll, dkKept, nlD, nlAll, id, frz, freeE, outsE, pick, merE, wipeE, Nat.reduceAdd, Nat.reduceSub, Nat.reduceLeDiff, Nat.reduceLT, reduceCtorEq, if_true, if_false, eq_self, forall_const]
theorem two_eq {B : Int} {as bs : List Vr} (ua : Upv as) (va : ∀ b ∈ as, VerR B b) (la : as.length ≤ 1000) (ub : Upv bs) (vb : ∀ b ∈ bs, VerR B b) (lb : bs.length ≤ 1000) : mf_need_two [.val (rds (Rg.prs as)), .val (rds (Rg.prs bs))] = some (.val .none, [.no, .no]) := by
  refine W_eq ?_
  have e := need_eq ua va la
  have e2 := need_eq ub vb lb
  simp (config := {maxSteps := 1000000}) only [mf_need_two, mb_need_two, e, e2, Fj.wp0, Fj.wp1, Fj.wp2, Fj.wp3, Fj.wp4, Fj.wp5, Fj.wp6, Fj.wp7, Fj.wp8, Fj.wp9, Fj.wp10, Fj.wp11, Fj.wp12, Fj.wp13, Fj.wp14, Fj.wp15, Fj.wp16, Fj.wp17, Fj.wp18, Fj.wp19, Fj.wp20, Fj.wp21, Fj.tyN, Int.reduceEq, Int.reduceLT, Int.reduceLE, Int.reduceAdd, Int.reduceSub, Int.reduceMul, Int.reduceNeg, Int.reducePow, Int.reduceToNat, Int.reduceMod, Int.reduceDiv, Int.reduceNe, Nat.reduceEqDiff, Nat.reduceMul, borOk, dkAll, dkKept, nlD, nlAll, id, frz, freeE, outsE, pick, merE, wipeE, Nat.reduceAdd, Nat.reduceSub, Nat.reduceLeDiff, Nat.reduceLT, reduceCtorEq, if_true, if_false, eq_self, forall_const]
theorem combined_eq {B : Int} {as bs : List Vr} {wd : PyData} {Wf : Bool → Bool → Bool} (hw : ∀ a b, gIn (.tuple [.bool a, .bool b]) wd = some (.bool (Wf a b))) (ha : Upv as) (hb : Upv bs) (va : ∀ v ∈ as, VerR B v) (vb : ∀ v ∈ bs, VerR B v) (hl : as.length + bs.length < 64) :
    mf_combined [.val (rds (Rg.prs as)), .val (rds (Rg.prs bs)), .val wd] = some (.val (rds (Rg.prs (cmb Wf as bs))), [.no, .no, .no]) := by
  refine W_eq ?_
  have la := prs_le as
  have lb := prs_le bs
  have b1 := borders_of_eq (Rg.prs as) (by omega)
  have b2 := borders_of_eq (Rg.prs bs) (by omega)
  rw [Rg.ends_prs] at b1 b2
  have i1 : ∀ v, mf_is_in [.val (rds (Rg.prs as)), .val (tupI v)] = some (.val (.bool (inV as v)), [.no, .no]) := fun v => by
    rw [is_in_eq (Rg.prs as) (by omega), Rg.inR_prs lin_lex as ha v]
  have i2 : ∀ v, mf_is_in [.val (rds (Rg.prs bs)), .val (tupI v)] = some (.val (.bool (inV bs v)), [.no, .no]) := fun v => by
    rw [is_in_eq (Rg.prs bs) (by omega), Rg.inR_prs lin_lex bs hb v]
  have e0 : as.map tupI ++ bs.map tupI = (as ++ bs).map tupI := (List.map_append ..).symm
  have l0 : (as.map tupI).length + (bs.map tupI).length ≤ 100000 := by
    rw [List.length_map, List.length_map]
    omega
  have ok : tupsOk (as ++ bs) = true := tups_ok5 (by rw [List.length_append]; exact hl) fun v hv => (List.mem_append.mp hv).elim (fun h => (va v h).nn) fun h => (vb v h).nn
  have ls := srt_len (as ++ bs)
  rw [List.length_append] at ls
  have lc : (cmb Wf as bs).length < 64 := Nat.lt_of_le_of_lt cmb_len hl
  simp (config := {maxSteps := 1000000}) only [mf_combined, mb_combined, mb_combined_2, b1, b2, l0, e0, ok, Fj.wp0, Fj.wp1, Fj.wp2, Fj.wp3, Fj.wp4, Fj.wp5, Fj.wp6, Fj.wp7, Fj.wp8, Fj.wp9, Fj.wp10, Fj.wp11, Fj.wp12, Fj.wp13, Fj.wp14, Fj.wp15, Fj.wp16, Fj.wp17, Fj.wp18, Fj.wp19, Fj.wp20, Fj.wp21, Fj.tyN, Int.reduceEq, Int.reduceLT, Int.reduceLE, Int.reduceAdd, Int.reduceSub, Int.reduceMul, Int.reduceNeg, Int.reducePow, Int.reduceToNat, Int.reduceMod, Int.reduceDiv, Int.reduceNe, Nat.reduceEqDiff, Nat.reduceMul, borOk, dkAll, dkKept, nlD, nlAll, id, frz, freeE, outsE, pick, merE, wipeE, Nat.reduceAdd, Nat.reduceSub, Nat.reduceLeDiff, Nat.reduceLT, reduceCtorEq, if_true, if_false, eq_self, forall_const]
  refine w_forL (fun ds ρ => ∃ rest found was e3 e6, ds = rest.map tupI ∧ cmb Wf as bs = found ++ Rg.chg (fun s => Wf (inV as s) (inV bs s)) was rest ∧ Pl e3 ∧ Pl e6 ∧ ρ = [.val (rds (Rg.prs as)), .val (rds (Rg.prs bs)), .val wd, e3, .own true (.lst (found.map tupI)), .val (.bool was), e6]) ?_ ?_ _ _ ⟨srt (as ++ bs), [], false, .no, .no, rfl, rfl, .no, .no, rfl⟩
  · rintro d ds ρ ⟨rest, found, was, e3, e6, e1, e2, p3, p6, rfl⟩
    cases rest with
    | nil => cases e1
    | cons v rest =>
      rw [List.map_cons] at e1
      cases e1
      have hf : found.length < 64 := by
        have := congrArg List.length e2
        rw [List.length_append] at this
        omega
      have hf2 : (found.map tupI).length < 100000 := by
        rw [List.length_map]
        omega
      simp (config := {maxSteps := 1000000}) only [p3.all, p6.all, i1, i2, hw, mb_combined_1, Fj.g_neB, Fj.wp0, Fj.wp1, Fj.wp2, Fj.wp3, Fj.wp4, Fj.wp5, Fj.wp6, Fj.wp7, Fj.wp8, Fj.wp9, Fj.wp10, Fj.wp11, Fj.wp12, Fj.wp13, Fj.wp14, Fj.wp15, Fj.wp16, Fj.wp17, Fj.wp18, Fj.wp19, Fj.wp20, Fj.wp21, Fj.tyN, Int.reduceEq, Int.reduceLT, Int.reduceLE, Int.reduceAdd, Int.reduceSub, Int.reduceMul, Int.reduceNeg, Int.reducePow, Int.reduceToNat, Int.reduceMod, Int.reduceDiv, Int.reduceNe, Nat.reduceEqDiff, Nat.reduceMul, borOk, dkAll, dkKept, nlD, nlAll, id, frz, freeE, outsE, pick, merE, wipeE, Nat.reduceAdd, Nat.reduceSub, Nat.reduceLeDiff, Nat.reduceLT, reduceCtorEq, if_true, if_false, eq_self, forall_const]
      unfold Rg.chg at e2
      refine IfB.mk (fun h => ?_) (fun h => ?_)
      · simp (config := {maxSteps := 1000000}) only [p3.all, p6.all, hf2, Fj.wp0, Fj.wp1, Fj.wp2, Fj.wp3, Fj.wp4, Fj.wp5, Fj.wp6, Fj.wp7, Fj.wp8, Fj.wp9, Fj.wp10, Fj.wp11, Fj.wp12, Fj.wp13, Fj.wp14, Fj.wp15, Fj.wp16, Fj.wp17, Fj.wp18, Fj.wp19, Fj.wp20, Fj.wp21, Fj.tyN, Int.reduceEq, Int.reduceLT, Int.reduceLE, Int.reduceAdd, Int.reduceSub, Int.reduceMul, Int.reduceNeg, Int.reducePow, Int.reduceToNat, Int.reduceMod, Int.reduceDiv, Int.reduceNe, Nat.reduceEqDiff, Nat.reduceMul, borOk, dkAll, dkKept, nlD, nlAll, id, frz, freeE, outsE, pick, merE, wipeE, Nat.reduceAdd, Nat.reduceSub, Nat.reduceLeDiff, Nat.reduceLT, reduceCtorEq, if_true, if_false, eq_self, forall_const]
        rw [if_neg (by intro z; rw [z] at h; cases was <;> cases h)] at e2
        exact ⟨rest, found ++ [v], _, _, _, rfl, by rw [e2, List.append_assoc]; rfl, .val, .val, by rw [List.map_append]; rfl⟩
      · have h : Wf (inV as v) (inV bs v) = was := by
          cases was <;> cases z : Wf (inV as v) (inV bs v) <;> first | rfl | (rw [z] at h; cases h)
        rw [if_pos h] at e2
        (try simp (config := {maxSteps := 1000000}) only [p3.all, p6.all, Fj.wp0, Fj.wp1, Fj.wp2, Fj.wp3, Fj.wp4, Fj.wp5, Fj.wp6, Fj.wp7, Fj.wp8, Fj.wp9, Fj.wp10, Fj.wp11, Fj.wp12, Fj.wp13, Fj.wp14, Fj.wp15, Fj.wp16, Fj.wp17, Fj.wp18, Fj.wp19, Fj.wp20, Fj.wp21, Fj.tyN, Int.reduceEq, Int.reduceLT, Int.reduceLE, Int.reduceAdd, Int.reduceSub, Int.reduceMul, Int.reduceNeg, Int.reducePow, Int.reduceToNat, Int.reduceMod, Int.reduceDiv, Int.reduceNe, Nat.reduceEqDiff, Nat.reduceMul, borOk, dkAll, dkKept, nlD, nlAll, id, frz, freeE, outsE, pick, merE, wipeE, Nat.reduceAdd, Nat.reduceSub, Nat.reduceLeDiff, Nat.reduceLT, reduceCtorEq, if_true, if_false, eq_self, forall_const])
        exact ⟨rest, found, was, _, _, rfl, e2, .val, .val, rfl⟩
  · rintro ρ ⟨rest, found, was, e3, e6, e1, e2, p3, p6, rfl⟩
    have : rest = [] := List.map_eq_nil_iff.mp e1.symm
    subst this
    have e2 : cmb Wf as bs = found := e2.trans (List.append_nil _)
    have r := range_by_eq found (by rw [← e2]; omega)
    simp (config := {maxSteps := 1000000}) only [p3.all, p6.all, r, e2, Fj.wp0, Fj.wp1, Fj.wp2, Fj.wp3, Fj.wp4, Fj.wp5, Fj.wp6, Fj.wp7, Fj.wp8, Fj.wp9, Fj.wp10, Fj.wp11, Fj.wp12, Fj.wp13, Fj.wp14, Fj.wp15, Fj.wp16, Fj.wp17, Fj.wp18, Fj.wp19, Fj.wp20, Fj.wp21, Fj.tyN, Int.reduceEq, Int.reduceLT, Int.reduceLE, Int.reduceAdd, Int.reduceSub, Int.reduceMul, Int.reduceNeg, Int.reducePow, Int.reduceToNat, Int.reduceMod, Int.reduceDiv, Int.reduceNe, Nat.reduceEqDiff, Nat.reduceMul, borOk, dkAll, dkKept, nlD, nlAll, id, frz, freeE, outsE, pick, merE, wipeE, Nat.reduceAdd, Nat.reduceSub, Nat.reduceLeDiff, Nat.reduceLT, reduceCtorEq, if_true, if_false, eq_self, forall_const]
theorem wJ : ∀ a b, gIn (.tuple [.bool a, .bool b]) (.tuple [.tuple [.bool true, .bool true], .tuple [.bool true, .bool false], .tuple [.bool false, .bool true]]) = some (.bool (a || b)) := by
  intro a b
  cases a <;> cases b <;> rfl
theorem wC : ∀ a b, gIn (.tuple [.bool a, .bool b]) (.tuple [.tuple [.bool true, .bool true]]) = some (.bool (a && b)) := by
  intro a b
  cases a <;> cases b <;> rfl
theorem wD : ∀ a b, gIn (.tuple [.bool a, .bool b]) (.tuple [.tuple [.bool true, .bool false]]) = some (.bool (a && !b)) := by
  intro a b
  cases a <;> cases b <;> rfl
abbrev jn := cmb fun a b => a || b
abbrev ct := cmb fun a b => a && b
abbrev df := cmb fun a b => a && !b
theorem joined_of_eq {B : Int} {as bs : List Vr} (ha : Upv as) (hb : Upv bs) (va : ∀ v ∈ as, VerR B v) (vb : ∀ v ∈ bs, VerR B v) (hl : as.length + bs.length < 64) : mf_joined_of [.val (rds (Rg.prs as)), .val (rds (Rg.prs bs))] = some (.val (rds (Rg.prs (jn as bs))), [.no, .no]) := by
  refine W_eq ?_
  have e := combined_eq wJ ha hb va vb hl
  simp (config := {maxSteps := 1000000}) only [mf_joined_of, mb_joined_of, e, Fj.wp0, Fj.wp1, Fj.wp2, Fj.wp3, Fj.wp4, Fj.wp5, Fj.wp6, Fj.wp7, Fj.wp8, Fj.wp9, Fj.wp10, Fj.wp11, Fj.wp12, Fj.wp13, Fj.wp14, Fj.wp15, Fj.wp16, Fj.wp17, Fj.wp18, Fj.wp19, Fj.wp20, Fj.wp21, Fj.tyN, Int.reduceEq, Int.reduceLT, Int.reduceLE, Int.reduceAdd, Int.reduceSub, Int.reduceMul, Int.reduceNeg, Int.reducePow, Int.reduceToNat, Int.reduceMod, Int.reduceDiv, Int.reduceNe, Nat.reduceEqDiff, Nat.reduceMul, borOk, dkAll, dkKept, nlD, nlAll, id, frz, freeE, outsE, pick, merE, wipeE, Nat.reduceAdd, Nat.reduceSub, Nat.reduceLeDiff, Nat.reduceLT, reduceCtorEq, if_true, if_false, eq_self, forall_const]
theorem without_of_eq {B : Int} {as bs : List Vr} (ha : Upv as) (hb : Upv bs) (va : ∀ v ∈ as, VerR B v) (vb : ∀ v ∈ bs, VerR B v) (hl : as.length + bs.length < 64) : mf_without_of [.val (rds (Rg.prs as)), .val (rds (Rg.prs bs))] = some (.val (rds (Rg.prs (df as bs))), [.no, .no]) := by
  refine W_eq ?_
  have e := combined_eq wD ha hb va vb hl
  simp (config := {maxSteps := 1000000}) only [mf_without_of, mb_without_of, e, Fj.wp0, Fj.wp1, Fj.wp2, Fj.wp3, Fj.wp4, Fj.wp5, Fj.wp6, Fj.wp7, Fj.wp8, Fj.wp9, Fj.wp10, Fj.wp11, Fj.wp12, Fj.wp13, Fj.wp14, Fj.wp15, Fj.wp16, Fj.wp17, Fj.wp18, Fj.wp19, Fj.wp20, Fj.wp21, Fj.tyN, Int.reduceEq, Int.reduceLT, Int.reduceLE, Int.reduceAdd, Int.reduceSub, Int.reduceMul, Int.reduceNeg, Int.reducePow, Int.reduceToNat, Int.reduceMod, Int.reduceDiv, Int.reduceNe, Nat.reduceEqDiff, Nat.reduceMul, borOk, dkAll, dkKept, nlD, nlAll, id, frz, freeE, outsE, pick, merE, wipeE, Nat.reduceAdd, Nat.reduceSub, Nat.reduceLeDiff, Nat.reduceLT, reduceCtorEq, if_true, if_false, eq_self, forall_const]
theorem cmb_ver {B : Int} {Wf : Bool → Bool → Bool} {as bs : List Vr} (va : ∀ v ∈ as, VerR B v) (vb : ∀ v ∈ bs, VerR B v) : ∀ v ∈ cmb Wf as bs, VerR B v := fun v hv => (cmb_mem hv).elim (va v) (vb v)
end L_k08

set_option maxRecDepth 100000
set_option maxHeartbeats 0
set_option linter.all false
set_option linter.unusedSimpArgs false
namespace L_k08
open PySem PySem.Spec PyProof.Rows L2 Fj
theorem least_eq {b : Vr} {r : List Vr} (hs : SeqAt.shaped (rds (Rg.prs (b :: r))) = true) : mf_least_of [.val (rds (Rg.prs (b :: r)))] = some (.val (tupI b), [.no]) := by
  refine W_eq ?_
  obtain ⟨x, ps, e⟩ := prs_head b r
  rw [e] at hs ⊢
  rw [show rds ((b, x) :: ps) = .tuple (.tuple [tupI b, rdH x] :: ps.map rd) from rfl] at hs ⊢
  simp (config := {maxSteps := 1000000}) only [mf_least_of, mb_least_of, mb_least_of_1, Fj.g_neNilT, hs, Fj.wp0, Fj.wp1, Fj.wp2, Fj.wp3, Fj.wp4, Fj.wp5, Fj.wp6, Fj.wp7, Fj.wp8, Fj.wp9, Fj.wp10, Fj.wp11, Fj.wp12, Fj.wp13, Fj.wp14, Fj.wp15, Fj.wp16, Fj.wp17, Fj.wp18, Fj.wp19, Fj.wp20, Fj.wp21, Fj.tyN, Int.reduceEq, Int.reduceLT, Int.reduceLE, Int.reduceAdd, Int.reduceSub, Int.reduceMul, Int.reduceNeg, Int.reducePow, Int.reduceToNat, Int.reduceMod, Int.reduceDiv, Int.reduceNe, Nat.reduceEqDiff, Nat.reduceMul, borOk, dkAll, dkKept, nlD, nlAll, id, frz, freeE, outsE, pick, merE, wipeE, Nat.reduceAdd, Nat.reduceSub, Nat.reduceLeDiff, Nat.reduceLT, reduceCtorEq, if_true, if_false, eq_self, forall_const]
theorem law_in_eq (ps : List (Vr × Option Vr)) (hl : ps.length ≤ 1000) (v : Vr) : mf__law_in [.val (rds ps), .val (tupI v)] = some (.val (.bool (Rg.inR HT.lexLt ps v)), [.no, .no]) := by
  refine W_eq ?_
  simp (config := {maxSteps := 1000000}) only [mf__law_in, mb__law_in, lc__law_in_1, Fj.wp0, Fj.wp1, Fj.wp2, Fj.wp3, Fj.wp4, Fj.wp5, Fj.wp6, Fj.wp7, Fj.wp8, Fj.wp9, Fj.wp10, Fj.wp11, Fj.wp12, Fj.wp13, Fj.wp14, Fj.wp15, Fj.wp16, Fj.wp17, Fj.wp18, Fj.wp19, Fj.wp20, Fj.wp21, Fj.tyN, Int.reduceEq, Int.reduceLT, Int.reduceLE, Int.reduceAdd, Int.reduceSub, Int.reduceMul, Int.reduceNeg, Int.reducePow, Int.reduceToNat, Int.reduceMod, Int.reduceDiv, Int.reduceNe, Nat.reduceEqDiff, Nat.reduceMul, borOk, dkAll, dkKept, nlD, nlAll, id, frz, freeE, outsE, pick, merE, wipeE, Nat.reduceAdd, Nat.reduceSub, Nat.reduceLeDiff, Nat.reduceLT, reduceCtorEq, if_true, if_false, eq_self, forall_const]
  refine w_lcFil rd (fun p => Rg.inP HT.lexLt p v) (fun _ => .int 1) (fun p hp => ?_) (by omega) ?_
  · obtain ⟨lo, hi⟩ := p
    cases hi with
    | none =>
      have i1 : Rg.inP HT.lexLt (lo, none) v = !HT.lexLt v lo := Bool.and_true _
      cases h1 : HT.lexLt v lo <;> rw [h1] at i1 <;> simp (config := {maxSteps := 1000000}) only [rd, rdH, Fj.g_leT, h1, isND, i1, reduceCtorEq, Fj.wp0, Fj.wp1, Fj.wp2, Fj.wp3, Fj.wp4, Fj.wp5, Fj.wp6, Fj.wp7, Fj.wp8, Fj.wp9, Fj.wp10, Fj.wp11, Fj.wp12, Fj.wp13, Fj.wp14, Fj.wp15, Fj.wp16, Fj.wp17, Fj.wp18, Fj.wp19, Fj.wp20, Fj.wp21, Fj.tyN, Int.reduceEq, Int.reduceLT, Int.reduceLE, Int.reduceAdd, Int.reduceSub, Int.reduceMul, Int.reduceNeg, Int.reducePow, Int.reduceToNat, Int.reduceMod, Int.reduceDiv, Int.reduceNe, Nat.reduceEqDiff, Nat.reduceMul, borOk, dkAll, dkKept, nlD, nlAll, id, frz, freeE, outsE, pick, merE, wipeE, Nat.reduceAdd, Nat.reduceSub, Nat.reduceLeDiff, Nat.reduceLT, reduceCtorEq, if_true, if_false, eq_self, forall_const]
    | some hi =>
      have i1 : Rg.inP HT.lexLt (lo, some hi) v = (!HT.lexLt v lo && HT.lexLt v hi) := rfl
      cases h1 : HT.lexLt v lo <;> cases h2 : HT.lexLt v hi <;> rw [h1, h2] at i1 <;> simp (config := {maxSteps := 1000000}) only [rd, rdH, Fj.g_leT, h1, h2, isND, i1, reduceCtorEq, Fj.wp0, Fj.wp1, Fj.wp2, Fj.wp3, Fj.wp4, Fj.wp5, Fj.wp6, Fj.wp7, Fj.wp8, Fj.wp9, Fj.wp10, Fj.wp11, Fj.wp12, Fj.wp13, Fj.wp14, Fj.wp15, Fj.wp16, Fj.wp17, Fj.wp18, Fj.wp19, Fj.wp20, Fj.wp21, Fj.tyN, Int.reduceEq, Int.reduceLT, Int.reduceLE, Int.reduceAdd, Int.reduceSub, Int.reduceMul, Int.reduceNeg, Int.reducePow, Int.reduceToNat, Int.reduceMod, Int.reduceDiv, Int.reduceNe, Nat.reduceEqDiff, Nat.reduceMul, borOk, dkAll, dkKept, nlD, nlAll, id, frz, freeE, outsE, pick, merE, wipeE, Nat.reduceAdd, Nat.reduceSub, Nat.reduceLeDiff, Nat.reduceLT, reduceCtorEq, if_true, if_false, eq_self, forall_const]
  · have hs : SeqAt.shaped (.list ((ps.filter fun p => Rg.inP HT.lexLt p v).map fun _ => PyData.int 1)) = true := by
      refine (Dat.lst (DatL.of (k := 0) (w := 0) fun d hd => ?_)).shaped (by decide)
      obtain ⟨b, _, rfl⟩ := List.mem_map.mp hd
      exact .int (by decide)
    simp (config := {maxSteps := 1000000}) only [hs, Fj.any_filter, Fj.wp0, Fj.wp1, Fj.wp2, Fj.wp3, Fj.wp4, Fj.wp5, Fj.wp6, Fj.wp7, Fj.wp8, Fj.wp9, Fj.wp10, Fj.wp11, Fj.wp12, Fj.wp13, Fj.wp14, Fj.wp15, Fj.wp16, Fj.wp17, Fj.wp18, Fj.wp19, Fj.wp20, Fj.wp21, Fj.tyN, Int.reduceEq, Int.reduceLT, Int.reduceLE, Int.reduceAdd, Int.reduceSub, Int.reduceMul, Int.reduceNeg, Int.reducePow, Int.reduceToNat, Int.reduceMod, Int.reduceDiv, Int.reduceNe, Nat.reduceEqDiff, Nat.reduceMul, borOk, dkAll, dkKept, nlD, nlAll, id, frz, freeE, outsE, pick, merE, wipeE, Nat.reduceAdd, Nat.reduceSub, Nat.reduceLeDiff, Nat.reduceLT, reduceCtorEq, if_true, if_false, eq_self, forall_const]
    rfl
theorem law_made_eq {ss : List Vr} (m : Vr → Bool) (hl : ss.length ≤ 1000) : mf__law_made [.val (.list (ss.map tupI)), .val (.list ((ss.map m).map .bool))] = some (.val (rds (Rg.prs (mrk m ss))), [.no, .no]) := by
  refine W_eq ?_
  simp (config := {maxSteps := 1000000}) only [mf__law_made, mb__law_made, mb__law_made_3, Fj.zipD_sm, Fj.wp0, Fj.wp1, Fj.wp2, Fj.wp3, Fj.wp4, Fj.wp5, Fj.wp6, Fj.wp7, Fj.wp8, Fj.wp9, Fj.wp10, Fj.wp11, Fj.wp12, Fj.wp13, Fj.wp14, Fj.wp15, Fj.wp16, Fj.wp17, Fj.wp18, Fj.wp19, Fj.wp20, Fj.wp21, Fj.tyN, Int.reduceEq, Int.reduceLT, Int.reduceLE, Int.reduceAdd, Int.reduceSub, Int.reduceMul, Int.reduceNeg, Int.reducePow, Int.reduceToNat, Int.reduceMod, Int.reduceDiv, Int.reduceNe, Nat.reduceEqDiff, Nat.reduceMul, borOk, dkAll, dkKept, nlD, nlAll, id, frz, freeE, outsE, pick, merE, wipeE, Nat.reduceAdd, Nat.reduceSub, Nat.reduceLeDiff, Nat.reduceLT, reduceCtorEq, if_true, if_false, eq_self, forall_const]
  have e0 : Rg.made none (ss.zip (ss.map m)) = Rg.prs (mrk m ss) := by
    rw [zip_fn]
    exact (Rg.made_eq m ss).1
  have hz : (ss.zip (ss.map m)).length = ss.length := by
    rw [List.length_zip, List.length_map, Nat.min_self]
  generalize ss.zip (ss.map m) = zs at e0 hz
  rw [← hz] at hl
  have hr := prs_le (mrk m ss)
  have hr2 : (mrk m ss).length ≤ ss.length := mrk_len
  refine w_forL (fun ds ρ => ∃ rest found begun e4 e5, ds = rest.map (fun p : Vr × Bool => PyData.tuple [tupI p.1, .bool p.2]) ∧ Rg.prs (mrk m ss) = found ++ Rg.made begun rest ∧ Pl e4 ∧ Pl e5 ∧ ρ = [.val (.list (ss.map tupI)), .val (.list ((ss.map m).map .bool)), .own true (.lst (found.map rd)), .val (rdH begun), e4, e5]) ?_ ?_ _ _ ⟨zs, [], none, .no, .no, rfl, e0.symm, .no, .no, rfl⟩
  · intro d ds ρ ⟨rest, found, begun, e4, e5, e1, e2, p4, p5, e3⟩
    subst e3
    cases rest with
    | nil => cases e1
    | cons p rest =>
      rw [List.map_cons] at e1
      injection e1 with e6 e7
      subst e6 e7
      obtain ⟨v, b⟩ := p
      have hf : (found.map rd).length < 100000 := by
        have := congrArg List.length e2
        rw [List.length_append] at this
        rw [List.length_map]
        omega
      cases begun with
      | none =>
        cases b with
        | true =>
          simp (config := {maxSteps := 1000000}) only [p4.all, p5.all, mb__law_made_1, mb__law_made_2, rdH, isND, Fj.wp0, Fj.wp1, Fj.wp2, Fj.wp3, Fj.wp4, Fj.wp5, Fj.wp6, Fj.wp7, Fj.wp8, Fj.wp9, Fj.wp10, Fj.wp11, Fj.wp12, Fj.wp13, Fj.wp14, Fj.wp15, Fj.wp16, Fj.wp17, Fj.wp18, Fj.wp19, Fj.wp20, Fj.wp21, Fj.tyN, Int.reduceEq, Int.reduceLT, Int.reduceLE, Int.reduceAdd, Int.reduceSub, Int.reduceMul, Int.reduceNeg, Int.reducePow, Int.reduceToNat, Int.reduceMod, Int.reduceDiv, Int.reduceNe, Nat.reduceEqDiff, Nat.reduceMul, borOk, dkAll, dkKept, nlD, nlAll, id, frz, freeE, outsE, pick, merE, wipeE, Nat.reduceAdd, Nat.reduceSub, Nat.reduceLeDiff, Nat.reduceLT, reduceCtorEq, if_true, if_false, eq_self, forall_const]
          exact ⟨rest, found, some v, _, _, rfl, e2, .val, .val, rfl⟩
        | false =>
          simp (config := {maxSteps := 1000000}) only [p4.all, p5.all, mb__law_made_1, mb__law_made_2, rdH, isND, Fj.wp0, Fj.wp1, Fj.wp2, Fj.wp3, Fj.wp4, Fj.wp5, Fj.wp6, Fj.wp7, Fj.wp8, Fj.wp9, Fj.wp10, Fj.wp11, Fj.wp12, Fj.wp13, Fj.wp14, Fj.wp15, Fj.wp16, Fj.wp17, Fj.wp18, Fj.wp19, Fj.wp20, Fj.wp21, Fj.tyN, Int.reduceEq, Int.reduceLT, Int.reduceLE, Int.reduceAdd, Int.reduceSub, Int.reduceMul, Int.reduceNeg, Int.reducePow, Int.reduceToNat, Int.reduceMod, Int.reduceDiv, Int.reduceNe, Nat.reduceEqDiff, Nat.reduceMul, borOk, dkAll, dkKept, nlD, nlAll, id, frz, freeE, outsE, pick, merE, wipeE, Nat.reduceAdd, Nat.reduceSub, Nat.reduceLeDiff, Nat.reduceLT, reduceCtorEq, if_true, if_false, eq_self, forall_const]
          exact ⟨rest, found, none, _, _, rfl, e2, .val, .val, rfl⟩
      | some w =>
        cases b with
        | true =>
          simp (config := {maxSteps := 1000000}) only [p4.all, p5.all, mb__law_made_1, mb__law_made_2, rdH, isND, Fj.wp0, Fj.wp1, Fj.wp2, Fj.wp3, Fj.wp4, Fj.wp5, Fj.wp6, Fj.wp7, Fj.wp8, Fj.wp9, Fj.wp10, Fj.wp11, Fj.wp12, Fj.wp13, Fj.wp14, Fj.wp15, Fj.wp16, Fj.wp17, Fj.wp18, Fj.wp19, Fj.wp20, Fj.wp21, Fj.tyN, Int.reduceEq, Int.reduceLT, Int.reduceLE, Int.reduceAdd, Int.reduceSub, Int.reduceMul, Int.reduceNeg, Int.reducePow, Int.reduceToNat, Int.reduceMod, Int.reduceDiv, Int.reduceNe, Nat.reduceEqDiff, Nat.reduceMul, borOk, dkAll, dkKept, nlD, nlAll, id, frz, freeE, outsE, pick, merE, wipeE, Nat.reduceAdd, Nat.reduceSub, Nat.reduceLeDiff, Nat.reduceLT, reduceCtorEq, if_true, if_false, eq_self, forall_const]
          exact ⟨rest, found, some w, _, _, rfl, e2, .val, .val, rfl⟩
        | false =>
          simp (config := {maxSteps := 1000000}) only [p4.all, p5.all, mb__law_made_1, mb__law_made_2, rdH, isND, hf, Fj.wp0, Fj.wp1, Fj.wp2, Fj.wp3, Fj.wp4, Fj.wp5, Fj.wp6, Fj.wp7, Fj.wp8, Fj.wp9, Fj.wp10, Fj.wp11, Fj.wp12, Fj.wp13, Fj.wp14, Fj.wp15, Fj.wp16, Fj.wp17, Fj.wp18, Fj.wp19, Fj.wp20, Fj.wp21, Fj.tyN, Int.reduceEq, Int.reduceLT, Int.reduceLE, Int.reduceAdd, Int.reduceSub, Int.reduceMul, Int.reduceNeg, Int.reducePow, Int.reduceToNat, Int.reduceMod, Int.reduceDiv, Int.reduceNe, Nat.reduceEqDiff, Nat.reduceMul, borOk, dkAll, dkKept, nlD, nlAll, id, frz, freeE, outsE, pick, merE, wipeE, Nat.reduceAdd, Nat.reduceSub, Nat.reduceLeDiff, Nat.reduceLT, reduceCtorEq, if_true, if_false, eq_self, forall_const]
          exact ⟨rest, found ++ [(w, some v)], none, _, _, rfl, by rw [e2, List.append_assoc]; rfl, .val, .val, by rw [List.map_append]; rfl⟩
  · intro ρ ⟨rest, found, begun, e4, e5, e1, e2, p4, p5, e3⟩
    subst e3
    have : rest = [] := List.map_eq_nil_iff.mp e1.symm
    subst this
    have hf : (found.map rd).length < 100000 := by
      have := congrArg List.length e2
      rw [List.length_append] at this
      rw [List.length_map]
      omega
    cases begun with
    | none =>
      have e2 : Rg.prs (mrk m ss) = found := e2.trans (List.append_nil _)
      simp (config := {maxSteps := 1000000}) only [p4.all, p5.all, mb__law_made_4, rdH, isND, Fj.wp0, Fj.wp1, Fj.wp2, Fj.wp3, Fj.wp4, Fj.wp5, Fj.wp6, Fj.wp7, Fj.wp8, Fj.wp9, Fj.wp10, Fj.wp11, Fj.wp12, Fj.wp13, Fj.wp14, Fj.wp15, Fj.wp16, Fj.wp17, Fj.wp18, Fj.wp19, Fj.wp20, Fj.wp21, Fj.tyN, Int.reduceEq, Int.reduceLT, Int.reduceLE, Int.reduceAdd, Int.reduceSub, Int.reduceMul, Int.reduceNeg, Int.reducePow, Int.reduceToNat, Int.reduceMod, Int.reduceDiv, Int.reduceNe, Nat.reduceEqDiff, Nat.reduceMul, borOk, dkAll, dkKept, nlD, nlAll, id, frz, freeE, outsE, pick, merE, wipeE, Nat.reduceAdd, Nat.reduceSub, Nat.reduceLeDiff, Nat.reduceLT, reduceCtorEq, if_true, if_false, eq_self, forall_const]
      rw [e2]
    | some w =>
      have e2 : Rg.prs (mrk m ss) = found ++ [(w, none)] := e2
      simp (config := {maxSteps := 1000000}) only [p4.all, p5.all, mb__law_made_4, rdH, isND, hf, Fj.wp0, Fj.wp1, Fj.wp2, Fj.wp3, Fj.wp4, Fj.wp5, Fj.wp6, Fj.wp7, Fj.wp8, Fj.wp9, Fj.wp10, Fj.wp11, Fj.wp12, Fj.wp13, Fj.wp14, Fj.wp15, Fj.wp16, Fj.wp17, Fj.wp18, Fj.wp19, Fj.wp20, Fj.wp21, Fj.tyN, Int.reduceEq, Int.reduceLT, Int.reduceLE, Int.reduceAdd, Int.reduceSub, Int.reduceMul, Int.reduceNeg, Int.reducePow, Int.reduceToNat, Int.reduceMod, Int.reduceDiv, Int.reduceNe, Nat.reduceEqDiff, Nat.reduceMul, borOk, dkAll, dkKept, nlD, nlAll, id, frz, freeE, outsE, pick, merE, wipeE, Nat.reduceAdd, Nat.reduceSub, Nat.reduceLeDiff, Nat.reduceLT, reduceCtorEq, if_true, if_false, eq_self, forall_const]
      rw [e2, rds, List.map_append]
      rfl
abbrev F0 : Vr := [0, 0, 0, 0, 0]
theorem F0_ver {B : Int} (hB : 0 < B) : VerR B F0 := ⟨0, 0, 0, 0, 0, rfl, ⟨by omega, hB, by omega, hB, by omega, hB, by omega, by omega, by omega, hB, fun _ => rfl⟩⟩
theorem law_borders_eq {B : Int} {rs : List (List Vr)} (hB : 0 < B) (hv : ∀ r ∈ rs, ∀ v ∈ r, VerR B v) (hl : (rs.flatMap id).length < 63) : mf__law_borders [.val (.list (rs.map fun r => rds (Rg.prs r)))] = some (.own true (.lst ((srt (F0 :: rs.flatMap id)).map tupI)), [.no]) := by
  refine W_eq ?_
  simp (config := {maxSteps := 1000000}) only [mf__law_borders, mb__law_borders, mb__law_borders_3, Fj.wp0, Fj.wp1, Fj.wp2, Fj.wp3, Fj.wp4, Fj.wp5, Fj.wp6, Fj.wp7, Fj.wp8, Fj.wp9, Fj.wp10, Fj.wp11, Fj.wp12, Fj.wp13, Fj.wp14, Fj.wp15, Fj.wp16, Fj.wp17, Fj.wp18, Fj.wp19, Fj.wp20, Fj.wp21, Fj.tyN, Int.reduceEq, Int.reduceLT, Int.reduceLE, Int.reduceAdd, Int.reduceSub, Int.reduceMul, Int.reduceNeg, Int.reducePow, Int.reduceToNat, Int.reduceMod, Int.reduceDiv, Int.reduceNe, Nat.reduceEqDiff, Nat.reduceMul, borOk, dkAll, dkKept, nlD, nlAll, id, frz, freeE, outsE, pick, merE, wipeE, Nat.reduceAdd, Nat.reduceSub, Nat.reduceLeDiff, Nat.reduceLT, reduceCtorEq, if_true, if_false, eq_self, forall_const]
  have ok : tupsOk (F0 :: rs.flatMap id) = true := tups_ok5 (by rw [List.length_cons]; omega) fun v hv2 => by
    rcases List.mem_cons.mp hv2 with e | e
    · rw [e]
      exact (F0_ver hB).nn
    · obtain ⟨r, h1, h2⟩ := List.mem_flatMap.mp e
      exact (hv r h1 v h2).nn
  refine w_forL (fun ds ρ => ∃ rest found e2 e3 e4, ds = rest.map (fun r => rds (Rg.prs r)) ∧ F0 :: rs.flatMap id = found ++ rest.flatMap id ∧ Pl e2 ∧ Pl e3 ∧ Pl e4 ∧ ρ = [.val (.list (rs.map fun r => rds (Rg.prs r))), .own true (.lst (found.map tupI)), e2, e3, e4]) ?_ ?_ _ _ ⟨rs, [F0], .no, .no, .no, rfl, rfl, .no, .no, .no, rfl⟩
  · intro d ds ρ ⟨rest, found, e2, e3, e4, e1, ea, p2, p3, p4, e0⟩
    subst e0
    cases rest with
    | nil => cases e1
    | cons r rest =>
      rw [List.map_cons] at e1
      injection e1 with e6 e7
      subst e6 e7
      simp (config := {maxSteps := 1000000}) only [p2.all, p3.all, p4.all, mb__law_borders_2, Fj.wp0, Fj.wp1, Fj.wp2, Fj.wp3, Fj.wp4, Fj.wp5, Fj.wp6, Fj.wp7, Fj.wp8, Fj.wp9, Fj.wp10, Fj.wp11, Fj.wp12, Fj.wp13, Fj.wp14, Fj.wp15, Fj.wp16, Fj.wp17, Fj.wp18, Fj.wp19, Fj.wp20, Fj.wp21, Fj.tyN, Int.reduceEq, Int.reduceLT, Int.reduceLE, Int.reduceAdd, Int.reduceSub, Int.reduceMul, Int.reduceNeg, Int.reducePow, Int.reduceToNat, Int.reduceMod, Int.reduceDiv, Int.reduceNe, Nat.reduceEqDiff, Nat.reduceMul, borOk, dkAll, dkKept, nlD, nlAll, id, frz, freeE, outsE, pick, merE, wipeE, Nat.reduceAdd, Nat.reduceSub, Nat.reduceLeDiff, Nat.reduceLT, reduceCtorEq, if_true, if_false, eq_self, forall_const]
      rw [List.flatMap_cons] at ea
      refine w_forL (fun ds ρ => ∃ rest2 found e3 e4, ds = rest2.map rd ∧ F0 :: rs.flatMap id = found ++ Rg.ends rest2 ++ rest.flatMap id ∧ Pl e3 ∧ Pl e4 ∧ ρ = [.val (.list (rs.map fun r => rds (Rg.prs r))), .own true (.lst (found.map tupI)), .val (rds (Rg.prs r)), e3, e4]) ?_ ?_ _ _ ⟨Rg.prs r, found, e3, e4, rfl, by rw [ea, Rg.ends_prs, List.append_assoc]; rfl, p3, p4, rfl⟩
      · intro d ds ρ ⟨rest2, found, e3, e4, e1, ea, p3, p4, e0⟩
        subst e0
        cases rest2 with
        | nil => cases e1
        | cons p rest2 =>
          rw [List.map_cons] at e1
          injection e1 with e6 e7
          subst e6 e7
          obtain ⟨lo, hi⟩ := p
          have hf : found.length ≤ 63 := by
            have := congrArg List.length ea
            rw [List.length_append, List.length_append, List.length_cons] at this
            omega
          have hf1 : (found.map tupI).length + 1 ≤ 100000 := by rw [List.length_map]; omega
          have hf2 : (found.map tupI).length + 2 ≤ 100000 := by rw [List.length_map]; omega
          cases hi with
          | none =>
            simp (config := {maxSteps := 1000000}) only [rd, rdH, p3.all, p4.all, mb__law_borders_1, isND, hf1, Fj.wp0, Fj.wp1, Fj.wp2, Fj.wp3, Fj.wp4, Fj.wp5, Fj.wp6, Fj.wp7, Fj.wp8, Fj.wp9, Fj.wp10, Fj.wp11, Fj.wp12, Fj.wp13, Fj.wp14, Fj.wp15, Fj.wp16, Fj.wp17, Fj.wp18, Fj.wp19, Fj.wp20, Fj.wp21, Fj.tyN, Int.reduceEq, Int.reduceLT, Int.reduceLE, Int.reduceAdd, Int.reduceSub, Int.reduceMul, Int.reduceNeg, Int.reducePow, Int.reduceToNat, Int.reduceMod, Int.reduceDiv, Int.reduceNe, Nat.reduceEqDiff, Nat.reduceMul, borOk, dkAll, dkKept, nlD, nlAll, id, frz, freeE, outsE, pick, merE, wipeE, Nat.reduceAdd, Nat.reduceSub, Nat.reduceLeDiff, Nat.reduceLT, reduceCtorEq, if_true, if_false, eq_self, forall_const]
            exact ⟨rest2, found ++ [lo], _, _, rfl, by rw [ea]; simp [Rg.ends], .val, .val, by rw [List.map_append]; rfl⟩
          | some hi =>
            simp (config := {maxSteps := 1000000}) only [rd, rdH, p3.all, p4.all, mb__law_borders_1, isND, hf2, Fj.wp0, Fj.wp1, Fj.wp2, Fj.wp3, Fj.wp4, Fj.wp5, Fj.wp6, Fj.wp7, Fj.wp8, Fj.wp9, Fj.wp10, Fj.wp11, Fj.wp12, Fj.wp13, Fj.wp14, Fj.wp15, Fj.wp16, Fj.wp17, Fj.wp18, Fj.wp19, Fj.wp20, Fj.wp21, Fj.tyN, Int.reduceEq, Int.reduceLT, Int.reduceLE, Int.reduceAdd, Int.reduceSub, Int.reduceMul, Int.reduceNeg, Int.reducePow, Int.reduceToNat, Int.reduceMod, Int.reduceDiv, Int.reduceNe, Nat.reduceEqDiff, Nat.reduceMul, borOk, dkAll, dkKept, nlD, nlAll, id, frz, freeE, outsE, pick, merE, wipeE, Nat.reduceAdd, Nat.reduceSub, Nat.reduceLeDiff, Nat.reduceLT, reduceCtorEq, if_true, if_false, eq_self, forall_const]
            exact ⟨rest2, found ++ [lo, hi], _, _, rfl, by rw [ea]; simp [Rg.ends], .val, .val, by rw [List.map_append]; rfl⟩
      · intro ρ ⟨rest2, found, e3, e4, e1, ea, p3, p4, e0⟩
        subst e0
        have : rest2 = [] := List.map_eq_nil_iff.mp e1.symm
        subst this
        exact ⟨rest, found, _, _, _, rfl, by rw [ea]; simp [Rg.ends], .val, p3, p4, rfl⟩
  · intro ρ ⟨rest, found, e2, e3, e4, e1, ea, p2, p3, p4, e0⟩
    subst e0
    have : rest = [] := List.map_eq_nil_iff.mp e1.symm
    subst this
    have ea : F0 :: rs.flatMap id = found := ea.trans (List.append_nil _)
    subst ea
    simp (config := {maxSteps := 1000000}) only [p2.all, p3.all, p4.all, Fj.wp0, Fj.wp1, Fj.wp2, Fj.wp3, Fj.wp4, Fj.wp5, Fj.wp6, Fj.wp7, Fj.wp8, Fj.wp9, Fj.wp10, Fj.wp11, Fj.wp12, Fj.wp13, Fj.wp14, Fj.wp15, Fj.wp16, Fj.wp17, Fj.wp18, Fj.wp19, Fj.wp20, Fj.wp21, Fj.tyN, Int.reduceEq, Int.reduceLT, Int.reduceLE, Int.reduceAdd, Int.reduceSub, Int.reduceMul, Int.reduceNeg, Int.reducePow, Int.reduceToNat, Int.reduceMod, Int.reduceDiv, Int.reduceNe, Nat.reduceEqDiff, Nat.reduceMul, borOk, dkAll, dkKept, nlD, nlAll, id, frz, freeE, outsE, pick, merE, wipeE, Nat.reduceAdd, Nat.reduceSub, Nat.reduceLeDiff, Nat.reduceLT, reduceCtorEq, if_true, if_false, eq_self, forall_const]
    rw [show tupI F0 :: List.map tupI (List.flatMap id rs) = List.map tupI (F0 :: List.flatMap id rs) from rfl, w_tups]
    exact ⟨ok, rfl, rfl⟩
end L_k08

set_option maxRecDepth 100000
set_option maxHeartbeats 0
set_option linter.all false
set_option linter.unusedSimpArgs false
namespace L_k08
open PySem PySem.Spec PyProof.Rows L2 Fj
def mrow (p : Int × Nat) : Vr := [p.1, (p.2 : Int)]
def MixS (f : MF) : Prop := ∀ (n : Nat) (l : List Int) (m t : Int) (ds : List PyData), DkOk n l m t → n < 2 ^ 60 → ds.length ≤ 100000 → W (f [.own false (.deck 0 l m t), .val (.list ds)]) fun e outs => ∃ (es : List PyData) (l' : List Int) (m' t' : Int) (o : List Ent), e = .own true (.lst es) ∧ (∀ x, x ∈ es ↔ x ∈ ds) ∧ es.length = ds.length ∧ outs = .own false (.deck 0 l' m' t') :: o ∧ DkOk (n + ds.length) l' m' t'
theorem mixed_ok : MixS mf__law_mixed := by
  intro n l m t ds hd hn hl
  simp (config := {maxSteps := 1000000}) only [mf__law_mixed, mb__law_mixed, lc__law_mixed_1, Int.toNat_natCast, Fj.wp0, Fj.wp1, Fj.wp2, Fj.wp3, Fj.wp4, Fj.wp5, Fj.wp6, Fj.wp7, Fj.wp8, Fj.wp9, Fj.wp10, Fj.wp11, Fj.wp12, Fj.wp13, Fj.wp14, Fj.wp15, Fj.wp16, Fj.wp17, Fj.wp18, Fj.wp19, Fj.wp20, Fj.wp21, Fj.tyN, Int.reduceEq, Int.reduceLT, Int.reduceLE, Int.reduceAdd, Int.reduceSub, Int.reduceMul, Int.reduceNeg, Int.reducePow, Int.reduceToNat, Int.reduceMod, Int.reduceDiv, Int.reduceNe, Nat.reduceEqDiff, Nat.reduceMul, borOk, dkAll, dkKept, nlD, nlAll, id, frz, freeE, outsE, pick, merE, wipeE, Nat.reduceAdd, Nat.reduceSub, Nat.reduceLeDiff, Nat.reduceLT, reduceCtorEq, if_true, if_false, eq_self, forall_const]
  refine ⟨by omega, ?_⟩
  refine w_lcL (fun rest acc ρ => ∃ (ps : List (Int × Nat)) (l : List Int) (m t : Int), rest = rngD ps.length (ds.length - ps.length) ∧ ps.length ≤ ds.length ∧ acc = (ps.map mrow).map tupI ∧ ps.map (·.2) = List.range ps.length ∧ (∀ p ∈ ps, 0 ≤ p.1) ∧ DkOk (n + ps.length) l m t ∧ ρ = [.own false (.deck 0 l m t), .val (.list ds), .no, .no, .no]) ?_ ?_ _ _ _ ⟨[], l, m, t, rfl, Nat.zero_le _, rfl, rfl, fun _ z => (List.not_mem_nil z).elim, hd, rfl⟩
  · intro d rest acc ρ ⟨ps, l, m, t, e1, e2, e3, e4, e5, hd, e6⟩
    subst e3 e6
    have hk : ∃ k, ds.length - ps.length = k + 1 := by
      cases h : ds.length - ps.length with
      | zero => rw [h] at e1; cases e1
      | succ k => exact ⟨k, rfl⟩
    obtain ⟨k, hk⟩ := hk
    rw [hk, rng_succ] at e1
    injection e1 with e7 e8
    subst e7 e8
    simp (config := {maxSteps := 1000000}) only [Fj.wp0, Fj.wp1, Fj.wp2, Fj.wp3, Fj.wp4, Fj.wp5, Fj.wp6, Fj.wp7, Fj.wp8, Fj.wp9, Fj.wp10, Fj.wp11, Fj.wp12, Fj.wp13, Fj.wp14, Fj.wp15, Fj.wp16, Fj.wp17, Fj.wp18, Fj.wp19, Fj.wp20, Fj.wp21, Fj.tyN, Int.reduceEq, Int.reduceLT, Int.reduceLE, Int.reduceAdd, Int.reduceSub, Int.reduceMul, Int.reduceNeg, Int.reducePow, Int.reduceToNat, Int.reduceMod, Int.reduceDiv, Int.reduceNe, Nat.reduceEqDiff, Nat.reduceMul, borOk, dkAll, dkKept, nlD, nlAll, id, frz, freeE, outsE, pick, merE, wipeE, Nat.reduceAdd, Nat.reduceSub, Nat.reduceLeDiff, Nat.reduceLT, reduceCtorEq, if_true, if_false, eq_self, forall_const]
    refine (draw_ok _ l m t _ hd (by omega) (by decide) (by decide)).mono ?_
    rintro _ _ ⟨r, l', m', t', o, rfl, q1, q2, rfl, hd2⟩
    have hl2 : ((ps.map mrow).map tupI).length < 100000 := by rw [List.length_map, List.length_map]; omega
    simp (config := {maxSteps := 1000000}) only [hl2, Fj.wp0, Fj.wp1, Fj.wp2, Fj.wp3, Fj.wp4, Fj.wp5, Fj.wp6, Fj.wp7, Fj.wp8, Fj.wp9, Fj.wp10, Fj.wp11, Fj.wp12, Fj.wp13, Fj.wp14, Fj.wp15, Fj.wp16, Fj.wp17, Fj.wp18, Fj.wp19, Fj.wp20, Fj.wp21, Fj.tyN, Int.reduceEq, Int.reduceLT, Int.reduceLE, Int.reduceAdd, Int.reduceSub, Int.reduceMul, Int.reduceNeg, Int.reducePow, Int.reduceToNat, Int.reduceMod, Int.reduceDiv, Int.reduceNe, Nat.reduceEqDiff, Nat.reduceMul, borOk, dkAll, dkKept, nlD, nlAll, id, frz, freeE, outsE, pick, merE, wipeE, Nat.reduceAdd, Nat.reduceSub, Nat.reduceLeDiff, Nat.reduceLT, reduceCtorEq, if_true, if_false, eq_self, forall_const]
    refine ⟨ps ++ [(r, ps.length)], l', m', t', ?_, ?_, ?_, ?_, ?_, hd2.mono ?_, rfl⟩
    · rw [List.length_append, List.length_singleton, show ds.length - (ps.length + 1) = k by omega]
      rfl
    · rw [List.length_append, List.length_singleton]
      omega
    · rw [List.map_append, List.map_append]
      rfl
    · rw [List.map_append, List.length_append, List.length_singleton, List.range_succ, e4]
      rfl
    · intro p hp
      rcases List.mem_append.mp hp with z | z
      · exact e5 p z
      · rw [List.mem_singleton.mp z]
        exact q1
    · rw [List.length_append, List.length_singleton]
      omega
  · intro acc ρ ⟨ps, l, m, t, e1, e2, e3, e4, e5, hd, e6⟩
    subst e3 e6
    have hk : ps.length = ds.length := by
      cases h : ds.length - ps.length with
      | zero => omega
      | succ k => rw [h, rng_succ] at e1; cases e1
    have ok : ∀ v ∈ ps.map mrow, v.length = 2 := fun v hv => by
      obtain ⟨p, hp, rfl⟩ := List.mem_map.mp hv
      rfl
    have pm := isort_perm HT.lexLt (ps.map mrow)
    simp (config := {maxSteps := 1000000}) only [Fj.g_sortP ok, lc__law_mixed_2, Fj.wp0, Fj.wp1, Fj.wp2, Fj.wp3, Fj.wp4, Fj.wp5, Fj.wp6, Fj.wp7, Fj.wp8, Fj.wp9, Fj.wp10, Fj.wp11, Fj.wp12, Fj.wp13, Fj.wp14, Fj.wp15, Fj.wp16, Fj.wp17, Fj.wp18, Fj.wp19, Fj.wp20, Fj.wp21, Fj.tyN, Int.reduceEq, Int.reduceLT, Int.reduceLE, Int.reduceAdd, Int.reduceSub, Int.reduceMul, Int.reduceNeg, Int.reducePow, Int.reduceToNat, Int.reduceMod, Int.reduceDiv, Int.reduceNe, Nat.reduceEqDiff, Nat.reduceMul, borOk, dkAll, dkKept, nlD, nlAll, id, frz, freeE, outsE, pick, merE, wipeE, Nat.reduceAdd, Nat.reduceSub, Nat.reduceLeDiff, Nat.reduceLT, reduceCtorEq, if_true, if_false, eq_self, forall_const]
    refine w_lcMap tupI (fun x => ds.getD (x.getD 1 0).toNat .none) (fun x hx => ?_) (by rw [pm.length_eq, List.length_map]; omega) ?_
    · obtain ⟨p, hp, rfl⟩ := List.mem_map.mp (pm.mem_iff.mp hx)
      have hp2 : p.2 < ds.length := by
        have : p.2 ∈ ps.map (·.2) := List.mem_map.mpr ⟨p, hp, rfl⟩
        rw [e4, List.mem_range] at this
        omega
      have a1 : L2.atI ds (p.2 : Int) = some ds[p.2] := by
        rw [Fj.atI_nat, List.getElem?_eq_getElem hp2]
      have a2 : ds.getD (([p.1, (p.2 : Int)] : List Int).getD 1 0).toNat PyData.none = ds[p.2] := by
        show ds.getD ((p.2 : Int)).toNat PyData.none = _
        rw [Int.toNat_natCast, List.getD_eq_getElem?_getD, List.getElem?_eq_getElem hp2]
        rfl
      simp (config := {maxSteps := 1000000}) only [mrow, a1, a2, Fj.wp0, Fj.wp1, Fj.wp2, Fj.wp3, Fj.wp4, Fj.wp5, Fj.wp6, Fj.wp7, Fj.wp8, Fj.wp9, Fj.wp10, Fj.wp11, Fj.wp12, Fj.wp13, Fj.wp14, Fj.wp15, Fj.wp16, Fj.wp17, Fj.wp18, Fj.wp19, Fj.wp20, Fj.wp21, Fj.tyN, Int.reduceEq, Int.reduceLT, Int.reduceLE, Int.reduceAdd, Int.reduceSub, Int.reduceMul, Int.reduceNeg, Int.reducePow, Int.reduceToNat, Int.reduceMod, Int.reduceDiv, Int.reduceNe, Nat.reduceEqDiff, Nat.reduceMul, borOk, dkAll, dkKept, nlD, nlAll, id, frz, freeE, outsE, pick, merE, wipeE, Nat.reduceAdd, Nat.reduceSub, Nat.reduceLeDiff, Nat.reduceLT, reduceCtorEq, if_true, if_false, eq_self, forall_const]
    · simp (config := {maxSteps := 1000000}) only [Fj.wp0, Fj.wp1, Fj.wp2, Fj.wp3, Fj.wp4, Fj.wp5, Fj.wp6, Fj.wp7, Fj.wp8, Fj.wp9, Fj.wp10, Fj.wp11, Fj.wp12, Fj.wp13, Fj.wp14, Fj.wp15, Fj.wp16, Fj.wp17, Fj.wp18, Fj.wp19, Fj.wp20, Fj.wp21, Fj.tyN, Int.reduceEq, Int.reduceLT, Int.reduceLE, Int.reduceAdd, Int.reduceSub, Int.reduceMul, Int.reduceNeg, Int.reducePow, Int.reduceToNat, Int.reduceMod, Int.reduceDiv, Int.reduceNe, Nat.reduceEqDiff, Nat.reduceMul, borOk, dkAll, dkKept, nlD, nlAll, id, frz, freeE, outsE, pick, merE, wipeE, Nat.reduceAdd, Nat.reduceSub, Nat.reduceLeDiff, Nat.reduceLT, reduceCtorEq, if_true, if_false, eq_self, forall_const]
      refine ⟨_, l, m, t, _, rfl, fun x => ?_, ?_, rfl, ?_⟩
      · rw [List.mem_map]
        constructor
        · rintro ⟨v, hv, rfl⟩
          obtain ⟨p, hp, rfl⟩ := List.mem_map.mp (pm.mem_iff.mp hv)
          have hp2 : p.2 < ds.length := by
            have : p.2 ∈ ps.map (·.2) := List.mem_map.mpr ⟨p, hp, rfl⟩
            rw [e4, List.mem_range] at this
            omega
          show ds.getD ((p.2 : Int)).toNat PyData.none ∈ ds
          rw [Int.toNat_natCast, List.getD_eq_getElem?_getD, List.getElem?_eq_getElem hp2]
          exact List.getElem_mem ..
        · intro hx
          obtain ⟨i, hi, rfl⟩ := List.mem_iff_getElem.mp hx
          have : i ∈ ps.map (·.2) := by
            rw [e4, List.mem_range]
            omega
          obtain ⟨p, hp, rfl⟩ := List.mem_map.mp this
          refine ⟨mrow p, pm.mem_iff.mpr (List.mem_map.mpr ⟨p, hp, rfl⟩), ?_⟩
          show ds.getD ((p.2 : Int)).toNat PyData.none = _
          rw [Int.toNat_natCast, List.getD_eq_getElem?_getD, List.getElem?_eq_getElem hi]
          rfl
      · rw [List.length_map, pm.length_eq, List.length_map, hk]
      · rw [← hk]
        exact hd
end L_k08

set_option maxRecDepth 100000
set_option maxHeartbeats 0
set_option linter.all false
set_option linter.unusedSimpArgs false
namespace L_k08
open PySem PySem.Spec PyProof.Rows L2 Fj
theorem pool_ok {n : Nat} {l : List Int} {m t : Int} {rs : List (List Vr)} {vs : List Vr} (hr : ∀ r ∈ rs, ∀ v ∈ r, VerR 1000001000 v) (hl : (rs.flatMap id).length < 63) (hvs : ∀ v ∈ vs, VerR 1000001000 v) (hvl : vs.length ≤ 100) (hd : DkOk n l m t) (hn : n < 2 ^ 35) :
    W (mf__law_pool [.own false (.deck 0 l m t), .val (.list (rs.map fun r => rds (Rg.prs r))), .val (.list (vs.map tupI))]) fun e outs => ∃ (ws : List Vr) (l' : List Int) (m' t' : Int) (o : List Ent), e = .val (.list (ws.map tupI)) ∧ (∀ w ∈ ws, VerR 1000002000 w) ∧ (∀ v ∈ F0 :: rs.flatMap id, v ∈ ws) ∧ ws.length ≤ 1000 ∧ outs = .own false (.deck 0 l' m' t') :: o ∧ DkOk (n + 100) l' m' t' := by
  have b := law_borders_eq (by decide) hr hl
  have hsl := srt_len (F0 :: rs.flatMap id)
  rw [List.length_cons] at hsl
  have hsv : ∀ v ∈ srt (F0 :: rs.flatMap id), VerR 1000001000 v := fun v hv => by
    rcases List.mem_cons.mp (mem_srt.mp hv) with e | e
    · rw [e]
      exact F0_ver (by decide)
    · obtain ⟨r, h1, h2⟩ := List.mem_flatMap.mp e
      exact hr r h1 v h2
  have hsm : ∀ v ∈ F0 :: rs.flatMap id, v ∈ srt (F0 :: rs.flatMap id) := fun v hv => mem_srt.mpr hv
  generalize srt (F0 :: rs.flatMap id) = bl at b hsl hsv hsm
  simp (config := {maxSteps := 1000000}) only [mf__law_pool, mb__law_pool, mb__law_pool_3, b, Fj.wp0, Fj.wp1, Fj.wp2, Fj.wp3, Fj.wp4, Fj.wp5, Fj.wp6, Fj.wp7, Fj.wp8, Fj.wp9, Fj.wp10, Fj.wp11, Fj.wp12, Fj.wp13, Fj.wp14, Fj.wp15, Fj.wp16, Fj.wp17, Fj.wp18, Fj.wp19, Fj.wp20, Fj.wp21, Fj.tyN, Int.reduceEq, Int.reduceLT, Int.reduceLE, Int.reduceAdd, Int.reduceSub, Int.reduceMul, Int.reduceNeg, Int.reducePow, Int.reduceToNat, Int.reduceMod, Int.reduceDiv, Int.reduceNe, Nat.reduceEqDiff, Nat.reduceMul, borOk, dkAll, dkKept, nlD, nlAll, id, frz, freeE, outsE, pick, merE, wipeE, Nat.reduceAdd, Nat.reduceSub, Nat.reduceLeDiff, Nat.reduceLT, reduceCtorEq, if_true, if_false, eq_self, forall_const]
  refine w_forL (fun ds ρ => ∃ (done rest found : List Vr) (e4 : Ent), bl = done ++ rest ∧ ds = rest.map tupI ∧ (∀ v ∈ found, VerR 1000002000 v) ∧ (∀ v ∈ done, v ∈ found) ∧ found.length ≤ vs.length + 5 * done.length ∧ Pl e4 ∧ ρ = [.own false (.deck 0 l m t), .val (.list (rs.map fun r => rds (Rg.prs r))), .val (.list (vs.map tupI)), .own true (.lst (found.map tupI)), e4, .no]) ?_ ?_ _ _ ⟨[], bl, vs, _, rfl, rfl, fun v hv => (hvs v hv).up (by decide), fun v hv => (List.not_mem_nil hv).elim, Nat.le_refl _, .no, rfl⟩
  · intro d ds ρ ⟨done, rest, found, e4, eS, e1, hf, hin, hfl, p4, e0⟩
    subst e0
    cases rest with
    | nil => cases e1
    | cons v rest =>
      rw [List.map_cons] at e1
      injection e1 with e8 e9
      subst e8 e9
      have hbl : bl.length = done.length + (rest.length + 1) := by rw [eS, List.length_append, List.length_cons]
      obtain ⟨a, b, c, k, q, rfl, vv⟩ := hsv v (by rw [eS]; exact List.mem_append_right _ (List.mem_cons_self ..))
      have h4 : ∀ xs : List PyData, xs.length = 4 → (found.map tupI).length + xs.length ≤ 100000 := fun xs h => by rw [h, List.length_map]; omega
      have h5 : ∀ w1 w2 w3 w4 : Vr, ((found ++ [w1, w2, w3, w4]).map tupI).length < 100000 := fun w1 w2 w3 w4 => by rw [List.length_map, List.length_append]; simp; omega
      obtain ⟨v1, v2, v3, v4, v5, v6, v7, v8, v9, v10, v11⟩ := id vv
      /- what stands behind the four -/
      have fin4 : ∀ (w2 w3 w4 : Vr), VerR 1000002000 w2 → VerR 1000002000 w3 → VerR 1000002000 w4 → ∀ ws : List Vr, (∀ w ∈ ws, VerR 1000002000 w) → ws.length ≤ 1 → ∃ (done rest' found' : List Vr) (e4 : Ent), bl = done ++ rest' ∧ rest.map tupI = rest'.map tupI ∧ (∀ v ∈ found', VerR 1000002000 v) ∧ (∀ v ∈ done, v ∈ found') ∧ found'.length ≤ vs.length + 5 * done.length ∧ Pl e4 ∧ [Ent.own false (.deck 0 l m t), .val (.list (rs.map fun r => rds (Rg.prs r))), .val (.list (vs.map tupI)), .own true (.lst ((found ++ [[a, b, c, k, q], w2, w3, w4] ++ ws).map tupI)), .val (tupI [a, b, c, k, q]), .no] = [.own false (.deck 0 l m t), .val (.list (rs.map fun r => rds (Rg.prs r))), .val (.list (vs.map tupI)), .own true (.lst (found'.map tupI)), e4, .no] := by
        intro w2 w3 w4 h2 h3 h4 ws hws hwl
        refine ⟨done ++ [[a, b, c, k, q]], rest, _, _, by rw [eS, List.append_assoc]; rfl, rfl, ?_, ?_, ?_, .val, rfl⟩
        · intro x hx
          rcases List.mem_append.mp hx with z | z
          · rcases List.mem_append.mp z with z | z
            · exact hf x z
            · simp only [List.mem_cons, List.not_mem_nil, or_false] at z
              rcases z with rfl | rfl | rfl | rfl
              · exact ⟨a, b, c, k, q, rfl, vv.up (by decide)⟩
              · exact h2
              · exact h3
              · exact h4
          · exact hws x z
        · intro x hx
          refine List.mem_append_left _ ?_
          rcases List.mem_append.mp hx with z | z
          · exact List.mem_append_left _ (hin x z)
          · rw [List.mem_singleton.mp z]
            exact List.mem_append_right _ (List.mem_cons_self ..)
        · simp only [List.length_append, List.length_cons, List.length_nil]
          omega
      have e1 : mf__law_next [.val (vt a b c k q)] = some (.val (if k < 3 then vt a b c k (q + 1) else vt a b (c + 1) 0 0), [.no]) := law_next_eq ..
      have tail : ∀ w2 w3 w4 : Vr, VerR 1000002000 w2 → VerR 1000002000 w3 → VerR 1000002000 w4 → W1 (mb__law_pool_2 [.own false (.deck 0 l m t), .val (.list (rs.map fun r => rds (Rg.prs r))), .val (.list (vs.map tupI)), .own true (.lst ((found ++ [[a, b, c, k, q], w2, w3, w4]).map tupI)), .val (tupI [a, b, c, k, q]), .no]) fun f => ∃ ρ, f = .nx ρ ∧ ∃ (done rest' found' : List Vr) (e4 : Ent), bl = done ++ rest' ∧ rest.map tupI = rest'.map tupI ∧ (∀ v ∈ found', VerR 1000002000 v) ∧ (∀ v ∈ done, v ∈ found') ∧ found'.length ≤ vs.length + 5 * done.length ∧ Pl e4 ∧ ρ = [.own false (.deck 0 l m t), .val (.list (rs.map fun r => rds (Rg.prs r))), .val (.list (vs.map tupI)), .own true (.lst (found'.map tupI)), e4, .no] := by
        intro w2 w3 w4 h2 h3 h4
        have h5 := h5 [a, b, c, k, q] w2 w3 w4
        have fin := fin4 w2 w3 w4 h2 h3 h4
        have app : ∀ w : Vr, (found ++ [[a, b, c, k, q], w2, w3, w4]).map tupI ++ [tupI w] = (found ++ [[a, b, c, k, q], w2, w3, w4] ++ [w]).map tupI := fun w => by
          rw [List.map_append (l₁ := found ++ _)]
          rfl
        have fin0 := fin [] (fun _ z => (List.not_mem_nil z).elim) (by decide)
        rw [List.append_nil] at fin0
        generalize found ++ [[a, b, c, k, q], w2, w3, w4] = fd at h5 fin fin0 app
        generalize hxs : fd.map tupI = xs at h5 app fin0
        simp (config := {maxSteps := 1000000}) only [mb__law_pool_2, mb__law_pool_1, Fj.wp0, Fj.wp1, Fj.wp2, Fj.wp3, Fj.wp4, Fj.wp5, Fj.wp6, Fj.wp7, Fj.wp8, Fj.wp9, Fj.wp10, Fj.wp11, Fj.wp12, Fj.wp13, Fj.wp14, Fj.wp15, Fj.wp16, Fj.wp17, Fj.wp18, Fj.wp19, Fj.wp20, Fj.wp21, Fj.tyN, Int.reduceEq, Int.reduceLT, Int.reduceLE, Int.reduceAdd, Int.reduceSub, Int.reduceMul, Int.reduceNeg, Int.reducePow, Int.reduceToNat, Int.reduceMod, Int.reduceDiv, Int.reduceNe, Nat.reduceEqDiff, Nat.reduceMul, borOk, dkAll, dkKept, nlD, nlAll, id, frz, freeE, outsE, pick, merE, wipeE, Nat.reduceAdd, Nat.reduceSub, Nat.reduceLeDiff, Nat.reduceLT, reduceCtorEq, if_true, if_false, eq_self, forall_const]
        refine IfB.mk (fun hq => ?_) (fun hq => ?_)
        · have hq := of_decide_eq_true hq
          simp (config := {maxSteps := 1000000}) only [h5, Fj.wp0, Fj.wp1, Fj.wp2, Fj.wp3, Fj.wp4, Fj.wp5, Fj.wp6, Fj.wp7, Fj.wp8, Fj.wp9, Fj.wp10, Fj.wp11, Fj.wp12, Fj.wp13, Fj.wp14, Fj.wp15, Fj.wp16, Fj.wp17, Fj.wp18, Fj.wp19, Fj.wp20, Fj.wp21, Fj.tyN, Int.reduceEq, Int.reduceLT, Int.reduceLE, Int.reduceAdd, Int.reduceSub, Int.reduceMul, Int.reduceNeg, Int.reducePow, Int.reduceToNat, Int.reduceMod, Int.reduceDiv, Int.reduceNe, Nat.reduceEqDiff, Nat.reduceMul, borOk, dkAll, dkKept, nlD, nlAll, id, frz, freeE, outsE, pick, merE, wipeE, Nat.reduceAdd, Nat.reduceSub, Nat.reduceLeDiff, Nat.reduceLT, reduceCtorEq, if_true, if_false, eq_self, forall_const]
          refine ⟨_, rfl, ?_⟩
          rw [show PyData.tuple [.int a, .int b, .int c, .int k, .int (q - 1)] = tupI [a, b, c, k, q - 1] from rfl, app]
          exact fin [[a, b, c, k, q - 1]] (fun w hw => by rw [List.mem_singleton.mp hw]; exact ⟨a, b, c, k, q - 1, rfl, ⟨v1, by omega, v3, by omega, v5, by omega, v7, v8, by omega, by omega, fun z => by have := v11 z; omega⟩⟩) (Nat.le_refl _)
        · simp (config := {maxSteps := 1000000}) only [Fj.wp0, Fj.wp1, Fj.wp2, Fj.wp3, Fj.wp4, Fj.wp5, Fj.wp6, Fj.wp7, Fj.wp8, Fj.wp9, Fj.wp10, Fj.wp11, Fj.wp12, Fj.wp13, Fj.wp14, Fj.wp15, Fj.wp16, Fj.wp17, Fj.wp18, Fj.wp19, Fj.wp20, Fj.wp21, Fj.tyN, Int.reduceEq, Int.reduceLT, Int.reduceLE, Int.reduceAdd, Int.reduceSub, Int.reduceMul, Int.reduceNeg, Int.reducePow, Int.reduceToNat, Int.reduceMod, Int.reduceDiv, Int.reduceNe, Nat.reduceEqDiff, Nat.reduceMul, borOk, dkAll, dkKept, nlD, nlAll, id, frz, freeE, outsE, pick, merE, wipeE, Nat.reduceAdd, Nat.reduceSub, Nat.reduceLeDiff, Nat.reduceLT, reduceCtorEq, if_true, if_false, eq_self, forall_const]
          refine IfB.mk (fun hc => ?_) (fun hc => ?_)
          · have hc := of_decide_eq_true hc
            simp (config := {maxSteps := 1000000}) only [Fj.wp0, Fj.wp1, Fj.wp2, Fj.wp3, Fj.wp4, Fj.wp5, Fj.wp6, Fj.wp7, Fj.wp8, Fj.wp9, Fj.wp10, Fj.wp11, Fj.wp12, Fj.wp13, Fj.wp14, Fj.wp15, Fj.wp16, Fj.wp17, Fj.wp18, Fj.wp19, Fj.wp20, Fj.wp21, Fj.tyN, Int.reduceEq, Int.reduceLT, Int.reduceLE, Int.reduceAdd, Int.reduceSub, Int.reduceMul, Int.reduceNeg, Int.reducePow, Int.reduceToNat, Int.reduceMod, Int.reduceDiv, Int.reduceNe, Nat.reduceEqDiff, Nat.reduceMul, borOk, dkAll, dkKept, nlD, nlAll, id, frz, freeE, outsE, pick, merE, wipeE, Nat.reduceAdd, Nat.reduceSub, Nat.reduceLeDiff, Nat.reduceLT, reduceCtorEq, if_true, if_false, eq_self, forall_const]
            refine IfB.mk (fun hk => ?_) (fun hk => ?_)
            · simp (config := {maxSteps := 1000000}) only [h5, Fj.wp0, Fj.wp1, Fj.wp2, Fj.wp3, Fj.wp4, Fj.wp5, Fj.wp6, Fj.wp7, Fj.wp8, Fj.wp9, Fj.wp10, Fj.wp11, Fj.wp12, Fj.wp13, Fj.wp14, Fj.wp15, Fj.wp16, Fj.wp17, Fj.wp18, Fj.wp19, Fj.wp20, Fj.wp21, Fj.tyN, Int.reduceEq, Int.reduceLT, Int.reduceLE, Int.reduceAdd, Int.reduceSub, Int.reduceMul, Int.reduceNeg, Int.reducePow, Int.reduceToNat, Int.reduceMod, Int.reduceDiv, Int.reduceNe, Nat.reduceEqDiff, Nat.reduceMul, borOk, dkAll, dkKept, nlD, nlAll, id, frz, freeE, outsE, pick, merE, wipeE, Nat.reduceAdd, Nat.reduceSub, Nat.reduceLeDiff, Nat.reduceLT, reduceCtorEq, if_true, if_false, eq_self, forall_const]
              refine ⟨_, rfl, ?_⟩
              rw [show PyData.tuple [.int a, .int b, .int (c - 1), .int 3, .int 0] = tupI [a, b, c - 1, 3, 0] from rfl, app]
              exact fin [[a, b, c - 1, 3, 0]] (fun w hw => by rw [List.mem_singleton.mp hw]; exact ⟨a, b, c - 1, 3, 0, rfl, ⟨v1, by omega, v3, by omega, by omega, by omega, by omega, by omega, by omega, by omega, fun z => rfl⟩⟩) (Nat.le_refl _)
            · (try simp (config := {maxSteps := 1000000}) only [Fj.wp0, Fj.wp1, Fj.wp2, Fj.wp3, Fj.wp4, Fj.wp5, Fj.wp6, Fj.wp7, Fj.wp8, Fj.wp9, Fj.wp10, Fj.wp11, Fj.wp12, Fj.wp13, Fj.wp14, Fj.wp15, Fj.wp16, Fj.wp17, Fj.wp18, Fj.wp19, Fj.wp20, Fj.wp21, Fj.tyN, Int.reduceEq, Int.reduceLT, Int.reduceLE, Int.reduceAdd, Int.reduceSub, Int.reduceMul, Int.reduceNeg, Int.reducePow, Int.reduceToNat, Int.reduceMod, Int.reduceDiv, Int.reduceNe, Nat.reduceEqDiff, Nat.reduceMul, borOk, dkAll, dkKept, nlD, nlAll, id, frz, freeE, outsE, pick, merE, wipeE, Nat.reduceAdd, Nat.reduceSub, Nat.reduceLeDiff, Nat.reduceLT, reduceCtorEq, if_true, if_false, eq_self, forall_const])
              exact ⟨_, rfl, fin0⟩
          · (try simp (config := {maxSteps := 1000000}) only [Fj.wp0, Fj.wp1, Fj.wp2, Fj.wp3, Fj.wp4, Fj.wp5, Fj.wp6, Fj.wp7, Fj.wp8, Fj.wp9, Fj.wp10, Fj.wp11, Fj.wp12, Fj.wp13, Fj.wp14, Fj.wp15, Fj.wp16, Fj.wp17, Fj.wp18, Fj.wp19, Fj.wp20, Fj.wp21, Fj.tyN, Int.reduceEq, Int.reduceLT, Int.reduceLE, Int.reduceAdd, Int.reduceSub, Int.reduceMul, Int.reduceNeg, Int.reducePow, Int.reduceToNat, Int.reduceMod, Int.reduceDiv, Int.reduceNe, Nat.reduceEqDiff, Nat.reduceMul, borOk, dkAll, dkKept, nlD, nlAll, id, frz, freeE, outsE, pick, merE, wipeE, Nat.reduceAdd, Nat.reduceSub, Nat.reduceLeDiff, Nat.reduceLT, reduceCtorEq, if_true, if_false, eq_self, forall_const])
            exact ⟨_, rfl, fin0⟩
      have app4 : ∀ w2 w3 w4 : Vr, found.map tupI ++ [tupI [a, b, c, k, q], tupI w2, tupI w3, tupI w4] = (found ++ [[a, b, c, k, q], w2, w3, w4]).map tupI := fun w2 w3 w4 => by
        rw [List.map_append]
        rfl
      have fl4 : (found.map tupI).length + 4 ≤ 100000 := by rw [List.length_map]; omega
      by_cases hk : k < 3
      · rw [if_pos hk] at e1
        have e1 : mf__law_next [.val (tupI [a, b, c, k, q])] = some (.val (tupI [a, b, c, k, q + 1]), [.no]) := e1
        have e2 : mf__law_next [.val (tupI [a, b, c, k, q + 1])] = some (.val (tupI [a, b, c, k, q + 1 + 1]), [.no]) := by
          show mf__law_next [.val (vt a b c k (q + 1))] = some (.val (vt a b c k (q + 1 + 1)), [.no])
          rw [law_next_eq, if_pos hk]
        simp (config := {maxSteps := 1000000}) only [p4.all, e1, e2, fl4, Fj.wp0, Fj.wp1, Fj.wp2, Fj.wp3, Fj.wp4, Fj.wp5, Fj.wp6, Fj.wp7, Fj.wp8, Fj.wp9, Fj.wp10, Fj.wp11, Fj.wp12, Fj.wp13, Fj.wp14, Fj.wp15, Fj.wp16, Fj.wp17, Fj.wp18, Fj.wp19, Fj.wp20, Fj.wp21, Fj.tyN, Int.reduceEq, Int.reduceLT, Int.reduceLE, Int.reduceAdd, Int.reduceSub, Int.reduceMul, Int.reduceNeg, Int.reducePow, Int.reduceToNat, Int.reduceMod, Int.reduceDiv, Int.reduceNe, Nat.reduceEqDiff, Nat.reduceMul, borOk, dkAll, dkKept, nlD, nlAll, id, frz, freeE, outsE, pick, merE, wipeE, Nat.reduceAdd, Nat.reduceSub, Nat.reduceLeDiff, Nat.reduceLT, reduceCtorEq, if_true, if_false, eq_self, forall_const]
        have t := tail [a, b, c, k, q + 1] [a, b, c, k, q + 1 + 1] [a, b, c, 3, 0] ⟨_, _, _, _, _, rfl, ⟨v1, by omega, v3, by omega, v5, by omega, v7, v8, by omega, by omega, fun z => by omega⟩⟩ ⟨_, _, _, _, _, rfl, ⟨v1, by omega, v3, by omega, v5, by omega, v7, v8, by omega, by omega, fun z => by omega⟩⟩ ⟨_, _, _, _, _, rfl, ⟨v1, by omega, v3, by omega, v5, by omega, by omega, by omega, by omega, by omega, fun z => rfl⟩⟩
        rw [← app4] at t
        refine t.mono ?_
        rintro _ ⟨ρ, rfl, r⟩
        exact r
      · rw [if_neg hk] at e1
        have e1 : mf__law_next [.val (tupI [a, b, c, k, q])] = some (.val (tupI [a, b, c + 1, 0, 0]), [.no]) := e1
        have e2 : mf__law_next [.val (tupI [a, b, c + 1, 0, 0])] = some (.val (tupI [a, b, c + 1, 0, 1]), [.no]) := by
          show mf__law_next [.val (vt a b (c + 1) 0 0)] = some (.val (vt a b (c + 1) 0 (0 + 1)), [.no])
          rw [law_next_eq, if_pos (by decide)]
        simp (config := {maxSteps := 1000000}) only [p4.all, e1, e2, fl4, Fj.wp0, Fj.wp1, Fj.wp2, Fj.wp3, Fj.wp4, Fj.wp5, Fj.wp6, Fj.wp7, Fj.wp8, Fj.wp9, Fj.wp10, Fj.wp11, Fj.wp12, Fj.wp13, Fj.wp14, Fj.wp15, Fj.wp16, Fj.wp17, Fj.wp18, Fj.wp19, Fj.wp20, Fj.wp21, Fj.tyN, Int.reduceEq, Int.reduceLT, Int.reduceLE, Int.reduceAdd, Int.reduceSub, Int.reduceMul, Int.reduceNeg, Int.reducePow, Int.reduceToNat, Int.reduceMod, Int.reduceDiv, Int.reduceNe, Nat.reduceEqDiff, Nat.reduceMul, borOk, dkAll, dkKept, nlD, nlAll, id, frz, freeE, outsE, pick, merE, wipeE, Nat.reduceAdd, Nat.reduceSub, Nat.reduceLeDiff, Nat.reduceLT, reduceCtorEq, if_true, if_false, eq_self, forall_const]
        have t := tail [a, b, c + 1, 0, 0] [a, b, c + 1, 0, 1] [a, b, c, 3, 0] ⟨_, _, _, _, _, rfl, ⟨v1, by omega, v3, by omega, by omega, by omega, by omega, by omega, by omega, by omega, fun z => rfl⟩⟩ ⟨_, _, _, _, _, rfl, ⟨v1, by omega, v3, by omega, by omega, by omega, by omega, by omega, by omega, by omega, fun z => by omega⟩⟩ ⟨_, _, _, _, _, rfl, ⟨v1, by omega, v3, by omega, v5, by omega, by omega, by omega, by omega, by omega, fun z => rfl⟩⟩
        rw [← app4] at t
        refine t.mono ?_
        rintro _ ⟨ρ, rfl, r⟩
        exact r
  · intro ρ ⟨done, rest, found, e4, eS, e1, hf, hin, hfl, p4, e0⟩
    subst e0
    have : rest = [] := List.map_eq_nil_iff.mp e1.symm
    subst this
    have eS : bl = done := eS.trans (List.append_nil _)
    subst eS
    simp (config := {maxSteps := 1000000}) only [p4.all, lc__law_pool_4, Fj.wp0, Fj.wp1, Fj.wp2, Fj.wp3, Fj.wp4, Fj.wp5, Fj.wp6, Fj.wp7, Fj.wp8, Fj.wp9, Fj.wp10, Fj.wp11, Fj.wp12, Fj.wp13, Fj.wp14, Fj.wp15, Fj.wp16, Fj.wp17, Fj.wp18, Fj.wp19, Fj.wp20, Fj.wp21, Fj.tyN, Int.reduceEq, Int.reduceLT, Int.reduceLE, Int.reduceAdd, Int.reduceSub, Int.reduceMul, Int.reduceNeg, Int.reducePow, Int.reduceToNat, Int.reduceMod, Int.reduceDiv, Int.reduceNe, Nat.reduceEqDiff, Nat.reduceMul, borOk, dkAll, dkKept, nlD, nlAll, id, frz, freeE, outsE, pick, merE, wipeE, Nat.reduceAdd, Nat.reduceSub, Nat.reduceLeDiff, Nat.reduceLT, reduceCtorEq, if_true, if_false, eq_self, forall_const]
    have hfd : ∀ d ∈ found.map tupI, Ver 1000002000 d := fun d hd => by
      obtain ⟨v, hv, rfl⟩ := List.mem_map.mp hd
      exact (hf v hv).ver
    refine w_lcL (fun ds acc ρ => ∃ (l : List Int) (m t : Int) (ws : List Vr), ds.length + ws.length = 4 ∧ acc = ws.map tupI ∧ (∀ w ∈ ws, VerR 1000002000 w) ∧ DkOk (n + 20 * ws.length) l m t ∧ ρ = [.own false (.deck 0 l m t), .val (.list (rs.map fun r => rds (Rg.prs r))), .val (.list (vs.map tupI)), .val (.list (found.map tupI)), e4, .no]) ?_ ?_ _ _ _ ⟨l, m, t, [], by rw [rng_len]; rfl, rfl, fun w z => (List.not_mem_nil z).elim, hd, rfl⟩
    · intro d ds acc ρ ⟨l, m, t, ws, h1, h2, h3, hd, e0⟩
      subst e0 h2
      rw [List.length_cons] at h1
      simp (config := {maxSteps := 1000000}) only [p4.all, Fj.wp0, Fj.wp1, Fj.wp2, Fj.wp3, Fj.wp4, Fj.wp5, Fj.wp6, Fj.wp7, Fj.wp8, Fj.wp9, Fj.wp10, Fj.wp11, Fj.wp12, Fj.wp13, Fj.wp14, Fj.wp15, Fj.wp16, Fj.wp17, Fj.wp18, Fj.wp19, Fj.wp20, Fj.wp21, Fj.tyN, Int.reduceEq, Int.reduceLT, Int.reduceLE, Int.reduceAdd, Int.reduceSub, Int.reduceMul, Int.reduceNeg, Int.reducePow, Int.reduceToNat, Int.reduceMod, Int.reduceDiv, Int.reduceNe, Nat.reduceEqDiff, Nat.reduceMul, borOk, dkAll, dkKept, nlD, nlAll, id, frz, freeE, outsE, pick, merE, wipeE, Nat.reduceAdd, Nat.reduceSub, Nat.reduceLeDiff, Nat.reduceLT, reduceCtorEq, if_true, if_false, eq_self, forall_const]
      refine (version_ok (B := 1000002000) (by decide) (by omega) hfd (by rw [List.length_map]; omega) hd).mono ?_
      rintro _ _ ⟨d1, l1, m1, t1, o1, rfl, hv1, rfl, hd1⟩
      obtain ⟨w, rfl, hw⟩ := hv1.row
      have hl2 : (ws.map tupI).length < 100000 := by rw [List.length_map]; omega
      simp (config := {maxSteps := 1000000}) only [p4.all, hl2, Fj.wp0, Fj.wp1, Fj.wp2, Fj.wp3, Fj.wp4, Fj.wp5, Fj.wp6, Fj.wp7, Fj.wp8, Fj.wp9, Fj.wp10, Fj.wp11, Fj.wp12, Fj.wp13, Fj.wp14, Fj.wp15, Fj.wp16, Fj.wp17, Fj.wp18, Fj.wp19, Fj.wp20, Fj.wp21, Fj.tyN, Int.reduceEq, Int.reduceLT, Int.reduceLE, Int.reduceAdd, Int.reduceSub, Int.reduceMul, Int.reduceNeg, Int.reducePow, Int.reduceToNat, Int.reduceMod, Int.reduceDiv, Int.reduceNe, Nat.reduceEqDiff, Nat.reduceMul, borOk, dkAll, dkKept, nlD, nlAll, id, frz, freeE, outsE, pick, merE, wipeE, Nat.reduceAdd, Nat.reduceSub, Nat.reduceLeDiff, Nat.reduceLT, reduceCtorEq, if_true, if_false, eq_self, forall_const]
      refine ⟨l1, m1, t1, ws ++ [w], by rw [List.length_append, List.length_singleton]; omega, by rw [List.map_append]; rfl, fun x hx => ?_, hd1.mono (by rw [List.length_append, List.length_singleton]; omega), rfl⟩
      rcases List.mem_append.mp hx with z | z
      · exact h3 x z
      · rw [List.mem_singleton.mp z]
        exact hw
    · intro acc ρ ⟨l, m, t, ws, h1, h2, h3, hd, e0⟩
      subst e0 h2
      rw [List.length_nil, Nat.zero_add] at h1
      have hl2 : (found.map tupI).length + (ws.map tupI).length ≤ 100000 := by rw [List.length_map, List.length_map]; omega
      simp (config := {maxSteps := 1000000}) only [p4.all, hl2, Fj.wp0, Fj.wp1, Fj.wp2, Fj.wp3, Fj.wp4, Fj.wp5, Fj.wp6, Fj.wp7, Fj.wp8, Fj.wp9, Fj.wp10, Fj.wp11, Fj.wp12, Fj.wp13, Fj.wp14, Fj.wp15, Fj.wp16, Fj.wp17, Fj.wp18, Fj.wp19, Fj.wp20, Fj.wp21, Fj.tyN, Int.reduceEq, Int.reduceLT, Int.reduceLE, Int.reduceAdd, Int.reduceSub, Int.reduceMul, Int.reduceNeg, Int.reducePow, Int.reduceToNat, Int.reduceMod, Int.reduceDiv, Int.reduceNe, Nat.reduceEqDiff, Nat.reduceMul, borOk, dkAll, dkKept, nlD, nlAll, id, frz, freeE, outsE, pick, merE, wipeE, Nat.reduceAdd, Nat.reduceSub, Nat.reduceLeDiff, Nat.reduceLT, reduceCtorEq, if_true, if_false, eq_self, forall_const]
      refine ⟨found ++ ws, l, m, t, _, by rw [List.map_append], fun x hx => ?_, fun v hv => List.mem_append_left _ (hin v (hsm v hv)), by rw [List.length_append]; omega, rfl, hd.mono (by omega)⟩
      exact (List.mem_append.mp hx).elim (hf x) (h3 x)
end L_k08

set_option maxRecDepth 100000
set_option maxHeartbeats 0
set_option linter.all false
set_option linter.unusedSimpArgs false
namespace L_k08
open PySem PySem.Spec PyProof.Rows L2 Fj
theorem same_row {r : MF} {xs : List PyData} (hl : xs.length ≤ 1000) (h : ∀ x ∈ xs, r [.val x, .val x] = some (.val (.bool true), [.no, .no])) : mFn 4 (mb__law_same r) [.val (.tuple xs), .val (.tuple xs)] = some (.val (.bool true), [.no, .no]) := by
  refine W_eq ?_
  simp (config := {maxSteps := 1000000}) only [mb__law_same, mb__law_same_1, mb__law_same_2, mb__law_same_3, mb__law_same_6, mb__law_same_7, mb__law_same_8, isND, Fj.g_neB, bq_tt, bq_ff, lc__law_same_9, Int.toNat_natCast, Fj.rngD_map, Fj.wp0, Fj.wp1, Fj.wp2, Fj.wp3, Fj.wp4, Fj.wp5, Fj.wp6, Fj.wp7, Fj.wp8, Fj.wp9, Fj.wp10, Fj.wp11, Fj.wp12, Fj.wp13, Fj.wp14, Fj.wp15, Fj.wp16, Fj.wp17, Fj.wp18, Fj.wp19, Fj.wp20, Fj.wp21, Fj.tyN, Int.reduceEq, Int.reduceLT, Int.reduceLE, Int.reduceAdd, Int.reduceSub, Int.reduceMul, Int.reduceNeg, Int.reducePow, Int.reduceToNat, Int.reduceMod, Int.reduceDiv, Int.reduceNe, Nat.reduceEqDiff, Nat.reduceMul, borOk, dkAll, dkKept, nlD, nlAll, id, frz, freeE, outsE, pick, merE, wipeE, Nat.reduceAdd, Nat.reduceSub, Nat.reduceLeDiff, Nat.reduceLT, reduceCtorEq, if_true, if_false, eq_self, forall_const]
  refine ⟨by omega, ?_⟩
  refine w_lcFil (fun i : Nat => PyData.int (0 + (i : Int))) (fun _ => false) (fun i => PyData.int (0 + (i : Int))) (fun i hi => ?_) (by rw [List.length_range]; omega) ?_
  · have hi := List.mem_range.mp hi
    have a : L2.atI xs (0 + (i : Int)) = some xs[i] := by
      rw [Int.zero_add, Fj.atI_nat, List.getElem?_eq_getElem hi]
    have hx := h xs[i] (List.getElem_mem ..)
    simp (config := {maxSteps := 1000000}) only [a, hx, Fj.wp0, Fj.wp1, Fj.wp2, Fj.wp3, Fj.wp4, Fj.wp5, Fj.wp6, Fj.wp7, Fj.wp8, Fj.wp9, Fj.wp10, Fj.wp11, Fj.wp12, Fj.wp13, Fj.wp14, Fj.wp15, Fj.wp16, Fj.wp17, Fj.wp18, Fj.wp19, Fj.wp20, Fj.wp21, Fj.tyN, Int.reduceEq, Int.reduceLT, Int.reduceLE, Int.reduceAdd, Int.reduceSub, Int.reduceMul, Int.reduceNeg, Int.reducePow, Int.reduceToNat, Int.reduceMod, Int.reduceDiv, Int.reduceNe, Nat.reduceEqDiff, Nat.reduceMul, borOk, dkAll, dkKept, nlD, nlAll, id, frz, freeE, outsE, pick, merE, wipeE, Nat.reduceAdd, Nat.reduceSub, Nat.reduceLeDiff, Nat.reduceLT, reduceCtorEq, if_true, if_false, eq_self, forall_const]
  · simp (config := {maxSteps := 1000000}) only [Fj.filter_none, Fj.wp0, Fj.wp1, Fj.wp2, Fj.wp3, Fj.wp4, Fj.wp5, Fj.wp6, Fj.wp7, Fj.wp8, Fj.wp9, Fj.wp10, Fj.wp11, Fj.wp12, Fj.wp13, Fj.wp14, Fj.wp15, Fj.wp16, Fj.wp17, Fj.wp18, Fj.wp19, Fj.wp20, Fj.wp21, Fj.tyN, Int.reduceEq, Int.reduceLT, Int.reduceLE, Int.reduceAdd, Int.reduceSub, Int.reduceMul, Int.reduceNeg, Int.reducePow, Int.reduceToNat, Int.reduceMod, Int.reduceDiv, Int.reduceNe, Nat.reduceEqDiff, Nat.reduceMul, borOk, dkAll, dkKept, nlD, nlAll, id, frz, freeE, outsE, pick, merE, wipeE, Nat.reduceAdd, Nat.reduceSub, Nat.reduceLeDiff, Nat.reduceLT, reduceCtorEq, if_true, if_false, eq_self, forall_const]
theorem same_list {r : MF} {xs : List PyData} (hl : xs.length ≤ 1000) (h : ∀ x ∈ xs, r [.val x, .val x] = some (.val (.bool true), [.no, .no])) : mFn 4 (mb__law_same r) [.val (.list xs), .val (.list xs)] = some (.val (.bool true), [.no, .no]) := by
  refine W_eq ?_
  simp (config := {maxSteps := 1000000}) only [mb__law_same, mb__law_same_1, mb__law_same_2, mb__law_same_3, mb__law_same_6, mb__law_same_7, mb__law_same_8, isND, Fj.g_neB, bq_tt, bq_ff, lc__law_same_9, Int.toNat_natCast, Fj.rngD_map, Fj.wp0, Fj.wp1, Fj.wp2, Fj.wp3, Fj.wp4, Fj.wp5, Fj.wp6, Fj.wp7, Fj.wp8, Fj.wp9, Fj.wp10, Fj.wp11, Fj.wp12, Fj.wp13, Fj.wp14, Fj.wp15, Fj.wp16, Fj.wp17, Fj.wp18, Fj.wp19, Fj.wp20, Fj.wp21, Fj.tyN, Int.reduceEq, Int.reduceLT, Int.reduceLE, Int.reduceAdd, Int.reduceSub, Int.reduceMul, Int.reduceNeg, Int.reducePow, Int.reduceToNat, Int.reduceMod, Int.reduceDiv, Int.reduceNe, Nat.reduceEqDiff, Nat.reduceMul, borOk, dkAll, dkKept, nlD, nlAll, id, frz, freeE, outsE, pick, merE, wipeE, Nat.reduceAdd, Nat.reduceSub, Nat.reduceLeDiff, Nat.reduceLT, reduceCtorEq, if_true, if_false, eq_self, forall_const]
  refine ⟨by omega, ?_⟩
  refine w_lcFil (fun i : Nat => PyData.int (0 + (i : Int))) (fun _ => false) (fun i => PyData.int (0 + (i : Int))) (fun i hi => ?_) (by rw [List.length_range]; omega) ?_
  · have hi := List.mem_range.mp hi
    have a : L2.atI xs (0 + (i : Int)) = some xs[i] := by
      rw [Int.zero_add, Fj.atI_nat, List.getElem?_eq_getElem hi]
    have hx := h xs[i] (List.getElem_mem ..)
    simp (config := {maxSteps := 1000000}) only [a, hx, Fj.wp0, Fj.wp1, Fj.wp2, Fj.wp3, Fj.wp4, Fj.wp5, Fj.wp6, Fj.wp7, Fj.wp8, Fj.wp9, Fj.wp10, Fj.wp11, Fj.wp12, Fj.wp13, Fj.wp14, Fj.wp15, Fj.wp16, Fj.wp17, Fj.wp18, Fj.wp19, Fj.wp20, Fj.wp21, Fj.tyN, Int.reduceEq, Int.reduceLT, Int.reduceLE, Int.reduceAdd, Int.reduceSub, Int.reduceMul, Int.reduceNeg, Int.reducePow, Int.reduceToNat, Int.reduceMod, Int.reduceDiv, Int.reduceNe, Nat.reduceEqDiff, Nat.reduceMul, borOk, dkAll, dkKept, nlD, nlAll, id, frz, freeE, outsE, pick, merE, wipeE, Nat.reduceAdd, Nat.reduceSub, Nat.reduceLeDiff, Nat.reduceLT, reduceCtorEq, if_true, if_false, eq_self, forall_const]
  · simp (config := {maxSteps := 1000000}) only [Fj.filter_none, Fj.wp0, Fj.wp1, Fj.wp2, Fj.wp3, Fj.wp4, Fj.wp5, Fj.wp6, Fj.wp7, Fj.wp8, Fj.wp9, Fj.wp10, Fj.wp11, Fj.wp12, Fj.wp13, Fj.wp14, Fj.wp15, Fj.wp16, Fj.wp17, Fj.wp18, Fj.wp19, Fj.wp20, Fj.wp21, Fj.tyN, Int.reduceEq, Int.reduceLT, Int.reduceLE, Int.reduceAdd, Int.reduceSub, Int.reduceMul, Int.reduceNeg, Int.reducePow, Int.reduceToNat, Int.reduceMod, Int.reduceDiv, Int.reduceNe, Nat.reduceEqDiff, Nat.reduceMul, borOk, dkAll, dkKept, nlD, nlAll, id, frz, freeE, outsE, pick, merE, wipeE, Nat.reduceAdd, Nat.reduceSub, Nat.reduceLeDiff, Nat.reduceLT, reduceCtorEq, if_true, if_false, eq_self, forall_const]
theorem same_leaf {r : MF} {x : PyData} (h : x = .none ∨ (∃ b, x = .bool b) ∨ (∃ i, x = .int i) ∨ ∃ s, x = .str s) : mFn 4 (mb__law_same r) [.val x, .val x] = some (.val (.bool true), [.no, .no]) := by
  refine W_eq ?_
  rcases h with rfl | ⟨b, rfl⟩ | ⟨i, rfl⟩ | ⟨s, rfl⟩
  · simp (config := {maxSteps := 1000000}) only [mb__law_same, mb__law_same_1, isND, Fj.g_isBN, Fj.g_eqB, bq_tt, bq_ff, Fj.wp0, Fj.wp1, Fj.wp2, Fj.wp3, Fj.wp4, Fj.wp5, Fj.wp6, Fj.wp7, Fj.wp8, Fj.wp9, Fj.wp10, Fj.wp11, Fj.wp12, Fj.wp13, Fj.wp14, Fj.wp15, Fj.wp16, Fj.wp17, Fj.wp18, Fj.wp19, Fj.wp20, Fj.wp21, Fj.tyN, Int.reduceEq, Int.reduceLT, Int.reduceLE, Int.reduceAdd, Int.reduceSub, Int.reduceMul, Int.reduceNeg, Int.reducePow, Int.reduceToNat, Int.reduceMod, Int.reduceDiv, Int.reduceNe, Nat.reduceEqDiff, Nat.reduceMul, borOk, dkAll, dkKept, nlD, nlAll, id, frz, freeE, outsE, pick, merE, wipeE, Nat.reduceAdd, Nat.reduceSub, Nat.reduceLeDiff, Nat.reduceLT, reduceCtorEq, if_true, if_false, eq_self, forall_const]
  · cases b <;> simp (config := {maxSteps := 1000000}) only [mb__law_same, mb__law_same_1, isND, Fj.g_isBN, Fj.g_isTrue, Fj.g_isFalse, Fj.g_eqB, bq_tt, bq_ff, Fj.wp0, Fj.wp1, Fj.wp2, Fj.wp3, Fj.wp4, Fj.wp5, Fj.wp6, Fj.wp7, Fj.wp8, Fj.wp9, Fj.wp10, Fj.wp11, Fj.wp12, Fj.wp13, Fj.wp14, Fj.wp15, Fj.wp16, Fj.wp17, Fj.wp18, Fj.wp19, Fj.wp20, Fj.wp21, Fj.tyN, Int.reduceEq, Int.reduceLT, Int.reduceLE, Int.reduceAdd, Int.reduceSub, Int.reduceMul, Int.reduceNeg, Int.reducePow, Int.reduceToNat, Int.reduceMod, Int.reduceDiv, Int.reduceNe, Nat.reduceEqDiff, Nat.reduceMul, borOk, dkAll, dkKept, nlD, nlAll, id, frz, freeE, outsE, pick, merE, wipeE, Nat.reduceAdd, Nat.reduceSub, Nat.reduceLeDiff, Nat.reduceLT, reduceCtorEq, if_true, if_false, eq_self, forall_const]
  · simp (config := {maxSteps := 1000000}) only [mb__law_same, mb__law_same_1, mb__law_same_2, isND, Fj.g_isBN, Fj.g_eqB, bq_tt, bq_ff, Fj.wp0, Fj.wp1, Fj.wp2, Fj.wp3, Fj.wp4, Fj.wp5, Fj.wp6, Fj.wp7, Fj.wp8, Fj.wp9, Fj.wp10, Fj.wp11, Fj.wp12, Fj.wp13, Fj.wp14, Fj.wp15, Fj.wp16, Fj.wp17, Fj.wp18, Fj.wp19, Fj.wp20, Fj.wp21, Fj.tyN, Int.reduceEq, Int.reduceLT, Int.reduceLE, Int.reduceAdd, Int.reduceSub, Int.reduceMul, Int.reduceNeg, Int.reducePow, Int.reduceToNat, Int.reduceMod, Int.reduceDiv, Int.reduceNe, Nat.reduceEqDiff, Nat.reduceMul, borOk, dkAll, dkKept, nlD, nlAll, id, frz, freeE, outsE, pick, merE, wipeE, Nat.reduceAdd, Nat.reduceSub, Nat.reduceLeDiff, Nat.reduceLT, reduceCtorEq, if_true, if_false, eq_self, forall_const]
  · simp (config := {maxSteps := 1000000}) only [mb__law_same, mb__law_same_1, mb__law_same_2, mb__law_same_3, isND, Fj.g_isBN, Fj.g_eqB, bq_tt, bq_ff, Fj.wp0, Fj.wp1, Fj.wp2, Fj.wp3, Fj.wp4, Fj.wp5, Fj.wp6, Fj.wp7, Fj.wp8, Fj.wp9, Fj.wp10, Fj.wp11, Fj.wp12, Fj.wp13, Fj.wp14, Fj.wp15, Fj.wp16, Fj.wp17, Fj.wp18, Fj.wp19, Fj.wp20, Fj.wp21, Fj.tyN, Int.reduceEq, Int.reduceLT, Int.reduceLE, Int.reduceAdd, Int.reduceSub, Int.reduceMul, Int.reduceNeg, Int.reducePow, Int.reduceToNat, Int.reduceMod, Int.reduceDiv, Int.reduceNe, Nat.reduceEqDiff, Nat.reduceMul, borOk, dkAll, dkKept, nlD, nlAll, id, frz, freeE, outsE, pick, merE, wipeE, Nat.reduceAdd, Nat.reduceSub, Nat.reduceLeDiff, Nat.reduceLT, reduceCtorEq, if_true, if_false, eq_self, forall_const]
theorem same_self : ∀ (n : Nat) (x : PyData), Sm n x → mf__law_same (n + 1) [.val x, .val x] = some (.val (.bool true), [.no, .no])
  | n, .none, _ => same_leaf (.inl rfl)
  | n, .bool b, _ => same_leaf (.inr (.inl ⟨b, rfl⟩))
  | n, .int i, _ => same_leaf (.inr (.inr (.inl ⟨i, rfl⟩)))
  | n, .str s, _ => same_leaf (.inr (.inr (.inr ⟨s, rfl⟩)))
  | n + 1, .tuple xs, h => same_row h.1 fun x hx => same_self n x (h.2 x hx)
  | n + 1, .list xs, h => same_list h.1 fun x hx => same_self n x (h.2 x hx)
  | n, .dict _, h => by cases n <;> exact h.elim
theorem same40 {x : PyData} (h : Sm 39 x) : mf__law_same 40 [.val x, .val x] = some (.val (.bool true), [.no, .no]) := same_self 39 x h
end L_k08

set_option maxRecDepth 100000
set_option maxHeartbeats 0
set_option linter.all false
set_option linter.unusedSimpArgs false
namespace L_k08
open PySem PySem.Spec PyProof.Rows L2 Fj
theorem law_in_row {as : List Vr} (ua : Upv as) (hl : as.length ≤ 1000) (v : Vr) : mf__law_in [.val (rds (Rg.prs as)), .val (tupI v)] = some (.val (.bool (inV as v)), [.no, .no]) := by
  have := prs_le as
  rw [law_in_eq (Rg.prs as) (by omega), Rg.inR_prs lin_lex as ua v]
theorem two_borders {B : Int} {as bs : List Vr} (hB : 0 < B) (va : ∀ v ∈ as, VerR B v) (vb : ∀ v ∈ bs, VerR B v) (hl : as.length + bs.length < 63) : mf__law_borders [.val (.list [rds (Rg.prs as), rds (Rg.prs bs)])] = some (.own true (.lst ((srt (F0 :: (as ++ bs))).map tupI)), [.no]) := by
  have e : [as, bs].flatMap id = as ++ bs := by simp
  have b := law_borders_eq (rs := [as, bs]) hB (fun r hr v hv => by
    rcases List.mem_cons.mp hr with z | z
    · rw [z] at hv
      exact va v hv
    · rw [List.mem_singleton.mp z] at hv
      exact vb v hv) (by rw [e, List.length_append]; exact hl)
  rw [e] at b
  exact b
theorem law_joined_eq {B : Int} {as bs : List Vr} (hB : 0 < B) (ha : Upv as) (hb : Upv bs) (va : ∀ v ∈ as, VerR B v) (vb : ∀ v ∈ bs, VerR B v) (hl : as.length + bs.length < 63) : mf__law_joined [.val (rds (Rg.prs as)), .val (rds (Rg.prs bs))] = some (.val (rds (Rg.prs (jn as bs))), [.no, .no]) := by
  refine W_eq ?_
  have b := two_borders hB va vb hl
  have ia := law_in_row ha (by omega)
  have ib := law_in_row hb (by omega)
  have hs := srt_up (F0 :: (as ++ bs))
  have hsl := srt_len (F0 :: (as ++ bs))
  rw [List.length_cons, List.length_append] at hsl
  have h1 : ∀ x ∈ as, x ∈ srt (F0 :: (as ++ bs)) := fun x hx => mem_srt.mpr (List.mem_cons_of_mem _ (List.mem_append_left _ hx))
  have h2 : ∀ x ∈ bs, x ∈ srt (F0 :: (as ++ bs)) := fun x hx => mem_srt.mpr (List.mem_cons_of_mem _ (List.mem_append_right _ hx))
  generalize srt (F0 :: (as ++ bs)) = ss at b hs hsl h1 h2
  have mk := law_made_eq (ss := ss) (fun v => inV as v || inV bs v) (by omega)
  have eM : mrk (fun v => inV as v || inV bs v) ss = jn as bs := cmb_mrk (W := fun a b => a || b) rfl ha hb hs h1 h2
  rw [eM] at mk
  simp (config := {maxSteps := 1000000}) only [mf__law_joined, mb__law_joined, b, lc__law_joined_1, Fj.wp0, Fj.wp1, Fj.wp2, Fj.wp3, Fj.wp4, Fj.wp5, Fj.wp6, Fj.wp7, Fj.wp8, Fj.wp9, Fj.wp10, Fj.wp11, Fj.wp12, Fj.wp13, Fj.wp14, Fj.wp15, Fj.wp16, Fj.wp17, Fj.wp18, Fj.wp19, Fj.wp20, Fj.wp21, Fj.tyN, Int.reduceEq, Int.reduceLT, Int.reduceLE, Int.reduceAdd, Int.reduceSub, Int.reduceMul, Int.reduceNeg, Int.reducePow, Int.reduceToNat, Int.reduceMod, Int.reduceDiv, Int.reduceNe, Nat.reduceEqDiff, Nat.reduceMul, borOk, dkAll, dkKept, nlD, nlAll, id, frz, freeE, outsE, pick, merE, wipeE, Nat.reduceAdd, Nat.reduceSub, Nat.reduceLeDiff, Nat.reduceLT, reduceCtorEq, if_true, if_false, eq_self, forall_const]
  refine w_lcMap tupI (fun v => .bool (inV as v || inV bs v)) (fun v hv => ?_) (by omega) ?_
  · cases h : inV as v <;> simp (config := {maxSteps := 1000000}) only [ia, ib, h, Fj.wp0, Fj.wp1, Fj.wp2, Fj.wp3, Fj.wp4, Fj.wp5, Fj.wp6, Fj.wp7, Fj.wp8, Fj.wp9, Fj.wp10, Fj.wp11, Fj.wp12, Fj.wp13, Fj.wp14, Fj.wp15, Fj.wp16, Fj.wp17, Fj.wp18, Fj.wp19, Fj.wp20, Fj.wp21, Fj.tyN, Int.reduceEq, Int.reduceLT, Int.reduceLE, Int.reduceAdd, Int.reduceSub, Int.reduceMul, Int.reduceNeg, Int.reducePow, Int.reduceToNat, Int.reduceMod, Int.reduceDiv, Int.reduceNe, Nat.reduceEqDiff, Nat.reduceMul, borOk, dkAll, dkKept, nlD, nlAll, id, frz, freeE, outsE, pick, merE, wipeE, Nat.reduceAdd, Nat.reduceSub, Nat.reduceLeDiff, Nat.reduceLT, reduceCtorEq, if_true, if_false, eq_self, forall_const]
  · rw [map_bools]
    simp (config := {maxSteps := 1000000}) only [mk, Fj.wp0, Fj.wp1, Fj.wp2, Fj.wp3, Fj.wp4, Fj.wp5, Fj.wp6, Fj.wp7, Fj.wp8, Fj.wp9, Fj.wp10, Fj.wp11, Fj.wp12, Fj.wp13, Fj.wp14, Fj.wp15, Fj.wp16, Fj.wp17, Fj.wp18, Fj.wp19, Fj.wp20, Fj.wp21, Fj.tyN, Int.reduceEq, Int.reduceLT, Int.reduceLE, Int.reduceAdd, Int.reduceSub, Int.reduceMul, Int.reduceNeg, Int.reducePow, Int.reduceToNat, Int.reduceMod, Int.reduceDiv, Int.reduceNe, Nat.reduceEqDiff, Nat.reduceMul, borOk, dkAll, dkKept, nlD, nlAll, id, frz, freeE, outsE, pick, merE, wipeE, Nat.reduceAdd, Nat.reduceSub, Nat.reduceLeDiff, Nat.reduceLT, reduceCtorEq, if_true, if_false, eq_self, forall_const]
theorem law_cut_eq {B : Int} {as bs : List Vr} (hB : 0 < B) (ha : Upv as) (hb : Upv bs) (va : ∀ v ∈ as, VerR B v) (vb : ∀ v ∈ bs, VerR B v) (hl : as.length + bs.length < 63) : mf__law_cut [.val (rds (Rg.prs as)), .val (rds (Rg.prs bs))] = some (.val (rds (Rg.prs (ct as bs))), [.no, .no]) := by
  refine W_eq ?_
  have b := two_borders hB va vb hl
  have ia := law_in_row ha (by omega)
  have ib := law_in_row hb (by omega)
  have hs := srt_up (F0 :: (as ++ bs))
  have hsl := srt_len (F0 :: (as ++ bs))
  rw [List.length_cons, List.length_append] at hsl
  have h1 : ∀ x ∈ as, x ∈ srt (F0 :: (as ++ bs)) := fun x hx => mem_srt.mpr (List.mem_cons_of_mem _ (List.mem_append_left _ hx))
  have h2 : ∀ x ∈ bs, x ∈ srt (F0 :: (as ++ bs)) := fun x hx => mem_srt.mpr (List.mem_cons_of_mem _ (List.mem_append_right _ hx))
  generalize srt (F0 :: (as ++ bs)) = ss at b hs hsl h1 h2
  have mk := law_made_eq (ss := ss) (fun v => inV as v && inV bs v) (by omega)
  have eM : mrk (fun v => inV as v && inV bs v) ss = ct as bs := cmb_mrk (W := fun a b => a && b) rfl ha hb hs h1 h2
  rw [eM] at mk
  simp (config := {maxSteps := 1000000}) only [mf__law_cut, mb__law_cut, b, lc__law_cut_1, Fj.wp0, Fj.wp1, Fj.wp2, Fj.wp3, Fj.wp4, Fj.wp5, Fj.wp6, Fj.wp7, Fj.wp8, Fj.wp9, Fj.wp10, Fj.wp11, Fj.wp12, Fj.wp13, Fj.wp14, Fj.wp15, Fj.wp16, Fj.wp17, Fj.wp18, Fj.wp19, Fj.wp20, Fj.wp21, Fj.tyN, Int.reduceEq, Int.reduceLT, Int.reduceLE, Int.reduceAdd, Int.reduceSub, Int.reduceMul, Int.reduceNeg, Int.reducePow, Int.reduceToNat, Int.reduceMod, Int.reduceDiv, Int.reduceNe, Nat.reduceEqDiff, Nat.reduceMul, borOk, dkAll, dkKept, nlD, nlAll, id, frz, freeE, outsE, pick, merE, wipeE, Nat.reduceAdd, Nat.reduceSub, Nat.reduceLeDiff, Nat.reduceLT, reduceCtorEq, if_true, if_false, eq_self, forall_const]
  refine w_lcMap tupI (fun v => .bool (inV as v && inV bs v)) (fun v hv => ?_) (by omega) ?_
  · cases h : inV as v <;> simp (config := {maxSteps := 1000000}) only [ia, ib, h, Bool.false_and, Fj.wp0, Fj.wp1, Fj.wp2, Fj.wp3, Fj.wp4, Fj.wp5, Fj.wp6, Fj.wp7, Fj.wp8, Fj.wp9, Fj.wp10, Fj.wp11, Fj.wp12, Fj.wp13, Fj.wp14, Fj.wp15, Fj.wp16, Fj.wp17, Fj.wp18, Fj.wp19, Fj.wp20, Fj.wp21, Fj.tyN, Int.reduceEq, Int.reduceLT, Int.reduceLE, Int.reduceAdd, Int.reduceSub, Int.reduceMul, Int.reduceNeg, Int.reducePow, Int.reduceToNat, Int.reduceMod, Int.reduceDiv, Int.reduceNe, Nat.reduceEqDiff, Nat.reduceMul, borOk, dkAll, dkKept, nlD, nlAll, id, frz, freeE, outsE, pick, merE, wipeE, Nat.reduceAdd, Nat.reduceSub, Nat.reduceLeDiff, Nat.reduceLT, reduceCtorEq, if_true, if_false, eq_self, forall_const]
  · rw [map_bools]
    simp (config := {maxSteps := 1000000}) only [mk, Fj.wp0, Fj.wp1, Fj.wp2, Fj.wp3, Fj.wp4, Fj.wp5, Fj.wp6, Fj.wp7, Fj.wp8, Fj.wp9, Fj.wp10, Fj.wp11, Fj.wp12, Fj.wp13, Fj.wp14, Fj.wp15, Fj.wp16, Fj.wp17, Fj.wp18, Fj.wp19, Fj.wp20, Fj.wp21, Fj.tyN, Int.reduceEq, Int.reduceLT, Int.reduceLE, Int.reduceAdd, Int.reduceSub, Int.reduceMul, Int.reduceNeg, Int.reducePow, Int.reduceToNat, Int.reduceMod, Int.reduceDiv, Int.reduceNe, Nat.reduceEqDiff, Nat.reduceMul, borOk, dkAll, dkKept, nlD, nlAll, id, frz, freeE, outsE, pick, merE, wipeE, Nat.reduceAdd, Nat.reduceSub, Nat.reduceLeDiff, Nat.reduceLT, reduceCtorEq, if_true, if_false, eq_self, forall_const]
theorem law_without_eq {B : Int} {as bs : List Vr} (hB : 0 < B) (ha : Upv as) (hb : Upv bs) (va : ∀ v ∈ as, VerR B v) (vb : ∀ v ∈ bs, VerR B v) (hl : as.length + bs.length < 63) : mf__law_without [.val (rds (Rg.prs as)), .val (rds (Rg.prs bs))] = some (.val (rds (Rg.prs (df as bs))), [.no, .no]) := by
  refine W_eq ?_
  have b := two_borders hB va vb hl
  have ia := law_in_row ha (by omega)
  have ib := law_in_row hb (by omega)
  have hs := srt_up (F0 :: (as ++ bs))
  have hsl := srt_len (F0 :: (as ++ bs))
  rw [List.length_cons, List.length_append] at hsl
  have h1 : ∀ x ∈ as, x ∈ srt (F0 :: (as ++ bs)) := fun x hx => mem_srt.mpr (List.mem_cons_of_mem _ (List.mem_append_left _ hx))
  have h2 : ∀ x ∈ bs, x ∈ srt (F0 :: (as ++ bs)) := fun x hx => mem_srt.mpr (List.mem_cons_of_mem _ (List.mem_append_right _ hx))
  generalize srt (F0 :: (as ++ bs)) = ss at b hs hsl h1 h2
  have mk := law_made_eq (ss := ss) (fun v => inV as v && !inV bs v) (by omega)
  have eM : mrk (fun v => inV as v && !inV bs v) ss = df as bs := cmb_mrk (W := fun a b => a && !b) rfl ha hb hs h1 h2
  rw [eM] at mk
  simp (config := {maxSteps := 1000000}) only [mf__law_without, mb__law_without, b, lc__law_without_1, Fj.wp0, Fj.wp1, Fj.wp2, Fj.wp3, Fj.wp4, Fj.wp5, Fj.wp6, Fj.wp7, Fj.wp8, Fj.wp9, Fj.wp10, Fj.wp11, Fj.wp12, Fj.wp13, Fj.wp14, Fj.wp15, Fj.wp16, Fj.wp17, Fj.wp18, Fj.wp19, Fj.wp20, Fj.wp21, Fj.tyN, Int.reduceEq, Int.reduceLT, Int.reduceLE, Int.reduceAdd, Int.reduceSub, Int.reduceMul, Int.reduceNeg, Int.reducePow, Int.reduceToNat, Int.reduceMod, Int.reduceDiv, Int.reduceNe, Nat.reduceEqDiff, Nat.reduceMul, borOk, dkAll, dkKept, nlD, nlAll, id, frz, freeE, outsE, pick, merE, wipeE, Nat.reduceAdd, Nat.reduceSub, Nat.reduceLeDiff, Nat.reduceLT, reduceCtorEq, if_true, if_false, eq_self, forall_const]
  refine w_lcMap tupI (fun v => .bool (inV as v && !inV bs v)) (fun v hv => ?_) (by omega) ?_
  · cases h : inV as v <;> simp (config := {maxSteps := 1000000}) only [ia, ib, h, Bool.false_and, Fj.wp0, Fj.wp1, Fj.wp2, Fj.wp3, Fj.wp4, Fj.wp5, Fj.wp6, Fj.wp7, Fj.wp8, Fj.wp9, Fj.wp10, Fj.wp11, Fj.wp12, Fj.wp13, Fj.wp14, Fj.wp15, Fj.wp16, Fj.wp17, Fj.wp18, Fj.wp19, Fj.wp20, Fj.wp21, Fj.tyN, Int.reduceEq, Int.reduceLT, Int.reduceLE, Int.reduceAdd, Int.reduceSub, Int.reduceMul, Int.reduceNeg, Int.reducePow, Int.reduceToNat, Int.reduceMod, Int.reduceDiv, Int.reduceNe, Nat.reduceEqDiff, Nat.reduceMul, borOk, dkAll, dkKept, nlD, nlAll, id, frz, freeE, outsE, pick, merE, wipeE, Nat.reduceAdd, Nat.reduceSub, Nat.reduceLeDiff, Nat.reduceLT, reduceCtorEq, if_true, if_false, eq_self, forall_const]
  · rw [map_bools]
    simp (config := {maxSteps := 1000000}) only [mk, Fj.wp0, Fj.wp1, Fj.wp2, Fj.wp3, Fj.wp4, Fj.wp5, Fj.wp6, Fj.wp7, Fj.wp8, Fj.wp9, Fj.wp10, Fj.wp11, Fj.wp12, Fj.wp13, Fj.wp14, Fj.wp15, Fj.wp16, Fj.wp17, Fj.wp18, Fj.wp19, Fj.wp20, Fj.wp21, Fj.tyN, Int.reduceEq, Int.reduceLT, Int.reduceLE, Int.reduceAdd, Int.reduceSub, Int.reduceMul, Int.reduceNeg, Int.reducePow, Int.reduceToNat, Int.reduceMod, Int.reduceDiv, Int.reduceNe, Nat.reduceEqDiff, Nat.reduceMul, borOk, dkAll, dkKept, nlD, nlAll, id, frz, freeE, outsE, pick, merE, wipeE, Nat.reduceAdd, Nat.reduceSub, Nat.reduceLeDiff, Nat.reduceLT, reduceCtorEq, if_true, if_false, eq_self, forall_const]
theorem law_next_row {B : Int} {v : Vr} (h : VerR B v) : mf__law_next [.val (tupI v)] = some (.val (tupI (nx v)), [.no]) := by
  obtain ⟨a, b, c, k, n, rfl, w⟩ := h
  have e := law_next_eq a b c k n
  by_cases hk : k < 3
  · rw [if_pos hk] at e
    have e2 : nx [a, b, c, k, n] = [a, b, c, k, n + 1] := if_pos hk
    rw [e2]
    exact e
  · rw [if_neg hk] at e
    have e2 : nx [a, b, c, k, n] = [a, b, c + 1, 0, 0] := if_neg hk
    rw [e2]
    exact e
theorem nx_ver {B : Int} {v : Vr} (h : VerR B v) : VerR (B + 1) (nx v) := by
  obtain ⟨a, b, c, k, n, rfl, w⟩ := h
  have := next_ver w
  unfold nx
  by_cases hk : k < 3
  · simp only [if_pos hk] at this ⊢
    exact ⟨_, _, _, _, _, rfl, this⟩
  · simp only [if_neg hk] at this ⊢
    exact ⟨_, _, _, _, _, rfl, this⟩
theorem nx_lt {B : Int} {v : Vr} (h : VerR B v) : HT.lexLt v (nx v) = true := by
  obtain ⟨a, b, c, k, n, rfl, w⟩ := h
  unfold nx
  by_cases hk : k < 3
  · simp only [if_pos hk]
    rw [lex5, decide_eq_true_iff]
    omega
  · simp only [if_neg hk]
    rw [lex5, decide_eq_true_iff]
    omega
theorem nx_up {B : Int} {v : Vr} (h : VerR B v) : Upv [v, nx v] := .cons (fun x hx => by rw [List.mem_singleton.mp hx]; exact nx_lt h) (.cons (fun x z => (List.not_mem_nil z).elim) .nil)
theorem nx_only {B : Int} {v w : Vr} (h : VerR B v) (hw : VerR B w) : inV [v, nx v] w = decide (w = v) := by
  rw [inV2]
  obtain ⟨a, b, c, k, n, rfl, ⟨v1, v2, v3, v4, v5, v6, v7, v8, v9, v10, v11⟩⟩ := h
  obtain ⟨a', b', c', k', n', rfl, ⟨w1, w2, w3, w4, w5, w6, w7, w8, w9, w10, w11⟩⟩ := hw
  unfold nx
  rw [Bool.eq_iff_iff, Bool.and_eq_true, Bool.not_eq_true', decide_eq_true_iff]
  simp only [List.cons.injEq, and_true]
  by_cases hk : k < 3
  · simp only [if_pos hk]
    rw [lex5, lex5, decide_eq_true_iff, decide_eq_false_iff_not]
    omega
  · simp only [if_neg hk]
    rw [lex5, lex5, decide_eq_true_iff, decide_eq_false_iff_not]
    have : k = 3 := by omega
    have := v11 this
    omega
theorem F0_in {B : Int} {v : Vr} (h : VerR B v) : inV [F0] v = true := by
  obtain ⟨a, b, c, k, n, rfl, ⟨h1, h2, h3, h4, h5, h6, h7, h8, h9, h10, h11⟩⟩ := h
  show (if HT.lexLt [a, b, c, k, n] [0, 0, 0, 0, 0] = true then false else !false) = true
  rw [if_neg ?_]
  · rfl
  · rw [lex5, decide_eq_true_iff]
    omega
theorem F0_up : Upv [F0] := .cons (fun x z => (List.not_mem_nil z).elim) .nil
end L_k08

set_option maxRecDepth 100000
set_option maxHeartbeats 0
set_option linter.all false
set_option linter.unusedSimpArgs false
namespace L_k08
open PySem PySem.Spec PyProof.Rows L2 Fj
theorem bs_ok {M : Nat} {l : List Int} {m t : Int} {near : List PyData} {k : Int} {ws : List Vr} {e7 : Ent} (hM : M < 2 ^ 40) (hw : ∀ v ∈ ws, VerR 1000001000 v) (hwl : ws.length < 63) (hne : ws ≠ []) (hd : DkOk M l m t) (p7 : Pl e7) :
    W1 (mb__law_range_3 [.own false (.deck 0 l m t), .val (.list near), .val (.int k), .val (.list ((srt ws).map tupI)), .no, .no, .no, e7]) fun f => ∃ (bs : List Vr) (l : List Int) (m t : Int), Upv bs ∧ (∀ v ∈ bs, VerR 1000001000 v) ∧ bs.length ≤ ws.length + 1 ∧ bs ≠ [] ∧ DkOk (M + 1) l m t ∧ f = .nx [.own false (.deck 0 l m t), .val (.list near), .val (.int k), .val (.list (bs.map tupI)), .no, .no, .no, e7] := by
  have hsl := srt_len ws
  have hsv : ∀ v ∈ srt ws, VerR 1000001000 v := fun v hv => hw v (mem_srt.mp hv)
  have hsn : srt ws ≠ [] := by
    intro z
    cases ws with
    | nil => exact hne rfl
    | cons w r =>
      have : w ∈ srt (w :: r) := mem_srt.mpr (List.mem_cons_self ..)
      rw [z] at this
      exact List.not_mem_nil this
  have hsu := srt_up ws
  generalize srt ws = ss at hsl hsv hsn hsu
  simp (config := {maxSteps := 1000000}) only [mb__law_range_3, p7.all, Fj.wp0, Fj.wp1, Fj.wp2, Fj.wp3, Fj.wp4, Fj.wp5, Fj.wp6, Fj.wp7, Fj.wp8, Fj.wp9, Fj.wp10, Fj.wp11, Fj.wp12, Fj.wp13, Fj.wp14, Fj.wp15, Fj.wp16, Fj.wp17, Fj.wp18, Fj.wp19, Fj.wp20, Fj.wp21, Fj.tyN, Int.reduceEq, Int.reduceLT, Int.reduceLE, Int.reduceAdd, Int.reduceSub, Int.reduceMul, Int.reduceNeg, Int.reducePow, Int.reduceToNat, Int.reduceMod, Int.reduceDiv, Int.reduceNe, Nat.reduceEqDiff, Nat.reduceMul, borOk, dkAll, dkKept, nlD, nlAll, id, frz, freeE, outsE, pick, merE, wipeE, Nat.reduceAdd, Nat.reduceSub, Nat.reduceLeDiff, Nat.reduceLT, reduceCtorEq, if_true, if_false, eq_self, forall_const]
  refine (draw_ok M l m t _ hd (by omega) (by decide) (by decide)).mono ?_
  rintro _ _ ⟨r, l1, m1, t1, o, rfl, q1, q2, rfl, hd1⟩
  simp (config := {maxSteps := 1000000}) only [p7.all, Fj.wp0, Fj.wp1, Fj.wp2, Fj.wp3, Fj.wp4, Fj.wp5, Fj.wp6, Fj.wp7, Fj.wp8, Fj.wp9, Fj.wp10, Fj.wp11, Fj.wp12, Fj.wp13, Fj.wp14, Fj.wp15, Fj.wp16, Fj.wp17, Fj.wp18, Fj.wp19, Fj.wp20, Fj.wp21, Fj.tyN, Int.reduceEq, Int.reduceLT, Int.reduceLE, Int.reduceAdd, Int.reduceSub, Int.reduceMul, Int.reduceNeg, Int.reducePow, Int.reduceToNat, Int.reduceMod, Int.reduceDiv, Int.reduceNe, Nat.reduceEqDiff, Nat.reduceMul, borOk, dkAll, dkKept, nlD, nlAll, id, frz, freeE, outsE, pick, merE, wipeE, Nat.reduceAdd, Nat.reduceSub, Nat.reduceLeDiff, Nat.reduceLT, reduceCtorEq, if_true, if_false, eq_self, forall_const]
  refine IfB.mk (fun _ => ?_) (fun _ => ?_)
  · have c1 : 1 + (ss.map tupI).length ≤ 100000 := by rw [List.length_map]; omega
    have ok : tupsOk (F0 :: ss) = true := tups_ok5 (by rw [List.length_cons]; omega) fun v hv2 => by
      rcases List.mem_cons.mp hv2 with e | e
      · rw [e]
        exact (F0_ver (B := 1) (by decide)).nn
      · exact (hsv v e).nn
    have td : tupsD (.tuple [.int 0, .int 0, .int 0, .int 0, .int 0] :: ss.map tupI) = some (F0 :: ss) := tupsD_map (F0 :: ss)
    simp (config := {maxSteps := 1000000}) only [p7.all, c1, td, ok, Fj.wp0, Fj.wp1, Fj.wp2, Fj.wp3, Fj.wp4, Fj.wp5, Fj.wp6, Fj.wp7, Fj.wp8, Fj.wp9, Fj.wp10, Fj.wp11, Fj.wp12, Fj.wp13, Fj.wp14, Fj.wp15, Fj.wp16, Fj.wp17, Fj.wp18, Fj.wp19, Fj.wp20, Fj.wp21, Fj.tyN, Int.reduceEq, Int.reduceLT, Int.reduceLE, Int.reduceAdd, Int.reduceSub, Int.reduceMul, Int.reduceNeg, Int.reducePow, Int.reduceToNat, Int.reduceMod, Int.reduceDiv, Int.reduceNe, Nat.reduceEqDiff, Nat.reduceMul, borOk, dkAll, dkKept, nlD, nlAll, id, frz, freeE, outsE, pick, merE, wipeE, Nat.reduceAdd, Nat.reduceSub, Nat.reduceLeDiff, Nat.reduceLT, reduceCtorEq, if_true, if_false, eq_self, forall_const]
    refine ⟨srt (F0 :: ss), l1, m1, t1, srt_up _, fun v hv => ?_, ?_, ?_, hd1, rfl⟩
    · rcases List.mem_cons.mp (mem_srt.mp hv) with e | e
      · rw [e]
        exact F0_ver (by decide)
      · exact hsv v e
    · have := srt_len (F0 :: ss)
      rw [List.length_cons] at this
      omega
    · intro z
      have : F0 ∈ srt (F0 :: ss) := mem_srt.mpr (List.mem_cons_self ..)
      rw [z] at this
      exact List.not_mem_nil this
  · (try simp (config := {maxSteps := 1000000}) only [p7.all, Fj.wp0, Fj.wp1, Fj.wp2, Fj.wp3, Fj.wp4, Fj.wp5, Fj.wp6, Fj.wp7, Fj.wp8, Fj.wp9, Fj.wp10, Fj.wp11, Fj.wp12, Fj.wp13, Fj.wp14, Fj.wp15, Fj.wp16, Fj.wp17, Fj.wp18, Fj.wp19, Fj.wp20, Fj.wp21, Fj.tyN, Int.reduceEq, Int.reduceLT, Int.reduceLE, Int.reduceAdd, Int.reduceSub, Int.reduceMul, Int.reduceNeg, Int.reducePow, Int.reduceToNat, Int.reduceMod, Int.reduceDiv, Int.reduceNe, Nat.reduceEqDiff, Nat.reduceMul, borOk, dkAll, dkKept, nlD, nlAll, id, frz, freeE, outsE, pick, merE, wipeE, Nat.reduceAdd, Nat.reduceSub, Nat.reduceLeDiff, Nat.reduceLT, reduceCtorEq, if_true, if_false, eq_self, forall_const])
    exact ⟨ss, l1, m1, t1, hsu, hsv, by omega, hsn, hd1, rfl⟩
theorem five_ok {n most : Nat} {l : List Int} {m t : Int} {e1 e3 e5 e6 e7 : Ent} (h1 : 1 ≤ most) (h8 : most ≤ 8) (hn : n < 2 ^ 40) (hd : DkOk n l m t) : W1 (mb__law_range_5 [.own false (.deck 0 l m t), e1, .val (.int most), e3, .no, e5, e6, e7]) fun f => ∃ (many : Nat) (l' : List Int) (m' t' : Int), 1 ≤ many ∧ many ≤ 2 * most ∧ DkOk (n + 1) l' m' t' ∧ f = .nx [.own false (.deck 0 l' m' t'), e1, .val (.int most), e3, .val (.int many), e5, e6, e7] := by
  simp (config := {maxSteps := 1000000}) only [mb__law_range_5, Fj.wp0, Fj.wp1, Fj.wp2, Fj.wp3, Fj.wp4, Fj.wp5, Fj.wp6, Fj.wp7, Fj.wp8, Fj.wp9, Fj.wp10, Fj.wp11, Fj.wp12, Fj.wp13, Fj.wp14, Fj.wp15, Fj.wp16, Fj.wp17, Fj.wp18, Fj.wp19, Fj.wp20, Fj.wp21, Fj.tyN, Int.reduceEq, Int.reduceLT, Int.reduceLE, Int.reduceAdd, Int.reduceSub, Int.reduceMul, Int.reduceNeg, Int.reducePow, Int.reduceToNat, Int.reduceMod, Int.reduceDiv, Int.reduceNe, Nat.reduceEqDiff, Nat.reduceMul, borOk, dkAll, dkKept, nlD, nlAll, id, frz, freeE, outsE, pick, merE, wipeE, Nat.reduceAdd, Nat.reduceSub, Nat.reduceLeDiff, Nat.reduceLT, reduceCtorEq, if_true, if_false, eq_self, forall_const]
  refine (draw_ok _ l m t _ hd (by omega) (by decide) (by decide)).mono ?_
  rintro _ _ ⟨r2, l4, m4, t4, o4, rfl, q5, q6, rfl, hd4⟩
  simp (config := {maxSteps := 1000000}) only [Fj.wp0, Fj.wp1, Fj.wp2, Fj.wp3, Fj.wp4, Fj.wp5, Fj.wp6, Fj.wp7, Fj.wp8, Fj.wp9, Fj.wp10, Fj.wp11, Fj.wp12, Fj.wp13, Fj.wp14, Fj.wp15, Fj.wp16, Fj.wp17, Fj.wp18, Fj.wp19, Fj.wp20, Fj.wp21, Fj.tyN, Int.reduceEq, Int.reduceLT, Int.reduceLE, Int.reduceAdd, Int.reduceSub, Int.reduceMul, Int.reduceNeg, Int.reducePow, Int.reduceToNat, Int.reduceMod, Int.reduceDiv, Int.reduceNe, Nat.reduceEqDiff, Nat.reduceMul, borOk, dkAll, dkKept, nlD, nlAll, id, frz, freeE, outsE, pick, merE, wipeE, Nat.reduceAdd, Nat.reduceSub, Nat.reduceLeDiff, Nat.reduceLT, reduceCtorEq, if_true, if_false, eq_self, forall_const]
  refine IfB.mk (fun _ => ?_) (fun _ => ?_)
  · simp (config := {maxSteps := 1000000}) only [Fj.wp0, Fj.wp1, Fj.wp2, Fj.wp3, Fj.wp4, Fj.wp5, Fj.wp6, Fj.wp7, Fj.wp8, Fj.wp9, Fj.wp10, Fj.wp11, Fj.wp12, Fj.wp13, Fj.wp14, Fj.wp15, Fj.wp16, Fj.wp17, Fj.wp18, Fj.wp19, Fj.wp20, Fj.wp21, Fj.tyN, Int.reduceEq, Int.reduceLT, Int.reduceLE, Int.reduceAdd, Int.reduceSub, Int.reduceMul, Int.reduceNeg, Int.reducePow, Int.reduceToNat, Int.reduceMod, Int.reduceDiv, Int.reduceNe, Nat.reduceEqDiff, Nat.reduceMul, borOk, dkAll, dkKept, nlD, nlAll, id, frz, freeE, outsE, pick, merE, wipeE, Nat.reduceAdd, Nat.reduceSub, Nat.reduceLeDiff, Nat.reduceLT, reduceCtorEq, if_true, if_false, eq_self, forall_const]
    refine ⟨mulCi (by decide) (by decide) (by omega) (by omega), 2 * most, l4, m4, t4, by omega, Nat.le_refl _, hd4, ?_⟩
    rw [show ((2 * most : Nat) : Int) = 2 * (most : Int) by omega]
  · simp (config := {maxSteps := 1000000}) only [Fj.wp0, Fj.wp1, Fj.wp2, Fj.wp3, Fj.wp4, Fj.wp5, Fj.wp6, Fj.wp7, Fj.wp8, Fj.wp9, Fj.wp10, Fj.wp11, Fj.wp12, Fj.wp13, Fj.wp14, Fj.wp15, Fj.wp16, Fj.wp17, Fj.wp18, Fj.wp19, Fj.wp20, Fj.wp21, Fj.tyN, Int.reduceEq, Int.reduceLT, Int.reduceLE, Int.reduceAdd, Int.reduceSub, Int.reduceMul, Int.reduceNeg, Int.reducePow, Int.reduceToNat, Int.reduceMod, Int.reduceDiv, Int.reduceNe, Nat.reduceEqDiff, Nat.reduceMul, borOk, dkAll, dkKept, nlD, nlAll, id, frz, freeE, outsE, pick, merE, wipeE, Nat.reduceAdd, Nat.reduceSub, Nat.reduceLeDiff, Nat.reduceLT, reduceCtorEq, if_true, if_false, eq_self, forall_const]
    refine ⟨mulCi (by decide) (by decide) (by omega) (by omega), 2 * most - 1, l4, m4, t4, by omega, by omega, hd4, ?_⟩
    rw [show ((2 * most - 1 : Nat) : Int) = 2 * (most : Int) - 1 by omega]
theorem range_ok {n most : Nat} {l : List Int} {m t : Int} {vs : List Vr} (h1 : 1 ≤ most) (h8 : most ≤ 8) (hvs : ∀ v ∈ vs, VerR 1000001000 v) (hvl : vs.length ≤ 1000) (hd : DkOk n l m t) (hn : n < 2 ^ 35) :
    W (mf__law_range [.own false (.deck 0 l m t), .val (.list (vs.map tupI)), .val (.int most)]) fun e outs => ∃ (r : List Vr) (l' : List Int) (m' t' : Int) (o : List Ent), e = .val (rds (Rg.prs r)) ∧ Upv r ∧ (∀ v ∈ r, VerR 1000001000 v) ∧ r.length ≤ 2 * most ∧ outs = .own false (.deck 0 l' m' t') :: o ∧ DkOk (n + 1000) l' m' t' := by
  have hvd : ∀ d ∈ vs.map tupI, Ver 1000001000 d := fun d hd => by
    obtain ⟨v, hv, rfl⟩ := List.mem_map.mp hd
    exact (hvs v hv).ver
  simp (config := {maxSteps := 1000000}) only [mf__law_range, mb__law_range, mb__law_range_2, lc__law_range_1, Fj.wp0, Fj.wp1, Fj.wp2, Fj.wp3, Fj.wp4, Fj.wp5, Fj.wp6, Fj.wp7, Fj.wp8, Fj.wp9, Fj.wp10, Fj.wp11, Fj.wp12, Fj.wp13, Fj.wp14, Fj.wp15, Fj.wp16, Fj.wp17, Fj.wp18, Fj.wp19, Fj.wp20, Fj.wp21, Fj.tyN, Int.reduceEq, Int.reduceLT, Int.reduceLE, Int.reduceAdd, Int.reduceSub, Int.reduceMul, Int.reduceNeg, Int.reducePow, Int.reduceToNat, Int.reduceMod, Int.reduceDiv, Int.reduceNe, Nat.reduceEqDiff, Nat.reduceMul, borOk, dkAll, dkKept, nlD, nlAll, id, frz, freeE, outsE, pick, merE, wipeE, Nat.reduceAdd, Nat.reduceSub, Nat.reduceLeDiff, Nat.reduceLT, reduceCtorEq, if_true, if_false, eq_self, forall_const]
  refine ⟨mulCi (by decide) (by decide) (by omega) (by omega), ?_⟩
  refine (draw_ok n l m t _ hd (by omega) (by omega) (by omega)).mono ?_
  rintro _ _ ⟨r0, l1, m1, t1, o, rfl, q1, q2, rfl, hd1⟩
  simp (config := {maxSteps := 1000000}) only [Fj.wp0, Fj.wp1, Fj.wp2, Fj.wp3, Fj.wp4, Fj.wp5, Fj.wp6, Fj.wp7, Fj.wp8, Fj.wp9, Fj.wp10, Fj.wp11, Fj.wp12, Fj.wp13, Fj.wp14, Fj.wp15, Fj.wp16, Fj.wp17, Fj.wp18, Fj.wp19, Fj.wp20, Fj.wp21, Fj.tyN, Int.reduceEq, Int.reduceLT, Int.reduceLE, Int.reduceAdd, Int.reduceSub, Int.reduceMul, Int.reduceNeg, Int.reducePow, Int.reduceToNat, Int.reduceMod, Int.reduceDiv, Int.reduceNe, Nat.reduceEqDiff, Nat.reduceMul, borOk, dkAll, dkKept, nlD, nlAll, id, frz, freeE, outsE, pick, merE, wipeE, Nat.reduceAdd, Nat.reduceSub, Nat.reduceLeDiff, Nat.reduceLT, reduceCtorEq, if_true, if_false, eq_self, forall_const]
  refine ⟨by omega, ?_⟩
  refine w_lcL (fun ds acc ρ => ∃ (ws : List Vr) (l : List Int) (m t : Int), ds.length + ws.length = (1 + r0).toNat ∧ acc = ws.map tupI ∧ (∀ w ∈ ws, VerR 1000001000 w) ∧ DkOk (n + 1 + 16 * ws.length) l m t ∧ ρ = [.own false (.deck 0 l m t), .val (.list (vs.map tupI)), .val (.int most), .no, .no, .no, .no, .no]) ?_ ?_ _ _ _ ⟨[], l1, m1, t1, by rw [rng_len]; rfl, rfl, fun w z => (List.not_mem_nil z).elim, hd1, rfl⟩
  · intro d ds acc ρ ⟨ws, l, m, t, g1, g2, g3, hd, e0⟩
    subst e0 g2
    rw [List.length_cons] at g1
    have hl2 : (ws.map tupI).length < 100000 := by rw [List.length_map]; omega
    have fin : ∀ (w : Vr) (l m t), VerR 1000001000 w → DkOk (n + 1 + 16 * ws.length + 16) l m t → ∃ (ws' : List Vr) (l' : List Int) (m' t' : Int), ds.length + ws'.length = (1 + r0).toNat ∧ ws.map tupI ++ [tupI w] = ws'.map tupI ∧ (∀ w ∈ ws', VerR 1000001000 w) ∧ DkOk (n + 1 + 16 * ws'.length) l' m' t' ∧ [Ent.own false (.deck 0 l m t), .val (.list (vs.map tupI)), .val (.int most), .no, .no, .no, .no, .no] = [.own false (.deck 0 l' m' t'), .val (.list (vs.map tupI)), .val (.int most), .no, .no, .no, .no, .no] := by
      intro w l m t hw hd
      refine ⟨ws ++ [w], l, m, t, by rw [List.length_append, List.length_singleton]; omega, by rw [List.map_append]; rfl, fun x hx => ?_, hd.mono (by rw [List.length_append, List.length_singleton]; omega), rfl⟩
      rcases List.mem_append.mp hx with z | z
      · exact g3 x z
      · rw [List.mem_singleton.mp z]
        exact hw
    have ver : ∀ l m t, DkOk (n + 1 + 16 * ws.length + 1) l m t → W (mf__law_version [.own false (.deck 0 l m t), .val (.list (vs.map tupI))]) fun e outs => ∃ w l' m' t' o, e = .val (tupI w) ∧ VerR 1000001000 w ∧ outs = .own false (.deck 0 l' m' t') :: o ∧ DkOk (n + 1 + 16 * ws.length + 16) l' m' t' := by
      intro l m t hd
      refine (version_ok (B := 1000001000) (by decide) (by omega) hvd (by rw [List.length_map]; omega) hd).mono ?_
      rintro _ _ ⟨d1, l1, m1, t1, o1, rfl, hv1, rfl, hd1⟩
      obtain ⟨w, rfl, hw⟩ := hv1.row
      exact ⟨w, l1, m1, t1, o1, rfl, hw, rfl, hd1⟩
    simp (config := {maxSteps := 1000000}) only [shapedL hvd, Fj.wp0, Fj.wp1, Fj.wp2, Fj.wp3, Fj.wp4, Fj.wp5, Fj.wp6, Fj.wp7, Fj.wp8, Fj.wp9, Fj.wp10, Fj.wp11, Fj.wp12, Fj.wp13, Fj.wp14, Fj.wp15, Fj.wp16, Fj.wp17, Fj.wp18, Fj.wp19, Fj.wp20, Fj.wp21, Fj.tyN, Int.reduceEq, Int.reduceLT, Int.reduceLE, Int.reduceAdd, Int.reduceSub, Int.reduceMul, Int.reduceNeg, Int.reducePow, Int.reduceToNat, Int.reduceMod, Int.reduceDiv, Int.reduceNe, Nat.reduceEqDiff, Nat.reduceMul, borOk, dkAll, dkKept, nlD, nlAll, id, frz, freeE, outsE, pick, merE, wipeE, Nat.reduceAdd, Nat.reduceSub, Nat.reduceLeDiff, Nat.reduceLT, reduceCtorEq, if_true, if_false, eq_self, forall_const]
    refine IfB.mk (fun hne => ?_) (fun _ => ?_)
    · have hne : vs.map tupI ≠ [] := by
        intro z
        rw [z] at hne
        cases hne
      simp (config := {maxSteps := 1000000}) only [Fj.wp0, Fj.wp1, Fj.wp2, Fj.wp3, Fj.wp4, Fj.wp5, Fj.wp6, Fj.wp7, Fj.wp8, Fj.wp9, Fj.wp10, Fj.wp11, Fj.wp12, Fj.wp13, Fj.wp14, Fj.wp15, Fj.wp16, Fj.wp17, Fj.wp18, Fj.wp19, Fj.wp20, Fj.wp21, Fj.tyN, Int.reduceEq, Int.reduceLT, Int.reduceLE, Int.reduceAdd, Int.reduceSub, Int.reduceMul, Int.reduceNeg, Int.reducePow, Int.reduceToNat, Int.reduceMod, Int.reduceDiv, Int.reduceNe, Nat.reduceEqDiff, Nat.reduceMul, borOk, dkAll, dkKept, nlD, nlAll, id, frz, freeE, outsE, pick, merE, wipeE, Nat.reduceAdd, Nat.reduceSub, Nat.reduceLeDiff, Nat.reduceLT, reduceCtorEq, if_true, if_false, eq_self, forall_const]
      refine (draw_ok _ l m t _ hd (by omega) (by decide) (by decide)).mono ?_
      rintro _ _ ⟨r, l2, m2, t2, o2, rfl, q3, q4, rfl, hd2⟩
      simp (config := {maxSteps := 1000000}) only [Fj.wp0, Fj.wp1, Fj.wp2, Fj.wp3, Fj.wp4, Fj.wp5, Fj.wp6, Fj.wp7, Fj.wp8, Fj.wp9, Fj.wp10, Fj.wp11, Fj.wp12, Fj.wp13, Fj.wp14, Fj.wp15, Fj.wp16, Fj.wp17, Fj.wp18, Fj.wp19, Fj.wp20, Fj.wp21, Fj.tyN, Int.reduceEq, Int.reduceLT, Int.reduceLE, Int.reduceAdd, Int.reduceSub, Int.reduceMul, Int.reduceNeg, Int.reducePow, Int.reduceToNat, Int.reduceMod, Int.reduceDiv, Int.reduceNe, Nat.reduceEqDiff, Nat.reduceMul, borOk, dkAll, dkKept, nlD, nlAll, id, frz, freeE, outsE, pick, merE, wipeE, Nat.reduceAdd, Nat.reduceSub, Nat.reduceLeDiff, Nat.reduceLT, reduceCtorEq, if_true, if_false, eq_self, forall_const]
      refine IfB.mk (fun _ => ?_) (fun _ => ?_)
      · simp (config := {maxSteps := 1000000}) only [Fj.wp0, Fj.wp1, Fj.wp2, Fj.wp3, Fj.wp4, Fj.wp5, Fj.wp6, Fj.wp7, Fj.wp8, Fj.wp9, Fj.wp10, Fj.wp11, Fj.wp12, Fj.wp13, Fj.wp14, Fj.wp15, Fj.wp16, Fj.wp17, Fj.wp18, Fj.wp19, Fj.wp20, Fj.wp21, Fj.tyN, Int.reduceEq, Int.reduceLT, Int.reduceLE, Int.reduceAdd, Int.reduceSub, Int.reduceMul, Int.reduceNeg, Int.reducePow, Int.reduceToNat, Int.reduceMod, Int.reduceDiv, Int.reduceNe, Nat.reduceEqDiff, Nat.reduceMul, borOk, dkAll, dkKept, nlD, nlAll, id, frz, freeE, outsE, pick, merE, wipeE, Nat.reduceAdd, Nat.reduceSub, Nat.reduceLeDiff, Nat.reduceLT, reduceCtorEq, if_true, if_false, eq_self, forall_const]
        refine (pick_ok _ l2 m2 t2 _ hd2 (by omega) hne (by rw [List.length_map]; omega)).mono ?_
        rintro _ _ ⟨x, l3, m3, t3, o3, hx, rfl, rfl, hd3⟩
        obtain ⟨w, hw, rfl⟩ := List.mem_map.mp hx
        simp (config := {maxSteps := 1000000}) only [hl2, Fj.wp0, Fj.wp1, Fj.wp2, Fj.wp3, Fj.wp4, Fj.wp5, Fj.wp6, Fj.wp7, Fj.wp8, Fj.wp9, Fj.wp10, Fj.wp11, Fj.wp12, Fj.wp13, Fj.wp14, Fj.wp15, Fj.wp16, Fj.wp17, Fj.wp18, Fj.wp19, Fj.wp20, Fj.wp21, Fj.tyN, Int.reduceEq, Int.reduceLT, Int.reduceLE, Int.reduceAdd, Int.reduceSub, Int.reduceMul, Int.reduceNeg, Int.reducePow, Int.reduceToNat, Int.reduceMod, Int.reduceDiv, Int.reduceNe, Nat.reduceEqDiff, Nat.reduceMul, borOk, dkAll, dkKept, nlD, nlAll, id, frz, freeE, outsE, pick, merE, wipeE, Nat.reduceAdd, Nat.reduceSub, Nat.reduceLeDiff, Nat.reduceLT, reduceCtorEq, if_true, if_false, eq_self, forall_const]
        exact fin w _ _ _ (hvs w hw) (hd3.mono (by omega))
      · simp (config := {maxSteps := 1000000}) only [Fj.wp0, Fj.wp1, Fj.wp2, Fj.wp3, Fj.wp4, Fj.wp5, Fj.wp6, Fj.wp7, Fj.wp8, Fj.wp9, Fj.wp10, Fj.wp11, Fj.wp12, Fj.wp13, Fj.wp14, Fj.wp15, Fj.wp16, Fj.wp17, Fj.wp18, Fj.wp19, Fj.wp20, Fj.wp21, Fj.tyN, Int.reduceEq, Int.reduceLT, Int.reduceLE, Int.reduceAdd, Int.reduceSub, Int.reduceMul, Int.reduceNeg, Int.reducePow, Int.reduceToNat, Int.reduceMod, Int.reduceDiv, Int.reduceNe, Nat.reduceEqDiff, Nat.reduceMul, borOk, dkAll, dkKept, nlD, nlAll, id, frz, freeE, outsE, pick, merE, wipeE, Nat.reduceAdd, Nat.reduceSub, Nat.reduceLeDiff, Nat.reduceLT, reduceCtorEq, if_true, if_false, eq_self, forall_const]
        refine (ver l2 m2 t2 hd2).mono ?_
        rintro _ _ ⟨w, l3, m3, t3, o3, rfl, hw, rfl, hd3⟩
        simp (config := {maxSteps := 1000000}) only [hl2, Fj.wp0, Fj.wp1, Fj.wp2, Fj.wp3, Fj.wp4, Fj.wp5, Fj.wp6, Fj.wp7, Fj.wp8, Fj.wp9, Fj.wp10, Fj.wp11, Fj.wp12, Fj.wp13, Fj.wp14, Fj.wp15, Fj.wp16, Fj.wp17, Fj.wp18, Fj.wp19, Fj.wp20, Fj.wp21, Fj.tyN, Int.reduceEq, Int.reduceLT, Int.reduceLE, Int.reduceAdd, Int.reduceSub, Int.reduceMul, Int.reduceNeg, Int.reducePow, Int.reduceToNat, Int.reduceMod, Int.reduceDiv, Int.reduceNe, Nat.reduceEqDiff, Nat.reduceMul, borOk, dkAll, dkKept, nlD, nlAll, id, frz, freeE, outsE, pick, merE, wipeE, Nat.reduceAdd, Nat.reduceSub, Nat.reduceLeDiff, Nat.reduceLT, reduceCtorEq, if_true, if_false, eq_self, forall_const]
        exact fin w _ _ _ hw hd3
    · simp (config := {maxSteps := 1000000}) only [Fj.wp0, Fj.wp1, Fj.wp2, Fj.wp3, Fj.wp4, Fj.wp5, Fj.wp6, Fj.wp7, Fj.wp8, Fj.wp9, Fj.wp10, Fj.wp11, Fj.wp12, Fj.wp13, Fj.wp14, Fj.wp15, Fj.wp16, Fj.wp17, Fj.wp18, Fj.wp19, Fj.wp20, Fj.wp21, Fj.tyN, Int.reduceEq, Int.reduceLT, Int.reduceLE, Int.reduceAdd, Int.reduceSub, Int.reduceMul, Int.reduceNeg, Int.reducePow, Int.reduceToNat, Int.reduceMod, Int.reduceDiv, Int.reduceNe, Nat.reduceEqDiff, Nat.reduceMul, borOk, dkAll, dkKept, nlD, nlAll, id, frz, freeE, outsE, pick, merE, wipeE, Nat.reduceAdd, Nat.reduceSub, Nat.reduceLeDiff, Nat.reduceLT, reduceCtorEq, if_true, if_false, eq_self, forall_const]
      refine (ver l m t (hd.mono (by omega))).mono ?_
      rintro _ _ ⟨w, l3, m3, t3, o3, rfl, hw, rfl, hd3⟩
      simp (config := {maxSteps := 1000000}) only [hl2, Fj.wp0, Fj.wp1, Fj.wp2, Fj.wp3, Fj.wp4, Fj.wp5, Fj.wp6, Fj.wp7, Fj.wp8, Fj.wp9, Fj.wp10, Fj.wp11, Fj.wp12, Fj.wp13, Fj.wp14, Fj.wp15, Fj.wp16, Fj.wp17, Fj.wp18, Fj.wp19, Fj.wp20, Fj.wp21, Fj.tyN, Int.reduceEq, Int.reduceLT, Int.reduceLE, Int.reduceAdd, Int.reduceSub, Int.reduceMul, Int.reduceNeg, Int.reducePow, Int.reduceToNat, Int.reduceMod, Int.reduceDiv, Int.reduceNe, Nat.reduceEqDiff, Nat.reduceMul, borOk, dkAll, dkKept, nlD, nlAll, id, frz, freeE, outsE, pick, merE, wipeE, Nat.reduceAdd, Nat.reduceSub, Nat.reduceLeDiff, Nat.reduceLT, reduceCtorEq, if_true, if_false, eq_self, forall_const]
      exact fin w _ _ _ hw hd3
  · intro acc ρ ⟨ws, l, m, t, g1, g2, g3, hd, e0⟩
    subst e0 g2
    rw [List.length_nil, Nat.zero_add] at g1
    have ok : tupsOk ws = true := tups_ok5 (by omega) fun v hv => (g3 v hv).nn
    have wne : ws ≠ [] := by
      intro z
      rw [z] at g1
      simp at g1
      omega
    simp (config := {maxSteps := 1000000}) only [ok, Fj.wp0, Fj.wp1, Fj.wp2, Fj.wp3, Fj.wp4, Fj.wp5, Fj.wp6, Fj.wp7, Fj.wp8, Fj.wp9, Fj.wp10, Fj.wp11, Fj.wp12, Fj.wp13, Fj.wp14, Fj.wp15, Fj.wp16, Fj.wp17, Fj.wp18, Fj.wp19, Fj.wp20, Fj.wp21, Fj.tyN, Int.reduceEq, Int.reduceLT, Int.reduceLE, Int.reduceAdd, Int.reduceSub, Int.reduceMul, Int.reduceNeg, Int.reducePow, Int.reduceToNat, Int.reduceMod, Int.reduceDiv, Int.reduceNe, Nat.reduceEqDiff, Nat.reduceMul, borOk, dkAll, dkKept, nlD, nlAll, id, frz, freeE, outsE, pick, merE, wipeE, Nat.reduceAdd, Nat.reduceSub, Nat.reduceLeDiff, Nat.reduceLT, reduceCtorEq, if_true, if_false, eq_self, forall_const]
    refine (bs_ok (ws := ws) (by omega) g3 (by omega) wne hd .no).mono ?_
    rintro _ ⟨bs, l2, m2, t2, hu, hv, hl, hne, hd2, rfl⟩
    simp (config := {maxSteps := 1000000}) only [mb__law_range_4, Fj.wp0, Fj.wp1, Fj.wp2, Fj.wp3, Fj.wp4, Fj.wp5, Fj.wp6, Fj.wp7, Fj.wp8, Fj.wp9, Fj.wp10, Fj.wp11, Fj.wp12, Fj.wp13, Fj.wp14, Fj.wp15, Fj.wp16, Fj.wp17, Fj.wp18, Fj.wp19, Fj.wp20, Fj.wp21, Fj.tyN, Int.reduceEq, Int.reduceLT, Int.reduceLE, Int.reduceAdd, Int.reduceSub, Int.reduceMul, Int.reduceNeg, Int.reducePow, Int.reduceToNat, Int.reduceMod, Int.reduceDiv, Int.reduceNe, Nat.reduceEqDiff, Nat.reduceMul, borOk, dkAll, dkKept, nlD, nlAll, id, frz, freeE, outsE, pick, merE, wipeE, Nat.reduceAdd, Nat.reduceSub, Nat.reduceLeDiff, Nat.reduceLT, reduceCtorEq, if_true, if_false, eq_self, forall_const]
    refine (draw_ok _ l2 m2 t2 _ hd2 (by omega) (by decide) (by decide)).mono ?_
    rintro _ _ ⟨r, l3, m3, t3, o3, rfl, q3, q4, rfl, hd3⟩
    simp (config := {maxSteps := 1000000}) only [Fj.wp0, Fj.wp1, Fj.wp2, Fj.wp3, Fj.wp4, Fj.wp5, Fj.wp6, Fj.wp7, Fj.wp8, Fj.wp9, Fj.wp10, Fj.wp11, Fj.wp12, Fj.wp13, Fj.wp14, Fj.wp15, Fj.wp16, Fj.wp17, Fj.wp18, Fj.wp19, Fj.wp20, Fj.wp21, Fj.tyN, Int.reduceEq, Int.reduceLT, Int.reduceLE, Int.reduceAdd, Int.reduceSub, Int.reduceMul, Int.reduceNeg, Int.reducePow, Int.reduceToNat, Int.reduceMod, Int.reduceDiv, Int.reduceNe, Nat.reduceEqDiff, Nat.reduceMul, borOk, dkAll, dkKept, nlD, nlAll, id, frz, freeE, outsE, pick, merE, wipeE, Nat.reduceAdd, Nat.reduceSub, Nat.reduceLeDiff, Nat.reduceLT, reduceCtorEq, if_true, if_false, eq_self, forall_const]
    refine IfB.mk (fun _ => ?_) (fun _ => ?_)
    · simp (config := {maxSteps := 1000000}) only [Fj.wp0, Fj.wp1, Fj.wp2, Fj.wp3, Fj.wp4, Fj.wp5, Fj.wp6, Fj.wp7, Fj.wp8, Fj.wp9, Fj.wp10, Fj.wp11, Fj.wp12, Fj.wp13, Fj.wp14, Fj.wp15, Fj.wp16, Fj.wp17, Fj.wp18, Fj.wp19, Fj.wp20, Fj.wp21, Fj.tyN, Int.reduceEq, Int.reduceLT, Int.reduceLE, Int.reduceAdd, Int.reduceSub, Int.reduceMul, Int.reduceNeg, Int.reducePow, Int.reduceToNat, Int.reduceMod, Int.reduceDiv, Int.reduceNe, Nat.reduceEqDiff, Nat.reduceMul, borOk, dkAll, dkKept, nlD, nlAll, id, frz, freeE, outsE, pick, merE, wipeE, Nat.reduceAdd, Nat.reduceSub, Nat.reduceLeDiff, Nat.reduceLT, reduceCtorEq, if_true, if_false, eq_self, forall_const]
      refine (pick_ok _ l3 m3 t3 _ hd3 (by omega) (by simp) (by decide)).mono ?_
      rintro _ _ ⟨x, l4, m4, t4, o4, hx, rfl, rfl, hd4⟩
      simp (config := {maxSteps := 1000000}) only [Fj.wp0, Fj.wp1, Fj.wp2, Fj.wp3, Fj.wp4, Fj.wp5, Fj.wp6, Fj.wp7, Fj.wp8, Fj.wp9, Fj.wp10, Fj.wp11, Fj.wp12, Fj.wp13, Fj.wp14, Fj.wp15, Fj.wp16, Fj.wp17, Fj.wp18, Fj.wp19, Fj.wp20, Fj.wp21, Fj.tyN, Int.reduceEq, Int.reduceLT, Int.reduceLE, Int.reduceAdd, Int.reduceSub, Int.reduceMul, Int.reduceNeg, Int.reducePow, Int.reduceToNat, Int.reduceMod, Int.reduceDiv, Int.reduceNe, Nat.reduceEqDiff, Nat.reduceMul, borOk, dkAll, dkKept, nlD, nlAll, id, frz, freeE, outsE, pick, merE, wipeE, Nat.reduceAdd, Nat.reduceSub, Nat.reduceLeDiff, Nat.reduceLT, reduceCtorEq, if_true, if_false, eq_self, forall_const]
      simp only [List.mem_cons, List.not_mem_nil, or_false] at hx
      rcases hx with rfl | rfl
      · exact ⟨[], l4, m4, t4, _, rfl, .nil, fun v z => (List.not_mem_nil z).elim, Nat.zero_le _, rfl, hd4.mono (by omega)⟩
      · exact ⟨[F0], l4, m4, t4, _, rfl, F0_up, fun v h => by rw [List.mem_singleton.mp h]; exact F0_ver (by decide), by simp; omega, rfl, hd4.mono (by omega)⟩
    · (try simp (config := {maxSteps := 1000000}) only [Fj.wp0, Fj.wp1, Fj.wp2, Fj.wp3, Fj.wp4, Fj.wp5, Fj.wp6, Fj.wp7, Fj.wp8, Fj.wp9, Fj.wp10, Fj.wp11, Fj.wp12, Fj.wp13, Fj.wp14, Fj.wp15, Fj.wp16, Fj.wp17, Fj.wp18, Fj.wp19, Fj.wp20, Fj.wp21, Fj.tyN, Int.reduceEq, Int.reduceLT, Int.reduceLE, Int.reduceAdd, Int.reduceSub, Int.reduceMul, Int.reduceNeg, Int.reducePow, Int.reduceToNat, Int.reduceMod, Int.reduceDiv, Int.reduceNe, Nat.reduceEqDiff, Nat.reduceMul, borOk, dkAll, dkKept, nlD, nlAll, id, frz, freeE, outsE, pick, merE, wipeE, Nat.reduceAdd, Nat.reduceSub, Nat.reduceLeDiff, Nat.reduceLT, reduceCtorEq, if_true, if_false, eq_self, forall_const])
      refine (five_ok (n := n + 1 + 16 * ws.length + 2) h1 h8 (by omega) (hd3.mono (by omega))).mono ?_
      rintro _ ⟨many, l4, m4, t4, k1, k2, hd4, rfl⟩
      have hcu : Upv (bs.take many) := hu.sublist (List.take_sublist ..)
      have hcv : ∀ v ∈ bs.take many, VerR 1000001000 v := fun v h => hv v (List.mem_of_mem_take h)
      have hcl : (bs.take many).length ≤ 2 * most := by
        rw [List.length_take]
        omega
      have hcn : bs.take many ≠ [] := by
        intro z
        have := congrArg List.length z
        rw [List.length_take, List.length_nil] at this
        have := List.length_pos_iff.mpr hne
        omega
      have e1 : cutD (bs.map tupI) none (some (many : Int)) = (bs.take many).map tupI := by
        rw [cut_takeN, List.map_take]
      simp (config := {maxSteps := 1000000}) only [e1, Fj.wp0, Fj.wp1, Fj.wp2, Fj.wp3, Fj.wp4, Fj.wp5, Fj.wp6, Fj.wp7, Fj.wp8, Fj.wp9, Fj.wp10, Fj.wp11, Fj.wp12, Fj.wp13, Fj.wp14, Fj.wp15, Fj.wp16, Fj.wp17, Fj.wp18, Fj.wp19, Fj.wp20, Fj.wp21, Fj.tyN, Int.reduceEq, Int.reduceLT, Int.reduceLE, Int.reduceAdd, Int.reduceSub, Int.reduceMul, Int.reduceNeg, Int.reducePow, Int.reduceToNat, Int.reduceMod, Int.reduceDiv, Int.reduceNe, Nat.reduceEqDiff, Nat.reduceMul, borOk, dkAll, dkKept, nlD, nlAll, id, frz, freeE, outsE, pick, merE, wipeE, Nat.reduceAdd, Nat.reduceSub, Nat.reduceLeDiff, Nat.reduceLT, reduceCtorEq, if_true, if_false, eq_self, forall_const]
      generalize bs.take many = cs at hcu hcv hcl hcn
      have hpos := List.length_pos_iff.mpr hcn
      have hk : (cs.length : Int) - 1 = ((cs.length - 1 : Nat) : Int) := by omega
      have hk2 : (cs.length - 1 + 1) / 2 = cs.length / 2 := by omega
      simp (config := {maxSteps := 1000000}) only [lc__law_range_6, Fj.wp0, Fj.wp1, Fj.wp2, Fj.wp3, Fj.wp4, Fj.wp5, Fj.wp6, Fj.wp7, Fj.wp8, Fj.wp9, Fj.wp10, Fj.wp11, Fj.wp12, Fj.wp13, Fj.wp14, Fj.wp15, Fj.wp16, Fj.wp17, Fj.wp18, Fj.wp19, Fj.wp20, Fj.wp21, Fj.tyN, Int.reduceEq, Int.reduceLT, Int.reduceLE, Int.reduceAdd, Int.reduceSub, Int.reduceMul, Int.reduceNeg, Int.reducePow, Int.reduceToNat, Int.reduceMod, Int.reduceDiv, Int.reduceNe, Nat.reduceEqDiff, Nat.reduceMul, borOk, dkAll, dkKept, nlD, nlAll, id, frz, freeE, outsE, pick, merE, wipeE, Nat.reduceAdd, Nat.reduceSub, Nat.reduceLeDiff, Nat.reduceLT, reduceCtorEq, if_true, if_false, eq_self, forall_const]
      refine r3_two (k := cs.length - 1) (ρ' := [.own false (.deck 0 l4 m4 t4), .val (.list (vs.map tupI)), .val (.int most), .val (.list (cs.map tupI)), .val (.int many), .no, .no, .no]) ?_ (by omega) ?_
      · simp (config := {maxSteps := 1000000}) only [List.length_map, hk, Fj.wp0, Fj.wp1, Fj.wp2, Fj.wp3, Fj.wp4, Fj.wp5, Fj.wp6, Fj.wp7, Fj.wp8, Fj.wp9, Fj.wp10, Fj.wp11, Fj.wp12, Fj.wp13, Fj.wp14, Fj.wp15, Fj.wp16, Fj.wp17, Fj.wp18, Fj.wp19, Fj.wp20, Fj.wp21, Fj.tyN, Int.reduceEq, Int.reduceLT, Int.reduceLE, Int.reduceAdd, Int.reduceSub, Int.reduceMul, Int.reduceNeg, Int.reducePow, Int.reduceToNat, Int.reduceMod, Int.reduceDiv, Int.reduceNe, Nat.reduceEqDiff, Nat.reduceMul, borOk, dkAll, dkKept, nlD, nlAll, id, frz, freeE, outsE, pick, merE, wipeE, Nat.reduceAdd, Nat.reduceSub, Nat.reduceLeDiff, Nat.reduceLT, reduceCtorEq, if_true, if_false, eq_self, forall_const]
      rw [hk2]
      simp (config := {maxSteps := 1000000}) only [Fj.wp0, Fj.wp1, Fj.wp2, Fj.wp3, Fj.wp4, Fj.wp5, Fj.wp6, Fj.wp7, Fj.wp8, Fj.wp9, Fj.wp10, Fj.wp11, Fj.wp12, Fj.wp13, Fj.wp14, Fj.wp15, Fj.wp16, Fj.wp17, Fj.wp18, Fj.wp19, Fj.wp20, Fj.wp21, Fj.tyN, Int.reduceEq, Int.reduceLT, Int.reduceLE, Int.reduceAdd, Int.reduceSub, Int.reduceMul, Int.reduceNeg, Int.reducePow, Int.reduceToNat, Int.reduceMod, Int.reduceDiv, Int.reduceNe, Nat.reduceEqDiff, Nat.reduceMul, borOk, dkAll, dkKept, nlD, nlAll, id, frz, freeE, outsE, pick, merE, wipeE, Nat.reduceAdd, Nat.reduceSub, Nat.reduceLeDiff, Nat.reduceLT, reduceCtorEq, if_true, if_false, eq_self, forall_const]
      have hp := prs_len cs
      refine w_lcL (fun ds acc ρ => ∃ j, ds = (rngCD 0 2 (cs.length / 2)).drop j ∧ j ≤ cs.length / 2 ∧ acc = ((Rg.prs cs).take j).map rd ∧ ρ = [.own false (.deck 0 l4 m4 t4), .val (.list (vs.map tupI)), .val (.int most), .val (.list (cs.map tupI)), .val (.int many), .no, .no, .no]) ?_ ?_ _ _ _ ⟨0, rfl, Nat.zero_le _, rfl, rfl⟩
      · intro d ds acc ρ ⟨j, e1, e2, e3, e4⟩
        subst e3 e4
        have hj : j < cs.length / 2 := by
          refine Nat.lt_of_not_le fun z => ?_
          have hd : (rngCD 0 2 (cs.length / 2)).drop j = [] := List.drop_eq_nil_of_le (by rw [rngC_len]; exact z)
          rw [hd] at e1
          cases e1
        obtain ⟨x, x1, x2⟩ := prs_get cs j (by omega)
        have hd : (rngCD 0 2 (cs.length / 2)).drop j = .int (0 + (j : Nat) * 2) :: (rngCD 0 2 (cs.length / 2)).drop (j + 1) := by
          have hlt : j < (rngCD 0 2 (cs.length / 2)).length := by rw [rngC_len]; exact hj
          rw [List.drop_eq_getElem_cons hlt]
          congr 1
          have := rngC_get (lo := 0) (st := 2) hj
          rw [List.getElem?_eq_getElem hlt] at this
          exact Option.some.inj this
        rw [hd] at e1
        injection e1 with e5 e6
        subst e5 e6
        have hj2 : 2 * j + 1 < cs.length := by omega
        have a1 : L2.atI (cs.map tupI) (0 + (j : Int) * 2) = some (tupI x) := by
          rw [show (0 + (j : Int) * 2) = ((2 * j : Nat) : Int) by omega, Fj.atI_nat, List.getElem?_map, x1]
          rfl
        have a2 : L2.atI (cs.map tupI) (0 + (j : Int) * 2 + 1) = some (tupI cs[2 * j + 1]) := by
          rw [show (0 + (j : Int) * 2 + 1) = ((2 * j + 1 : Nat) : Int) by omega, Fj.atI_nat, List.getElem?_map, List.getElem?_eq_getElem hj2]
          rfl
        simp (config := {maxSteps := 1000000}) only [a1, a2, Fj.wp0, Fj.wp1, Fj.wp2, Fj.wp3, Fj.wp4, Fj.wp5, Fj.wp6, Fj.wp7, Fj.wp8, Fj.wp9, Fj.wp10, Fj.wp11, Fj.wp12, Fj.wp13, Fj.wp14, Fj.wp15, Fj.wp16, Fj.wp17, Fj.wp18, Fj.wp19, Fj.wp20, Fj.wp21, Fj.tyN, Int.reduceEq, Int.reduceLT, Int.reduceLE, Int.reduceAdd, Int.reduceSub, Int.reduceMul, Int.reduceNeg, Int.reducePow, Int.reduceToNat, Int.reduceMod, Int.reduceDiv, Int.reduceNe, Nat.reduceEqDiff, Nat.reduceMul, borOk, dkAll, dkKept, nlD, nlAll, id, frz, freeE, outsE, pick, merE, wipeE, Nat.reduceAdd, Nat.reduceSub, Nat.reduceLeDiff, Nat.reduceLT, reduceCtorEq, if_true, if_false, eq_self, forall_const]
        refine ⟨by rw [List.length_map, List.length_take]; omega, j + 1, rfl, by omega, ?_⟩
        rw [List.take_add_one, x2, List.getElem?_eq_getElem hj2, List.map_append]
        rfl
      · intro acc ρ ⟨j, e1, e2, e3, e4⟩
        subst e3 e4
        have hj : j = cs.length / 2 := by
          refine Nat.le_antisymm e2 (Nat.le_of_not_lt fun z => ?_)
          have : ((rngCD 0 2 (cs.length / 2)).drop j).length = 0 := by rw [← e1]; rfl
          rw [List.length_drop, rngC_len] at this
          omega
        subst hj
        have lm : ((cs.map tupI).length : Int) = (cs.length : Int) := by rw [List.length_map]
        have fl : (((Rg.prs cs).take (cs.length / 2)).map rd).length < 100000 := by
          rw [List.length_map, List.length_take]
          omega
        by_cases odd : cs.length % 2 = 1
        · have dt : decide (((cs.map tupI).length : Int) % 2 = 1) = true := decide_eq_true (by rw [lm]; omega)
          obtain ⟨x, x1, x2⟩ := prs_get cs (cs.length / 2) (by omega)
          have z1 : cs[2 * (cs.length / 2) + 1]? = none := List.getElem?_eq_none (by omega)
          rw [z1] at x2
          have a : L2.atI (cs.map tupI) (-1) = some (tupI x) := by
            rw [Fj.atI_last (by simpa using hcn), List.length_map, List.getElem?_map, show cs.length - 1 = 2 * (cs.length / 2) by omega, x1]
            rfl
          have e : (Rg.prs cs).map rd = ((Rg.prs cs).take (cs.length / 2)).map rd ++ [.tuple [tupI x, .none]] := by
            have h := List.take_add_one (l := Rg.prs cs) (i := cs.length / 2)
            rw [x2, show cs.length / 2 + 1 = (Rg.prs cs).length by omega, List.take_length] at h
            conv => lhs; rw [h, List.map_append]
            rfl
          generalize hxs : cs.map tupI = xs at dt a
          simp (config := {maxSteps := 1000000}) only [mb__law_range_7, dt, a, fl, Fj.wp0, Fj.wp1, Fj.wp2, Fj.wp3, Fj.wp4, Fj.wp5, Fj.wp6, Fj.wp7, Fj.wp8, Fj.wp9, Fj.wp10, Fj.wp11, Fj.wp12, Fj.wp13, Fj.wp14, Fj.wp15, Fj.wp16, Fj.wp17, Fj.wp18, Fj.wp19, Fj.wp20, Fj.wp21, Fj.tyN, Int.reduceEq, Int.reduceLT, Int.reduceLE, Int.reduceAdd, Int.reduceSub, Int.reduceMul, Int.reduceNeg, Int.reducePow, Int.reduceToNat, Int.reduceMod, Int.reduceDiv, Int.reduceNe, Nat.reduceEqDiff, Nat.reduceMul, borOk, dkAll, dkKept, nlD, nlAll, id, frz, freeE, outsE, pick, merE, wipeE, Nat.reduceAdd, Nat.reduceSub, Nat.reduceLeDiff, Nat.reduceLT, reduceCtorEq, if_true, if_false, eq_self, forall_const]
          exact ⟨cs, l4, m4, t4, _, by rw [← e], hcu, hcv, hcl, rfl, hd4.mono (by omega)⟩
        · have dt : decide (((cs.map tupI).length : Int) % 2 = 1) = false := decide_eq_false (by rw [lm]; omega)
          generalize hxs : cs.map tupI = xs at dt
          simp (config := {maxSteps := 1000000}) only [mb__law_range_7, dt, Fj.wp0, Fj.wp1, Fj.wp2, Fj.wp3, Fj.wp4, Fj.wp5, Fj.wp6, Fj.wp7, Fj.wp8, Fj.wp9, Fj.wp10, Fj.wp11, Fj.wp12, Fj.wp13, Fj.wp14, Fj.wp15, Fj.wp16, Fj.wp17, Fj.wp18, Fj.wp19, Fj.wp20, Fj.wp21, Fj.tyN, Int.reduceEq, Int.reduceLT, Int.reduceLE, Int.reduceAdd, Int.reduceSub, Int.reduceMul, Int.reduceNeg, Int.reducePow, Int.reduceToNat, Int.reduceMod, Int.reduceDiv, Int.reduceNe, Nat.reduceEqDiff, Nat.reduceMul, borOk, dkAll, dkKept, nlD, nlAll, id, frz, freeE, outsE, pick, merE, wipeE, Nat.reduceAdd, Nat.reduceSub, Nat.reduceLeDiff, Nat.reduceLT, reduceCtorEq, if_true, if_false, eq_self, forall_const]
          exact ⟨cs, l4, m4, t4, _, by rw [show cs.length / 2 = (Rg.prs cs).length by omega, List.take_length], hcu, hcv, hcl, rfl, hd4.mono (by omega)⟩
end L_k08

set_option maxRecDepth 100000
set_option maxHeartbeats 0
set_option linter.all false
set_option linter.unusedSimpArgs false
namespace L_k08
open PySem PySem.Spec PyProof.Rows L2 Fj
abbrev VB : Int := 1000001000
/-- a row of borders with at most n -/
structure Ok (n : Nat) (bs : List Vr) : Prop where
  up : Upv bs
  ver : ∀ v ∈ bs, VerR VB v
  len : bs.length ≤ n
theorem Ok.cmb {n k : Nat} {W : Bool → Bool → Bool} {as bs : List Vr} (h : Ok n as) (g : Ok k bs) : Ok (n + k) (cmb W as bs) := ⟨cmb_up .., cmb_ver h.ver g.ver, by have := h.len; have := g.len; have := cmb_len (W := W) (as := as) (bs := bs); omega⟩
theorem Ok.mono {n k : Nat} {as : List Vr} (h : Ok n as) (g : n ≤ k) : Ok k as := ⟨h.up, h.ver, Nat.le_trans h.len g⟩
theorem Ok.nil : Ok 0 [] := ⟨.nil, fun _ z => (List.not_mem_nil z).elim, Nat.le_refl _⟩
theorem Ok.F : Ok 1 [F0] := ⟨.cons (fun _ z => (List.not_mem_nil z).elim) .nil, fun v h => by rw [List.mem_singleton.mp h]; exact F0_ver (by decide), Nat.le_refl _⟩
theorem Ok.sm {n k : Nat} {as : List Vr} (h : Ok n as) (g : n ≤ 1000) : Sm (k + 3) (rds (Rg.prs as)) := Sm.rds (Nat.le_trans h.len g) (fun v hv => by rw [(h.ver v hv).nn.1]; decide) h.up
theorem Ok.shaped {n : Nat} {as : List Vr} (h : Ok n as) : SeqAt.shaped (rds (Rg.prs as)) = true := (rds_dat (fun v hv => (h.ver v hv).vsm (by decide)) h.up (Nat.le_refl _)).shaped (by decide)
theorem Ok.lawJ {n k : Nat} {as bs : List Vr} (h : Ok n as) (g : Ok k bs) (l : n + k < 63) : mf__law_joined [.val (rds (Rg.prs as)), .val (rds (Rg.prs bs))] = some (.val (rds (Rg.prs (jn as bs))), [.no, .no]) := law_joined_eq (B := VB) (by decide) h.up g.up h.ver g.ver (by have := h.len; have := g.len; omega)
theorem Ok.lawC {n k : Nat} {as bs : List Vr} (h : Ok n as) (g : Ok k bs) (l : n + k < 63) : mf__law_cut [.val (rds (Rg.prs as)), .val (rds (Rg.prs bs))] = some (.val (rds (Rg.prs (ct as bs))), [.no, .no]) := law_cut_eq (B := VB) (by decide) h.up g.up h.ver g.ver (by have := h.len; have := g.len; omega)
theorem Ok.lawW {n k : Nat} {as bs : List Vr} (h : Ok n as) (g : Ok k bs) (l : n + k < 63) : mf__law_without [.val (rds (Rg.prs as)), .val (rds (Rg.prs bs))] = some (.val (rds (Rg.prs (df as bs))), [.no, .no]) := law_without_eq (B := VB) (by decide) h.up g.up h.ver g.ver (by have := h.len; have := g.len; omega)
theorem Ok.lawIn {n : Nat} {as : List Vr} (h : Ok n as) (l : n ≤ 1000) (v : Vr) : mf__law_in [.val (rds (Rg.prs as)), .val (tupI v)] = some (.val (.bool (inV as v)), [.no, .no]) := law_in_row h.up (Nat.le_trans h.len l) v
theorem jn_in {as bs : List Vr} (ha : Upv as) (hb : Upv bs) (v : Vr) : inV (jn as bs) v = (inV as v || inV bs v) := cmb_in (W := fun a b => a || b) rfl ha hb v
theorem ct_in {as bs : List Vr} (ha : Upv as) (hb : Upv bs) (v : Vr) : inV (ct as bs) v = (inV as v && inV bs v) := cmb_in (W := fun a b => a && b) rfl ha hb v
theorem df_in {as bs : List Vr} (ha : Upv as) (hb : Upv bs) (v : Vr) : inV (df as bs) v = (inV as v && !inV bs v) := cmb_in (W := fun a b => a && !b) rfl ha hb v
theorem jn_comm {as bs : List Vr} (ha : Upv as) (hb : Upv bs) : jn bs as = jn as bs := row_ext (cmb_up ..) (cmb_up ..) fun v => by rw [jn_in hb ha, jn_in ha hb, Bool.or_comm]
theorem ct_comm {as bs : List Vr} (ha : Upv as) (hb : Upv bs) : ct bs as = ct as bs := row_ext (cmb_up ..) (cmb_up ..) fun v => by rw [ct_in hb ha, ct_in ha hb, Bool.and_comm]
end L_k08

set_option maxRecDepth 100000
set_option maxHeartbeats 0
set_option linter.all false
set_option linter.unusedSimpArgs false
namespace L_k08
open PySem PySem.Spec PyProof.Rows L2 Fj
/-- two rows with few borders together -/
structure Pr (a b : List Vr) : Prop where
  ha : Upv a
  hb : Upv b
  ex : ∃ ss, Upv ss ∧ ss.length ≤ 31 ∧ (∀ v ∈ ss, VerR VB v) ∧ (∀ v ∈ a, v ∈ ss) ∧ ∀ v ∈ b, v ∈ ss
theorem Pr.swap {a b : List Vr} (h : Pr a b) : Pr b a := ⟨h.hb, h.ha, let ⟨ss, h1, h2, h3, h4, h5⟩ := h.ex; ⟨ss, h1, h2, h3, h5, h4⟩⟩
theorem Pr.ok1 {a b : List Vr} (h : Pr a b) : Ok 31 a := let ⟨ss, h1, h2, h3, h4, h5⟩ := h.ex; ⟨h.ha, fun v hv => h3 v (h4 v hv), Nat.le_trans (row_len h1 h.ha h4) h2⟩
theorem Pr.ok2 {a b : List Vr} (h : Pr a b) : Ok 31 b := h.swap.ok1
theorem Pr.mk1 {a b : List Vr} (h : Pr a b) (W : Bool → Bool → Bool) : Pr (cmb W a b) a := ⟨cmb_up .., h.ha, let ⟨ss, h1, h2, h3, h4, h5⟩ := h.ex; ⟨ss, h1, h2, h3, fun v hv => (cmb_mem hv).elim (h4 v) (h5 v), h4⟩⟩
theorem Pr.mk2 {a b : List Vr} (h : Pr a b) (W W' : Bool → Bool → Bool) : Pr (cmb W a b) (cmb W' b a) := ⟨cmb_up .., cmb_up .., let ⟨ss, h1, h2, h3, h4, h5⟩ := h.ex; ⟨ss, h1, h2, h3, fun v hv => (cmb_mem hv).elim (h4 v) (h5 v), fun v hv => (cmb_mem hv).elim (h5 v) (h4 v)⟩⟩
theorem Pr.self {a : List Vr} (h : Ok 31 a) : Pr a a := ⟨h.up, h.up, a, h.up, h.len, h.ver, fun v hv => hv, fun v hv => hv⟩
theorem Pr.of {n k : Nat} {a b : List Vr} (h : Ok n a) (g : Ok k b) (l : n + k ≤ 31) : Pr a b := ⟨h.up, g.up, srt (a ++ b), srt_up _, by
  have := srt_len (a ++ b)
  have := h.len
  have := g.len
  rw [List.length_append] at *
  omega, fun v hv => (List.mem_append.mp (mem_srt.mp hv)).elim (h.ver v) (g.ver v), fun v hv => mem_srt.mpr (List.mem_append_left _ hv), fun v hv => mem_srt.mpr (List.mem_append_right _ hv)⟩
theorem Ok.vsm {n : Nat} {a : List Vr} (h : Ok n a) : ∀ v ∈ a, Vsm v := fun v hv => (h.ver v hv).vsm (by decide)
theorem paper_eq {w : Str} {bs : List Vr} (hs : SeqAt.shaped (rds (Rg.prs bs)) = true) : mf_paper_for [.val (rds (Rg.prs bs)), .val (.str w)] = some (.val (thD (pap w bs)), [.no, .no]) := by
  refine W_eq ?_
  cases bs with
  | nil =>
    rw [show rds (Rg.prs ([] : List Vr)) = .tuple [] from rfl]
    simp (config := {maxSteps := 1000000}) only [mf_paper_for, mb_paper_for, mb_paper_for_1, Fj.g_eqNilT, Fj.shaped_nilT, thD, pap, Fj.wp0, Fj.wp1, Fj.wp2, Fj.wp3, Fj.wp4, Fj.wp5, Fj.wp6, Fj.wp7, Fj.wp8, Fj.wp9, Fj.wp10, Fj.wp11, Fj.wp12, Fj.wp13, Fj.wp14, Fj.wp15, Fj.wp16, Fj.wp17, Fj.wp18, Fj.wp19, Fj.wp20, Fj.wp21, Fj.tyN, Int.reduceEq, Int.reduceLT, Int.reduceLE, Int.reduceAdd, Int.reduceSub, Int.reduceMul, Int.reduceNeg, Int.reducePow, Int.reduceToNat, Int.reduceMod, Int.reduceDiv, Int.reduceNe, Nat.reduceEqDiff, Nat.reduceMul, borOk, dkAll, dkKept, nlD, nlAll, id, frz, freeE, outsE, pick, merE, wipeE, Nat.reduceAdd, Nat.reduceSub, Nat.reduceLeDiff, Nat.reduceLT, reduceCtorEq, if_true, if_false, eq_self, forall_const]
  | cons b r =>
    have e2 := least_eq hs
    have e3 := fun Q => rds_eqNil (Q := Q) hs
    simp (config := {maxSteps := 1000000}) only [mf_paper_for, mb_paper_for, mb_paper_for_1, e3, e2, thD, pap, Fj.wp0, Fj.wp1, Fj.wp2, Fj.wp3, Fj.wp4, Fj.wp5, Fj.wp6, Fj.wp7, Fj.wp8, Fj.wp9, Fj.wp10, Fj.wp11, Fj.wp12, Fj.wp13, Fj.wp14, Fj.wp15, Fj.wp16, Fj.wp17, Fj.wp18, Fj.wp19, Fj.wp20, Fj.wp21, Fj.tyN, Int.reduceEq, Int.reduceLT, Int.reduceLE, Int.reduceAdd, Int.reduceSub, Int.reduceMul, Int.reduceNeg, Int.reducePow, Int.reduceToNat, Int.reduceMod, Int.reduceDiv, Int.reduceNe, Nat.reduceEqDiff, Nat.reduceMul, borOk, dkAll, dkKept, nlD, nlAll, id, frz, freeE, outsE, pick, merE, wipeE, Nat.reduceAdd, Nat.reduceSub, Nat.reduceLeDiff, Nat.reduceLT, reduceCtorEq, if_true, if_false, eq_self, forall_const]
theorem Pr.unlike {a b : List Vr} (h : Pr a b) : mf_unlike [.val (rds (Rg.prs a)), .val (rds (Rg.prs b))] = some (.val (rds (Rg.prs (jn (df a b) (df b a)))), [.no, .no]) := by
  refine W_eq ?_
  have o1 := h.ok1
  have o2 := h.ok2
  have l1 := o1.len
  have l2 := o2.len
  have p2 := h.mk2 (fun a b => a && !b) (fun a b => a && !b)
  have l3 : (df a b).length ≤ 31 := p2.ok1.len
  have l4 : (df b a).length ≤ 31 := p2.ok2.len
  have e1 := without_of_eq o1.up o2.up o1.ver o2.ver (by omega)
  have e2 := without_of_eq o2.up o1.up o2.ver o1.ver (by omega)
  have e3 := joined_of_eq (as := df a b) (bs := df b a) p2.ha p2.hb p2.ok1.ver p2.ok2.ver (by show (df a b).length + (df b a).length < 64; omega)
  simp (config := {maxSteps := 1000000}) only [mf_unlike, mb_unlike, e1, e2, e3, Fj.wp0, Fj.wp1, Fj.wp2, Fj.wp3, Fj.wp4, Fj.wp5, Fj.wp6, Fj.wp7, Fj.wp8, Fj.wp9, Fj.wp10, Fj.wp11, Fj.wp12, Fj.wp13, Fj.wp14, Fj.wp15, Fj.wp16, Fj.wp17, Fj.wp18, Fj.wp19, Fj.wp20, Fj.wp21, Fj.tyN, Int.reduceEq, Int.reduceLT, Int.reduceLE, Int.reduceAdd, Int.reduceSub, Int.reduceMul, Int.reduceNeg, Int.reducePow, Int.reduceToNat, Int.reduceMod, Int.reduceDiv, Int.reduceNe, Nat.reduceEqDiff, Nat.reduceMul, borOk, dkAll, dkKept, nlD, nlAll, id, frz, freeE, outsE, pick, merE, wipeE, Nat.reduceAdd, Nat.reduceSub, Nat.reduceLeDiff, Nat.reduceLT, reduceCtorEq, if_true, if_false, eq_self, forall_const]
theorem Pr.two {a b : List Vr} (h : Pr a b) : mf_need_two [.val (rds (Rg.prs a)), .val (rds (Rg.prs b))] = some (.val .none, [.no, .no]) := by
  have l1 := h.ok1.len
  have l2 := h.ok2.len
  exact two_eq h.ha h.ok1.ver (by omega) h.hb h.ok2.ver (by omega)
theorem Pr.wo {a b : List Vr} (h : Pr a b) : mf_without_of [.val (rds (Rg.prs a)), .val (rds (Rg.prs b))] = some (.val (rds (Rg.prs (df a b))), [.no, .no]) := by
  have l1 := h.ok1.len
  have l2 := h.ok2.len
  exact without_of_eq h.ha h.hb h.ok1.ver h.ok2.ver (by omega)
theorem Pr.judgeW {a b : List Vr} (h : Pr a b) : mf_judge_within [.val (rds (Rg.prs a)), .val (rds (Rg.prs b))] = some (.val (thD (pap "within" (df a b))), [.no, .no]) := by
  refine W_eq ?_
  have e1 := h.two
  have e2 := h.wo
  have e3 := paper_eq (w := "within") (h.mk1 (fun a b => a && !b)).ok1.shaped
  simp (config := {maxSteps := 1000000}) only [mf_judge_within, mb_judge_within, e1, e2, e3, Fj.wp0, Fj.wp1, Fj.wp2, Fj.wp3, Fj.wp4, Fj.wp5, Fj.wp6, Fj.wp7, Fj.wp8, Fj.wp9, Fj.wp10, Fj.wp11, Fj.wp12, Fj.wp13, Fj.wp14, Fj.wp15, Fj.wp16, Fj.wp17, Fj.wp18, Fj.wp19, Fj.wp20, Fj.wp21, Fj.tyN, Int.reduceEq, Int.reduceLT, Int.reduceLE, Int.reduceAdd, Int.reduceSub, Int.reduceMul, Int.reduceNeg, Int.reducePow, Int.reduceToNat, Int.reduceMod, Int.reduceDiv, Int.reduceNe, Nat.reduceEqDiff, Nat.reduceMul, borOk, dkAll, dkKept, nlD, nlAll, id, frz, freeE, outsE, pick, merE, wipeE, Nat.reduceAdd, Nat.reduceSub, Nat.reduceLeDiff, Nat.reduceLT, reduceCtorEq, if_true, if_false, eq_self, forall_const]
theorem Pr.judgeS {a b : List Vr} (h : Pr a b) : mf_judge_same [.val (rds (Rg.prs a)), .val (rds (Rg.prs b))] = some (.val (thD (pap "same" (jn (df a b) (df b a)))), [.no, .no]) := by
  refine W_eq ?_
  have e1 := h.two
  have e2 := h.unlike
  have e3 := paper_eq (w := "same") ((h.mk2 (fun a b => a && !b) (fun a b => a && !b)).mk1 (fun a b => a || b)).ok1.shaped
  simp (config := {maxSteps := 1000000}) only [mf_judge_same, mb_judge_same, e1, e2, e3, Fj.wp0, Fj.wp1, Fj.wp2, Fj.wp3, Fj.wp4, Fj.wp5, Fj.wp6, Fj.wp7, Fj.wp8, Fj.wp9, Fj.wp10, Fj.wp11, Fj.wp12, Fj.wp13, Fj.wp14, Fj.wp15, Fj.wp16, Fj.wp17, Fj.wp18, Fj.wp19, Fj.wp20, Fj.wp21, Fj.tyN, Int.reduceEq, Int.reduceLT, Int.reduceLE, Int.reduceAdd, Int.reduceSub, Int.reduceMul, Int.reduceNeg, Int.reducePow, Int.reduceToNat, Int.reduceMod, Int.reduceDiv, Int.reduceNe, Nat.reduceEqDiff, Nat.reduceMul, borOk, dkAll, dkKept, nlD, nlAll, id, frz, freeE, outsE, pick, merE, wipeE, Nat.reduceAdd, Nat.reduceSub, Nat.reduceLeDiff, Nat.reduceLT, reduceCtorEq, if_true, if_false, eq_self, forall_const]
/-- a certificate of this law -/
def Th : Str ⊕ Vr → Prop
  | .inl s => s = "within" ∨ s = "same"
  | .inr v => VerR 1000002000 v
theorem Th.gs {x : Str ⊕ Vr} (h : Th x) : Gs x := by
  cases x with
  | inl s => exact h
  | inr v => exact VerR.vsm h (by decide)
theorem is_paper_eq {w : Str} {bs : List Vr} {x : Str ⊕ Vr} (hw : w = "within" ∨ w = "same") (hb : ∀ v ∈ bs, Vsm v) (hs : SeqAt.shaped (rds (Rg.prs bs)) = true) (hx : Th x) : mf_is_paper_for [.val (rds (Rg.prs bs)), .val (.str w), .val (thD x)] = some (.val (.bool (decide (x = pap w bs))), [.no, .no, .no]) := by
  refine W_eq ?_
  have e := paper_eq (w := w) hs
  have q := fun Q => th_eq (Q := Q) hx.gs (pap_gs (w := w) hw hb)
  cases x with
  | inl s =>
    rw [show thD (.inl s) = .tuple [.str s] from rfl] at q ⊢
    simp (config := {maxSteps := 1000000}) only [mf_is_paper_for, mb_is_paper_for, mb_is_paper_for_1, mb_is_paper_for_2, Fj.ni1, e, q, Fj.wp0, Fj.wp1, Fj.wp2, Fj.wp3, Fj.wp4, Fj.wp5, Fj.wp6, Fj.wp7, Fj.wp8, Fj.wp9, Fj.wp10, Fj.wp11, Fj.wp12, Fj.wp13, Fj.wp14, Fj.wp15, Fj.wp16, Fj.wp17, Fj.wp18, Fj.wp19, Fj.wp20, Fj.wp21, Fj.tyN, Int.reduceEq, Int.reduceLT, Int.reduceLE, Int.reduceAdd, Int.reduceSub, Int.reduceMul, Int.reduceNeg, Int.reducePow, Int.reduceToNat, Int.reduceMod, Int.reduceDiv, Int.reduceNe, Nat.reduceEqDiff, Nat.reduceMul, borOk, dkAll, dkKept, nlD, nlAll, id, frz, freeE, outsE, pick, merE, wipeE, Nat.reduceAdd, Nat.reduceSub, Nat.reduceLeDiff, Nat.reduceLT, reduceCtorEq, if_true, if_false, eq_self, forall_const]
  | inr v =>
    have iv := iv_row (show VerR 1000002000 v from hx)
    rw [show thD (.inr v) = .tuple [.str "version", tupI v] from rfl] at q ⊢
    simp (config := {maxSteps := 1000000}) only [mf_is_paper_for, mb_is_paper_for, mb_is_paper_for_1, mb_is_paper_for_2, Fj.ni2, iv, e, q, Fj.wp0, Fj.wp1, Fj.wp2, Fj.wp3, Fj.wp4, Fj.wp5, Fj.wp6, Fj.wp7, Fj.wp8, Fj.wp9, Fj.wp10, Fj.wp11, Fj.wp12, Fj.wp13, Fj.wp14, Fj.wp15, Fj.wp16, Fj.wp17, Fj.wp18, Fj.wp19, Fj.wp20, Fj.wp21, Fj.tyN, Int.reduceEq, Int.reduceLT, Int.reduceLE, Int.reduceAdd, Int.reduceSub, Int.reduceMul, Int.reduceNeg, Int.reducePow, Int.reduceToNat, Int.reduceMod, Int.reduceDiv, Int.reduceNe, Nat.reduceEqDiff, Nat.reduceMul, borOk, dkAll, dkKept, nlD, nlAll, id, frz, freeE, outsE, pick, merE, wipeE, Nat.reduceAdd, Nat.reduceSub, Nat.reduceLeDiff, Nat.reduceLT, reduceCtorEq, if_true, if_false, eq_self, forall_const]
theorem Pr.withinH {a b : List Vr} (h : Pr a b) {x : Str ⊕ Vr} (hx : Th x) : mf_within_holds [.val (rds (Rg.prs a)), .val (rds (Rg.prs b)), .val (thD x)] = some (.val (.bool (decide (x = pap "within" (df a b)))), [.no, .no, .no]) := by
  refine W_eq ?_
  have e1 := h.two
  have e2 := h.wo
  have o := (h.mk1 (fun a b => a && !b)).ok1
  have e3 := is_paper_eq (w := "within") (.inl rfl) o.vsm o.shaped hx
  simp (config := {maxSteps := 1000000}) only [mf_within_holds, mb_within_holds, e1, e2, e3, Fj.wp0, Fj.wp1, Fj.wp2, Fj.wp3, Fj.wp4, Fj.wp5, Fj.wp6, Fj.wp7, Fj.wp8, Fj.wp9, Fj.wp10, Fj.wp11, Fj.wp12, Fj.wp13, Fj.wp14, Fj.wp15, Fj.wp16, Fj.wp17, Fj.wp18, Fj.wp19, Fj.wp20, Fj.wp21, Fj.tyN, Int.reduceEq, Int.reduceLT, Int.reduceLE, Int.reduceAdd, Int.reduceSub, Int.reduceMul, Int.reduceNeg, Int.reducePow, Int.reduceToNat, Int.reduceMod, Int.reduceDiv, Int.reduceNe, Nat.reduceEqDiff, Nat.reduceMul, borOk, dkAll, dkKept, nlD, nlAll, id, frz, freeE, outsE, pick, merE, wipeE, Nat.reduceAdd, Nat.reduceSub, Nat.reduceLeDiff, Nat.reduceLT, reduceCtorEq, if_true, if_false, eq_self, forall_const]
theorem Pr.sameH {a b : List Vr} (h : Pr a b) {x : Str ⊕ Vr} (hx : Th x) : mf_same_holds [.val (rds (Rg.prs a)), .val (rds (Rg.prs b)), .val (thD x)] = some (.val (.bool (decide (x = pap "same" (jn (df a b) (df b a))))), [.no, .no, .no]) := by
  refine W_eq ?_
  have e1 := h.two
  have e2 := h.unlike
  have o := ((h.mk2 (fun a b => a && !b) (fun a b => a && !b)).mk1 (fun a b => a || b)).ok1
  have e3 := is_paper_eq (w := "same") (.inr rfl) o.vsm o.shaped hx
  simp (config := {maxSteps := 1000000}) only [mf_same_holds, mb_same_holds, e1, e2, e3, Fj.wp0, Fj.wp1, Fj.wp2, Fj.wp3, Fj.wp4, Fj.wp5, Fj.wp6, Fj.wp7, Fj.wp8, Fj.wp9, Fj.wp10, Fj.wp11, Fj.wp12, Fj.wp13, Fj.wp14, Fj.wp15, Fj.wp16, Fj.wp17, Fj.wp18, Fj.wp19, Fj.wp20, Fj.wp21, Fj.tyN, Int.reduceEq, Int.reduceLT, Int.reduceLE, Int.reduceAdd, Int.reduceSub, Int.reduceMul, Int.reduceNeg, Int.reducePow, Int.reduceToNat, Int.reduceMod, Int.reduceDiv, Int.reduceNe, Nat.reduceEqDiff, Nat.reduceMul, borOk, dkAll, dkKept, nlD, nlAll, id, frz, freeE, outsE, pick, merE, wipeE, Nat.reduceAdd, Nat.reduceSub, Nat.reduceLeDiff, Nat.reduceLT, reduceCtorEq, if_true, if_false, eq_self, forall_const]
end L_k08

set_option maxRecDepth 100000
set_option maxHeartbeats 0
set_option linter.all false
set_option linter.unusedSimpArgs false
namespace L_k08
open PySem PySem.Spec PyProof.Rows L2 Fj
theorem cutN (k : Nat) (xs : List Vr) : cutD (xs.map tupI) none (some (k : Int)) = (xs.take k).map tupI := by
  rw [List.map_take]
  exact cut_takeN k
theorem sm2 {x y : PyData} (hx : Sm 38 x) (hy : Sm 38 y) : mf__law_same 40 [.val (.tuple [x, y]), .val (.tuple [x, y])] = some (.val (.bool true), [.no, .no]) := same40 (Sm.tup (n := 38) (by simp) fun z hz => by
  simp only [List.mem_cons, List.not_mem_nil, or_false] at hz
  rcases hz with rfl | rfl <;> assumption)
def pd (p : List Vr × List Vr) : PyData := .tuple [rds (Rg.prs p.1), rds (Rg.prs p.2)]
theorem pairs_of {P : List Vr × List Vr → Prop} : ∀ {ds : List PyData}, (∀ d ∈ ds, ∃ p, d = pd p ∧ P p) → ∃ ps : List (List Vr × List Vr), ds = ps.map pd ∧ ∀ p ∈ ps, P p
  | [], _ => ⟨[], rfl, fun v hv => (List.not_mem_nil hv).elim⟩
  | d :: ds, h => by
    obtain ⟨v, rfl, hv⟩ := h d (List.mem_cons_self ..)
    obtain ⟨vs, rfl, hvs⟩ := pairs_of fun x hx => h x (List.mem_cons_of_mem _ hx)
    exact ⟨v :: vs, rfl, fun x hx => (List.mem_cons.mp hx).elim (fun e => e ▸ hv) (hvs x)⟩
theorem span_pairs_ok {n : Nat} {l : List Int} {m t : Int} {vs : List Vr} (hvs : ∀ v ∈ vs, VerR 1000000100 v) (hvl : vs.length = 7) (hd : DkOk n l m t) (hn : n < 2 ^ 30) :
    W (mf__law_span_pairs [.own false (.deck 0 l m t), .val (.list (vs.map tupI))]) fun e outs => ∃ (ps : List (List Vr × List Vr)) (l' : List Int) (m' t' : Int) (o : List Ent), e = .val (.list (ps.map pd)) ∧ (∀ p ∈ ps, Pr p.1 p.2) ∧ ps.length ≤ 6 ∧ outs = .own false (.deck 0 l' m' t') :: o ∧ DkOk (n + 10000) l' m' t' := by
  have hvs2 : ∀ v ∈ vs, VerR VB v := fun v h => (hvs v h).up (by decide)
  simp (config := {maxSteps := 1000000}) only [mf__law_span_pairs, mb__law_span_pairs, lc__law_span_pairs_1, Fj.wp0, Fj.wp1, Fj.wp2, Fj.wp3, Fj.wp4, Fj.wp5, Fj.wp6, Fj.wp7, Fj.wp8, Fj.wp9, Fj.wp10, Fj.wp11, Fj.wp12, Fj.wp13, Fj.wp14, Fj.wp15, Fj.wp16, Fj.wp17, Fj.wp18, Fj.wp19, Fj.wp20, Fj.wp21, Fj.tyN, Int.reduceEq, Int.reduceLT, Int.reduceLE, Int.reduceAdd, Int.reduceSub, Int.reduceMul, Int.reduceNeg, Int.reducePow, Int.reduceToNat, Int.reduceMod, Int.reduceDiv, Int.reduceNe, Nat.reduceEqDiff, Nat.reduceMul, borOk, dkAll, dkKept, nlD, nlAll, id, frz, freeE, outsE, pick, merE, wipeE, Nat.reduceAdd, Nat.reduceSub, Nat.reduceLeDiff, Nat.reduceLT, reduceCtorEq, if_true, if_false, eq_self, forall_const]
  refine w_lcL (fun ds acc ρ => ∃ (rs : List (List Vr)) (l : List Int) (m t : Int), ds.length + rs.length = 3 ∧ acc = rs.map (fun r => rds (Rg.prs r)) ∧ (∀ r ∈ rs, Ok 12 r) ∧ DkOk (n + 1000 * rs.length) l m t ∧ ρ = [.own false (.deck 0 l m t), .val (.list (vs.map tupI)), .no, .no, .no, .no, .no, .no, .no, .no, .no, .no]) ?_ ?_ _ _ _ ⟨[], l, m, t, by rw [rng_len]; rfl, rfl, fun w z => (List.not_mem_nil z).elim, hd, rfl⟩
  · intro d ds acc ρ ⟨rs, l, m, t, g1, g2, g3, hd, e0⟩
    subst e0 g2
    rw [List.length_cons] at g1
    simp (config := {maxSteps := 1000000}) only [Fj.wp0, Fj.wp1, Fj.wp2, Fj.wp3, Fj.wp4, Fj.wp5, Fj.wp6, Fj.wp7, Fj.wp8, Fj.wp9, Fj.wp10, Fj.wp11, Fj.wp12, Fj.wp13, Fj.wp14, Fj.wp15, Fj.wp16, Fj.wp17, Fj.wp18, Fj.wp19, Fj.wp20, Fj.wp21, Fj.tyN, Int.reduceEq, Int.reduceLT, Int.reduceLE, Int.reduceAdd, Int.reduceSub, Int.reduceMul, Int.reduceNeg, Int.reducePow, Int.reduceToNat, Int.reduceMod, Int.reduceDiv, Int.reduceNe, Nat.reduceEqDiff, Nat.reduceMul, borOk, dkAll, dkKept, nlD, nlAll, id, frz, freeE, outsE, pick, merE, wipeE, Nat.reduceAdd, Nat.reduceSub, Nat.reduceLeDiff, Nat.reduceLT, reduceCtorEq, if_true, if_false, eq_self, forall_const]
    refine (range_ok (most := 6) (by decide) (by decide) hvs2 (by omega) hd (by omega)).mono ?_
    rintro _ _ ⟨r, l2, m2, t2, o2, rfl, u1, u2, u3, rfl, hd2⟩
    have hl2 : (rs.map fun r => rds (Rg.prs r)).length < 100000 := by rw [List.length_map]; omega
    simp (config := {maxSteps := 1000000}) only [hl2, Fj.wp0, Fj.wp1, Fj.wp2, Fj.wp3, Fj.wp4, Fj.wp5, Fj.wp6, Fj.wp7, Fj.wp8, Fj.wp9, Fj.wp10, Fj.wp11, Fj.wp12, Fj.wp13, Fj.wp14, Fj.wp15, Fj.wp16, Fj.wp17, Fj.wp18, Fj.wp19, Fj.wp20, Fj.wp21, Fj.tyN, Int.reduceEq, Int.reduceLT, Int.reduceLE, Int.reduceAdd, Int.reduceSub, Int.reduceMul, Int.reduceNeg, Int.reducePow, Int.reduceToNat, Int.reduceMod, Int.reduceDiv, Int.reduceNe, Nat.reduceEqDiff, Nat.reduceMul, borOk, dkAll, dkKept, nlD, nlAll, id, frz, freeE, outsE, pick, merE, wipeE, Nat.reduceAdd, Nat.reduceSub, Nat.reduceLeDiff, Nat.reduceLT, reduceCtorEq, if_true, if_false, eq_self, forall_const]
    refine ⟨rs ++ [r], l2, m2, t2, by rw [List.length_append, List.length_singleton]; omega, by rw [List.map_append]; rfl, fun x hx => ?_, hd2.mono (by rw [List.length_append, List.length_singleton]; omega), rfl⟩
    rcases List.mem_append.mp hx with z | z
    · exact g3 x z
    · rw [List.mem_singleton.mp z]
      exact ⟨u1, u2, u3⟩
  · intro acc ρ ⟨rs, l, m, t, g1, g2, g3, hd, e0⟩
    subst e0 g2
    rw [List.length_nil, Nat.zero_add] at g1
    match rs, g1, g3, hd with
    | [a, b, c], _, g3, hd =>
      have ha := g3 a (by simp)
      have hb := g3 b (by simp)
      have hc := g3 c (by simp)
      have hd : DkOk (n + 3000) l m t := hd
      simp (config := {maxSteps := 1000000}) only [Fj.wp0, Fj.wp1, Fj.wp2, Fj.wp3, Fj.wp4, Fj.wp5, Fj.wp6, Fj.wp7, Fj.wp8, Fj.wp9, Fj.wp10, Fj.wp11, Fj.wp12, Fj.wp13, Fj.wp14, Fj.wp15, Fj.wp16, Fj.wp17, Fj.wp18, Fj.wp19, Fj.wp20, Fj.wp21, Fj.tyN, Int.reduceEq, Int.reduceLT, Int.reduceLE, Int.reduceAdd, Int.reduceSub, Int.reduceMul, Int.reduceNeg, Int.reducePow, Int.reduceToNat, Int.reduceMod, Int.reduceDiv, Int.reduceNe, Nat.reduceEqDiff, Nat.reduceMul, borOk, dkAll, dkKept, nlD, nlAll, id, frz, freeE, outsE, pick, merE, wipeE, Nat.reduceAdd, Nat.reduceSub, Nat.reduceLeDiff, Nat.reduceLT, reduceCtorEq, if_true, if_false, eq_self, forall_const]
      refine (pick_ok _ l m t _ hd (by omega) (by intro z; have := congrArg List.length z; rw [List.length_map, List.length_nil] at this; omega) (by rw [List.length_map]; omega)).mono ?_
      rintro _ _ ⟨x, l3, m3, t3, o3, hx, rfl, rfl, hd3⟩
      obtain ⟨v, hv, rfl⟩ := List.mem_map.mp hx
      have vv := hvs v hv
      have vn := nx_ver vv
      have n1 := law_next_row vv
      have oS : Ok 2 [v, nx v] := ⟨nx_up vv, fun w hw => by
        rcases List.mem_cons.mp hw with e | e
        · rw [e]
          exact vv.up (by decide)
        · rw [List.mem_singleton.mp e]
          exact vn.up (by decide), Nat.le_refl _⟩
      have eS : rds (Rg.prs [v, nx v]) = .tuple [.tuple [tupI v, tupI (nx v)]] := rfl
      have w1 := ha.lawW oS (by decide)
      have j1 := ha.lawJ oS (by decide)
      rw [eS] at w1 j1
      have c1 := ha.lawC hc (by decide)
      have pAS := Pr.of ha oS (by decide)
      have pAB := Pr.of ha hb (by decide)
      have pAC := Pr.of ha hc (by decide)
      have pCB := Pr.of hc hb (by decide)
      have pAF := Pr.of ha Ok.F (by decide)
      have pAN := Pr.of ha Ok.nil (by decide)
      have pLA : Pr (df a [v, nx v]) a := pAS.mk1 _
      have pMA : Pr (jn a [v, nx v]) a := pAS.mk1 _
      have pCA : Pr (ct a c) a := pAC.mk1 _
      simp (config := {maxSteps := 1000000}) only [n1, w1, j1, c1, Fj.wp0, Fj.wp1, Fj.wp2, Fj.wp3, Fj.wp4, Fj.wp5, Fj.wp6, Fj.wp7, Fj.wp8, Fj.wp9, Fj.wp10, Fj.wp11, Fj.wp12, Fj.wp13, Fj.wp14, Fj.wp15, Fj.wp16, Fj.wp17, Fj.wp18, Fj.wp19, Fj.wp20, Fj.wp21, Fj.tyN, Int.reduceEq, Int.reduceLT, Int.reduceLE, Int.reduceAdd, Int.reduceSub, Int.reduceMul, Int.reduceNeg, Int.reducePow, Int.reduceToNat, Int.reduceMod, Int.reduceDiv, Int.reduceNe, Nat.reduceEqDiff, Nat.reduceMul, borOk, dkAll, dkKept, nlD, nlAll, id, frz, freeE, outsE, pick, merE, wipeE, Nat.reduceAdd, Nat.reduceSub, Nat.reduceLeDiff, Nat.reduceLT, reduceCtorEq, if_true, if_false, eq_self, forall_const]
      refine (mixed_ok _ l3 m3 t3 _ hd3 (by omega) (by simp)).mono ?_
      rintro _ _ ⟨es, l4, m4, t4, o4, rfl, hes, hel, rfl, hd4⟩
      obtain ⟨ps, rfl, hps⟩ := pairs_of (P := fun p => Pr p.1 p.2) (ds := es) fun d hd => by
        have hd := (hes d).mp hd
        simp only [List.mem_cons, List.not_mem_nil, or_false] at hd
        rcases hd with rfl | rfl | rfl | rfl | rfl | rfl | rfl | rfl | rfl | rfl
        · exact ⟨(a, df a [v, nx v]), rfl, pLA.swap⟩
        · exact ⟨(a, jn a [v, nx v]), rfl, pMA.swap⟩
        · exact ⟨(jn a [v, nx v], a), rfl, pMA⟩
        · exact ⟨(ct a c, a), rfl, pCA⟩
        · exact ⟨(a, a), rfl, Pr.self (ha.mono (by decide))⟩
        · exact ⟨(a, [F0]), rfl, pAF⟩
        · exact ⟨([F0], a), rfl, pAF.swap⟩
        · exact ⟨([], a), rfl, pAN.swap⟩
        · exact ⟨(a, []), rfl, pAN⟩
        · exact ⟨(c, b), rfl, pCB⟩
      have cu : cutD (ps.map pd) none (some 4) = (ps.take 4).map pd := by
        rw [List.map_take]
        exact cut_takeN 4
      have l6 : 2 + ((ps.take 4).map pd).length ≤ 100000 := by
        rw [List.length_map, List.length_take]
        omega
      simp (config := {maxSteps := 1000000}) only [cu, l6, Fj.wp0, Fj.wp1, Fj.wp2, Fj.wp3, Fj.wp4, Fj.wp5, Fj.wp6, Fj.wp7, Fj.wp8, Fj.wp9, Fj.wp10, Fj.wp11, Fj.wp12, Fj.wp13, Fj.wp14, Fj.wp15, Fj.wp16, Fj.wp17, Fj.wp18, Fj.wp19, Fj.wp20, Fj.wp21, Fj.tyN, Int.reduceEq, Int.reduceLT, Int.reduceLE, Int.reduceAdd, Int.reduceSub, Int.reduceMul, Int.reduceNeg, Int.reducePow, Int.reduceToNat, Int.reduceMod, Int.reduceDiv, Int.reduceNe, Nat.reduceEqDiff, Nat.reduceMul, borOk, dkAll, dkKept, nlD, nlAll, id, frz, freeE, outsE, pick, merE, wipeE, Nat.reduceAdd, Nat.reduceSub, Nat.reduceLeDiff, Nat.reduceLT, reduceCtorEq, if_true, if_false, eq_self, forall_const]
      refine ⟨(a, b) :: (df a [v, nx v], a) :: ps.take 4, l4, m4, t4, _, rfl, fun p hp => ?_, by first | (simp [List.length_take]; done) | (simp [List.length_take]; omega), rfl, hd4.mono (by first | (simp; done) | (simp; omega))⟩
      rcases List.mem_cons.mp hp with e | hp
      · rw [e]
        exact pAB
      · rcases List.mem_cons.mp hp with e | hp
        · rw [e]
          exact pLA
        · exact hps p (List.mem_of_mem_take hp)
/-- what is drawn and in the rest, by its least -/
theorem least_eqs {ws rest : List Vr} (hu : Upv rest) (hv : ∀ v ∈ rest, Vsm v) (hw : ∀ v ∈ ws, Vsm v) (hin : ∀ v ∈ rest, v ∈ ws) (hl : ws.length ≤ 1000) : SeqAt.shaped (.list ((ws.filter fun v => inV rest v).map tupI)) = true := by
  refine (Dat.lst (DatL.of (k := 1) (w := 5) fun d hd => ?_)).shaped (by decide)
  obtain ⟨v, hv2, rfl⟩ := List.mem_map.mp hd
  exact (hw v (List.mem_filter.mp hv2).1).dat
def hd1 (r : List Vr) : Str ⊕ Vr := .inr (r.headD [])
end L_k08

set_option maxRecDepth 100000
set_option maxHeartbeats 0
set_option linter.all false
set_option linter.unusedSimpArgs false
namespace L_k08
open PySem PySem.Spec PyProof.Rows L2 Fj
def wen (l : List Int) (m t : Int) (vs : List Vr) (e2 e3 e4 e5 e6 e7 e8 e9 e10 e11 e12 e13 : Ent) : En := [.own false (.deck 0 l m t), .val (.list (vs.map tupI)), e2, e3, e4, e5, e6, e7, e8, e9, e10, e11, e12, e13, .no, .no]
theorem w1_ok {l : List Int} {m t : Int} {vs r : List Vr} {e2 e3 e4 e5 e6 e7 e8 e10 e11 e12 e13 : Ent} (hr : Ok 31 r) (p4 : Pl e4) : W1 (mb__law_part_within_1 (wen l m t vs e2 e3 e4 e5 e6 e7 e8 (.val (rds (Rg.prs r))) e10 e11 e12 e13)) fun f => f = .nx (wen l m t vs e2 e3 (.val (thD (pap "within" r))) e5 e6 e7 e8 (.val (rds (Rg.prs r))) e10 e11 e12 e13) := by
  have hs := hr.shaped
  cases r with
  | nil =>
    rw [show rds (Rg.prs ([] : List Vr)) = .tuple [] from rfl]
    simp (config := {maxSteps := 1000000}) only [mb__law_part_within_1, wen, Fj.g_eqNilT, Fj.shaped_nilT, thD, pap, p4.all, Fj.wp0, Fj.wp1, Fj.wp2, Fj.wp3, Fj.wp4, Fj.wp5, Fj.wp6, Fj.wp7, Fj.wp8, Fj.wp9, Fj.wp10, Fj.wp11, Fj.wp12, Fj.wp13, Fj.wp14, Fj.wp15, Fj.wp16, Fj.wp17, Fj.wp18, Fj.wp19, Fj.wp20, Fj.wp21, Fj.tyN, Int.reduceEq, Int.reduceLT, Int.reduceLE, Int.reduceAdd, Int.reduceSub, Int.reduceMul, Int.reduceNeg, Int.reducePow, Int.reduceToNat, Int.reduceMod, Int.reduceDiv, Int.reduceNe, Nat.reduceEqDiff, Nat.reduceMul, borOk, dkAll, dkKept, nlD, nlAll, id, frz, freeE, outsE, pick, merE, wipeE, Nat.reduceAdd, Nat.reduceSub, Nat.reduceLeDiff, Nat.reduceLT, reduceCtorEq, if_true, if_false, eq_self, forall_const]
  | cons b r =>
    obtain ⟨x, ps, e⟩ := prs_head b r
    rw [e] at hs ⊢
    rw [show rds ((b, x) :: ps) = .tuple (.tuple [tupI b, rdH x] :: ps.map rd) from rfl] at hs ⊢
    simp (config := {maxSteps := 1000000}) only [mb__law_part_within_1, wen, Fj.g_eqNilT, hs, thD, pap, p4.all, Fj.wp0, Fj.wp1, Fj.wp2, Fj.wp3, Fj.wp4, Fj.wp5, Fj.wp6, Fj.wp7, Fj.wp8, Fj.wp9, Fj.wp10, Fj.wp11, Fj.wp12, Fj.wp13, Fj.wp14, Fj.wp15, Fj.wp16, Fj.wp17, Fj.wp18, Fj.wp19, Fj.wp20, Fj.wp21, Fj.tyN, Int.reduceEq, Int.reduceLT, Int.reduceLE, Int.reduceAdd, Int.reduceSub, Int.reduceMul, Int.reduceNeg, Int.reducePow, Int.reduceToNat, Int.reduceMod, Int.reduceDiv, Int.reduceNe, Nat.reduceEqDiff, Nat.reduceMul, borOk, dkAll, dkKept, nlD, nlAll, id, frz, freeE, outsE, pick, merE, wipeE, Nat.reduceAdd, Nat.reduceSub, Nat.reduceLeDiff, Nat.reduceLT, reduceCtorEq, if_true, if_false, eq_self, forall_const]
theorem w4_ok {l : List Int} {m t : Int} {vs r ws : List Vr} {e2 e3 e4 e5 e6 e8 e10 e11 e12 e13 : Ent} (hr : Ok 31 r) (hw : ∀ v ∈ ws, VerR 1000002000 v) (hin : ∀ v ∈ r, v ∈ ws) : W1 (mb__law_part_within_4 (wen l m t vs e2 e3 e4 e5 e6 (.val (.list ((ws.filter fun v => inV r v).map tupI))) e8 (.val (rds (Rg.prs r))) e10 e11 e12 e13)) fun f => f = .nx (wen l m t vs e2 e3 e4 e5 e6 (.val (.list ((ws.filter fun v => inV r v).map tupI))) e8 (.val (rds (Rg.prs r))) e10 e11 e12 e13) := by
  have hs := hr.shaped
  have hz : SeqAt.shaped (.list ((ws.filter fun v => inV r v).map tupI)) = true := by
    refine (Dat.lst (DatL.of (k := 1) (w := 5) fun d hd => ?_)).shaped (by decide)
    obtain ⟨v, hv2, rfl⟩ := List.mem_map.mp hd
    exact ((hw v (List.mem_filter.mp hv2).1).vsm (by decide)).dat
  have hn := some_nil hr.up hin
  cases r with
  | nil =>
    have hf : (ws.filter fun v => inV [] v) = [] := List.isEmpty_iff.mp hn
    rw [hf, show rds (Rg.prs ([] : List Vr)) = .tuple [] from rfl]
    simp (config := {maxSteps := 1000000}) only [mb__law_part_within_4, wen, Fj.g_eqNilT, Fj.shaped_nilT, Fj.g_neB, Fj.wp0, Fj.wp1, Fj.wp2, Fj.wp3, Fj.wp4, Fj.wp5, Fj.wp6, Fj.wp7, Fj.wp8, Fj.wp9, Fj.wp10, Fj.wp11, Fj.wp12, Fj.wp13, Fj.wp14, Fj.wp15, Fj.wp16, Fj.wp17, Fj.wp18, Fj.wp19, Fj.wp20, Fj.wp21, Fj.tyN, Int.reduceEq, Int.reduceLT, Int.reduceLE, Int.reduceAdd, Int.reduceSub, Int.reduceMul, Int.reduceNeg, Int.reducePow, Int.reduceToNat, Int.reduceMod, Int.reduceDiv, Int.reduceNe, Nat.reduceEqDiff, Nat.reduceMul, borOk, dkAll, dkKept, nlD, nlAll, id, frz, freeE, outsE, pick, merE, wipeE, Nat.reduceAdd, Nat.reduceSub, Nat.reduceLeDiff, Nat.reduceLT, reduceCtorEq, if_true, if_false, eq_self, forall_const]
  | cons b r =>
    cases hf : ws.filter fun v => inV (b :: r) v with
    | nil =>
      rw [hf] at hn
      cases hn
    | cons m ms =>
      have hm := some_min hr.up (hin b (List.mem_cons_self ..)) hf
      have gm : ∀ S, W1 (gMin1 [.list (tupI m :: ms.map tupI)]) S = S (.val (tupI (minRow m ms))) := fun S => g_min1
      rw [hm] at gm
      rw [hf] at hz
      have hz : SeqAt.shaped (.list (tupI m :: ms.map tupI)) = true := hz
      have bv := hr.vsm b (List.mem_cons_self ..)
      have nev := fun Q => row_nev (Q := Q) bv bv
      obtain ⟨x, ps, e⟩ := prs_head b r
      rw [e] at hs ⊢
      rw [show rds ((b, x) :: ps) = .tuple (.tuple [tupI b, rdH x] :: ps.map rd) from rfl] at hs ⊢
      simp (config := {maxSteps := 1000000}) only [mb__law_part_within_4, wen, Fj.g_eqNilT, hs, hz, gm, nev, Fj.g_neB, Fj.wp0, Fj.wp1, Fj.wp2, Fj.wp3, Fj.wp4, Fj.wp5, Fj.wp6, Fj.wp7, Fj.wp8, Fj.wp9, Fj.wp10, Fj.wp11, Fj.wp12, Fj.wp13, Fj.wp14, Fj.wp15, Fj.wp16, Fj.wp17, Fj.wp18, Fj.wp19, Fj.wp20, Fj.wp21, Fj.tyN, Int.reduceEq, Int.reduceLT, Int.reduceLE, Int.reduceAdd, Int.reduceSub, Int.reduceMul, Int.reduceNeg, Int.reducePow, Int.reduceToNat, Int.reduceMod, Int.reduceDiv, Int.reduceNe, Nat.reduceEqDiff, Nat.reduceMul, borOk, dkAll, dkKept, nlD, nlAll, id, frz, freeE, outsE, pick, merE, wipeE, Nat.reduceAdd, Nat.reduceSub, Nat.reduceLeDiff, Nat.reduceLT, reduceCtorEq, if_true, if_false, eq_self, forall_const]
theorem things_ok {l : List Int} {m t : Int} {vs a b : List Vr} {ths : List (Str ⊕ Vr)} {e5 e6 e7 e9 e10 e11 e12 e13 : Ent} (h : Pr a b) (ht : ∀ x ∈ ths, Th x) (p5 : Pl e5) (p11 : Pl e11) (p12 : Pl e12) (p13 : Pl e13) :
    W1 (mb__law_part_within_8 (wen l m t vs (.val (rds (Rg.prs a))) (.val (rds (Rg.prs b))) (.val (thD (pap "within" (df a b)))) e5 e6 e7 (.val (.list (ths.map thD))) e9 e10 e11 e12 e13)) fun f => ∃ e5 e11 e12 e13, Pl e5 ∧ Pl e11 ∧ Pl e12 ∧ Pl e13 ∧ f = .nx (wen l m t vs (.val (rds (Rg.prs a))) (.val (rds (Rg.prs b))) (.val (thD (pap "within" (df a b)))) e5 e6 e7 (.val (.list (ths.map thD))) e9 e10 e11 e12 e13) := by
  simp (config := {maxSteps := 1000000}) only [mb__law_part_within_8, wen, Fj.wp0, Fj.wp1, Fj.wp2, Fj.wp3, Fj.wp4, Fj.wp5, Fj.wp6, Fj.wp7, Fj.wp8, Fj.wp9, Fj.wp10, Fj.wp11, Fj.wp12, Fj.wp13, Fj.wp14, Fj.wp15, Fj.wp16, Fj.wp17, Fj.wp18, Fj.wp19, Fj.wp20, Fj.wp21, Fj.tyN, Int.reduceEq, Int.reduceLT, Int.reduceLE, Int.reduceAdd, Int.reduceSub, Int.reduceMul, Int.reduceNeg, Int.reducePow, Int.reduceToNat, Int.reduceMod, Int.reduceDiv, Int.reduceNe, Nat.reduceEqDiff, Nat.reduceMul, borOk, dkAll, dkKept, nlD, nlAll, id, frz, freeE, outsE, pick, merE, wipeE, Nat.reduceAdd, Nat.reduceSub, Nat.reduceLeDiff, Nat.reduceLT, reduceCtorEq, if_true, if_false, eq_self, forall_const]
  refine w_forL (fun ds ρ => ∃ (rest : List (Str ⊕ Vr)) (k : Nat) (e5 e11 e12 e13 : Ent), ds = enumD k (rest.map thD) ∧ (∀ x ∈ rest, Th x) ∧ Pl e5 ∧ Pl e11 ∧ Pl e12 ∧ Pl e13 ∧ ρ = wen l m t vs (.val (rds (Rg.prs a))) (.val (rds (Rg.prs b))) (.val (thD (pap "within" (df a b)))) e5 e6 e7 (.val (.list (ths.map thD))) e9 e10 e11 e12 e13) ?_ ?_ _ _ ⟨ths, 0, _, _, _, _, rfl, ht, p5, p11, p12, p13, rfl⟩
  · intro d ds ρ ⟨rest, k, e5, e11, e12, e13, g1, g2, p5, p11, p12, p13, g3⟩
    subst g3
    cases rest with
    | nil => cases g1
    | cons x rest =>
      rw [List.map_cons, enum_cons] at g1
      injection g1 with g4 g5
      subst g4 g5
      have hx := g2 x (List.mem_cons_self ..)
      have w := h.withinH hx
      have q := fun Q => th_eq (Q := Q) hx.gs (pap_gs (w := "within") (.inl rfl) (h.mk1 (fun a b => a && !b)).ok1.vsm)
      have sB : ∀ x : Bool, mf__law_same 40 [.val (.bool x), .val (.bool x)] = some (.val (.bool true), [.no, .no]) := fun x => same40 .bool
      simp (config := {maxSteps := 1000000}) only [wen, p5.all, p11.all, p12.all, p13.all, mb__law_part_within_6, Fj.wp0, Fj.wp1, Fj.wp2, Fj.wp3, Fj.wp4, Fj.wp5, Fj.wp6, Fj.wp7, Fj.wp8, Fj.wp9, Fj.wp10, Fj.wp11, Fj.wp12, Fj.wp13, Fj.wp14, Fj.wp15, Fj.wp16, Fj.wp17, Fj.wp18, Fj.wp19, Fj.wp20, Fj.wp21, Fj.tyN, Int.reduceEq, Int.reduceLT, Int.reduceLE, Int.reduceAdd, Int.reduceSub, Int.reduceMul, Int.reduceNeg, Int.reducePow, Int.reduceToNat, Int.reduceMod, Int.reduceDiv, Int.reduceNe, Nat.reduceEqDiff, Nat.reduceMul, borOk, dkAll, dkKept, nlD, nlAll, id, frz, freeE, outsE, pick, merE, wipeE, Nat.reduceAdd, Nat.reduceSub, Nat.reduceLeDiff, Nat.reduceLT, reduceCtorEq, if_true, if_false, eq_self, forall_const]
      refine IfB.mk (fun _ => ?_) (fun _ => ?_) <;> simp (config := {maxSteps := 1000000}) only [wen, p5.all, p11.all, p12.all, p13.all, w, q, sB, mb__law_part_within_7, Fj.wp0, Fj.wp1, Fj.wp2, Fj.wp3, Fj.wp4, Fj.wp5, Fj.wp6, Fj.wp7, Fj.wp8, Fj.wp9, Fj.wp10, Fj.wp11, Fj.wp12, Fj.wp13, Fj.wp14, Fj.wp15, Fj.wp16, Fj.wp17, Fj.wp18, Fj.wp19, Fj.wp20, Fj.wp21, Fj.tyN, Int.reduceEq, Int.reduceLT, Int.reduceLE, Int.reduceAdd, Int.reduceSub, Int.reduceMul, Int.reduceNeg, Int.reducePow, Int.reduceToNat, Int.reduceMod, Int.reduceDiv, Int.reduceNe, Nat.reduceEqDiff, Nat.reduceMul, borOk, dkAll, dkKept, nlD, nlAll, id, frz, freeE, outsE, pick, merE, wipeE, Nat.reduceAdd, Nat.reduceSub, Nat.reduceLeDiff, Nat.reduceLT, reduceCtorEq, if_true, if_false, eq_self, forall_const] <;> exact ⟨rest, k + 1, _, _, _, _, rfl, fun v h => g2 v (List.mem_cons_of_mem _ h), .val, .val, .val, .val, rfl⟩
  · intro ρ ⟨rest, k, e5, e11, e12, e13, g1, g2, p5, p11, p12, p13, g3⟩
    subst g3
    exact ⟨_, _, _, _, p5, p11, p12, p13, rfl⟩
end L_k08

set_option maxRecDepth 100000
set_option maxHeartbeats 0
set_option linter.all false
set_option linter.unusedSimpArgs false
namespace L_k08
open PySem PySem.Spec PyProof.Rows L2 Fj
theorem rows_tl (th : List (Str ⊕ Vr)) (f : List Vr → Str ⊕ Vr) (L : List (List Vr)) : (L.map fun r => thD (f r)) = (L.map f).map thD := by
  rw [List.map_map]
  rfl
theorem within_body {n : Nat} {l : List Int} {m t : Int} {vs a b : List Vr} {e4 e5 e6 e7 e8 e9 e10 e11 e12 e13 : Ent} (hvs : ∀ v ∈ vs, VerR VB v) (hvl : vs.length ≤ 100) (h : Pr a b) (hd : DkOk n l m t) (hn : n < 2 ^ 30) (p4 : Pl e4) (p5 : Pl e5) (p6 : Pl e6) (p7 : Pl e7) (p8 : Pl e8) (p9 : Pl e9) (p10 : Pl e10) (p11 : Pl e11) (p12 : Pl e12) (p13 : Pl e13)
    (body : MS) (hbody : body = (mSeq (mPar [9, 10] (mE1 (mVal (mFz (mCall mf__law_without [0, 1] [] (mCons (mVar 2) (mCons (mVar 3) mNil)) mNil))) (mE1 (mVal (mFz (mCall mf__law_without [0, 1] [] (mCons (mVar 3) (mCons (mVar 2) mNil)) mNil))) mE0))) (mSeq mb__law_part_within_1 (mSeq (mAsg (mFz (mCall mf_judge_within [0, 1] [] (mCons (mVar 2) (mCons (mVar 3) mNil)) mNil)) (mN 5)) (mSeq mb__law_part_within_2 (mSeq (mAsg (mFz (mLend 0 mf__law_pool [0, 1] [] (mCons (mFz (mLst (mCons (mVar 2) (mCons (mVar 3) mNil)))) (mCons (mVar 1) mNil)) mNil)) (mN 6)) (mSeq (mOwnV (mFz lc__law_part_within_3) 7) (mSeq mb__law_part_within_4 (mSeq (mOwn (mLst (mCons (mTup (mCons (mC (.str "within")) mNil)) (mCons (mTup (mCons (mC (.str "same")) mNil)) (mCons (mTup (mCons (mC (.str "version")) (mCons (mFz (mLend 0 mf__law_pick [0] [] (mCons (mVar 6) mNil) mNil)) mNil))) (mCons (mTup (mCons (mC (.str "version")) (mCons (mFz (mLend 0 mf__law_pick [0] [] (mCons (mBin gAdd (mVar 7) (mFz (mSl (mVar 6) mP0 (mP1 (mC (.int 1)))))) mNil) mNil)) mNil))) (mCons (mVar 4) mNil)))))) 8) (mSeq (mDrop (mExt 8 (mFz lc__law_part_within_5))) (mFrz 8 mb__law_part_within_8))))))))))) :
    W1 (body (wen l m t vs (.val (rds (Rg.prs a))) (.val (rds (Rg.prs b))) e4 e5 e6 e7 e8 e9 e10 e11 e12 e13)) fun f => ∃ (l' : List Int) (m' t' : Int) (e2 e3 e4 e5 e6 e7 e8 e9 e10 e11 e12 e13 : Ent), Pl e2 ∧ Pl e3 ∧ Pl e4 ∧ Pl e5 ∧ Pl e6 ∧ Pl e7 ∧ Pl e8 ∧ Pl e9 ∧ Pl e10 ∧ Pl e11 ∧ Pl e12 ∧ Pl e13 ∧ DkOk (n + 200) l' m' t' ∧ f = .nx (wen l' m' t' vs e2 e3 e4 e5 e6 e7 e8 e9 e10 e11 e12 e13) := by
  subst hbody
  have o1 := h.ok1
  have o2 := h.ok2
  have oW : Ok 31 (df a b) := (h.mk1 (fun a b => a && !b)).ok1
  have oB : Ok 31 (df b a) := (h.swap.mk1 (fun a b => a && !b)).ok1
  have oC : Ok 31 (ct a b) := (h.mk1 (fun a b => a && b)).ok1
  have lW1 := o1.lawW o2 (by decide)
  have lW2 := o2.lawW o1 (by decide)
  have lC := o1.lawC o2 (by decide)
  have jW := h.judgeW
  have gP := pap_gs (w := "within") (.inl rfl) oW.vsm
  have sP := sm2 (th_sm (n := 36) gP) (th_sm (n := 36) gP)
  simp (config := {maxSteps := 1000000}) only [wen, p4.all, p5.all, p6.all, p7.all, p8.all, p9.all, p10.all, p11.all, p12.all, p13.all, lW1, lW2, Fj.wp0, Fj.wp1, Fj.wp2, Fj.wp3, Fj.wp4, Fj.wp5, Fj.wp6, Fj.wp7, Fj.wp8, Fj.wp9, Fj.wp10, Fj.wp11, Fj.wp12, Fj.wp13, Fj.wp14, Fj.wp15, Fj.wp16, Fj.wp17, Fj.wp18, Fj.wp19, Fj.wp20, Fj.wp21, Fj.tyN, Int.reduceEq, Int.reduceLT, Int.reduceLE, Int.reduceAdd, Int.reduceSub, Int.reduceMul, Int.reduceNeg, Int.reducePow, Int.reduceToNat, Int.reduceMod, Int.reduceDiv, Int.reduceNe, Nat.reduceEqDiff, Nat.reduceMul, borOk, dkAll, dkKept, nlD, nlAll, id, frz, freeE, outsE, pick, merE, wipeE, Nat.reduceAdd, Nat.reduceSub, Nat.reduceLeDiff, Nat.reduceLT, reduceCtorEq, if_true, if_false, eq_self, forall_const]
  refine (w1_ok (e2 := .val (rds (Rg.prs a))) (e3 := .val (rds (Rg.prs b))) (e4 := e4) (e5 := e5) (e6 := e6) (e7 := e7) (e8 := e8) (e10 := .val (rds (Rg.prs (df b a)))) (e11 := e11) (e12 := e12) (e13 := e13) oW p4).mono ?_
  rintro _ rfl
  simp (config := {maxSteps := 1000000}) only [wen, p5.all, p6.all, p7.all, p8.all, p11.all, p12.all, p13.all, jW, mb__law_part_within_2, sP, Fj.wp0, Fj.wp1, Fj.wp2, Fj.wp3, Fj.wp4, Fj.wp5, Fj.wp6, Fj.wp7, Fj.wp8, Fj.wp9, Fj.wp10, Fj.wp11, Fj.wp12, Fj.wp13, Fj.wp14, Fj.wp15, Fj.wp16, Fj.wp17, Fj.wp18, Fj.wp19, Fj.wp20, Fj.wp21, Fj.tyN, Int.reduceEq, Int.reduceLT, Int.reduceLE, Int.reduceAdd, Int.reduceSub, Int.reduceMul, Int.reduceNeg, Int.reducePow, Int.reduceToNat, Int.reduceMod, Int.reduceDiv, Int.reduceNe, Nat.reduceEqDiff, Nat.reduceMul, borOk, dkAll, dkKept, nlD, nlAll, id, frz, freeE, outsE, pick, merE, wipeE, Nat.reduceAdd, Nat.reduceSub, Nat.reduceLeDiff, Nat.reduceLT, reduceCtorEq, if_true, if_false, eq_self, forall_const]
  refine (pool_ok (rs := [a, b]) (vs := vs) (fun r hr v hv => ?_) (by have := o1.len; have := o2.len; simp; omega) hvs hvl hd (by omega)).mono ?_
  · rcases List.mem_cons.mp hr with z | z
    · rw [z] at hv
      exact o1.ver v hv
    · rw [List.mem_singleton.mp z] at hv
      exact o2.ver v hv
  rintro _ _ ⟨ws, l3, m3, t3, o3, rfl, hws, hin, hwl, rfl, hd3⟩
  have inA : ∀ v ∈ a, v ∈ ws := fun v hv => hin v (List.mem_cons_of_mem _ (by simp [hv]))
  have inB' : ∀ v ∈ b, v ∈ ws := fun v hv => hin v (List.mem_cons_of_mem _ (by simp [hv]))
  have inR : ∀ v ∈ df a b, v ∈ ws := fun v hv => (cmb_mem hv).elim (inA v) (inB' v)
  have hF : F0 ∈ ws := hin F0 (List.mem_cons_self ..)
  simp (config := {maxSteps := 1000000}) only [wen, p5.all, p6.all, p7.all, p8.all, p11.all, p12.all, p13.all, lc__law_part_within_3, Fj.wp0, Fj.wp1, Fj.wp2, Fj.wp3, Fj.wp4, Fj.wp5, Fj.wp6, Fj.wp7, Fj.wp8, Fj.wp9, Fj.wp10, Fj.wp11, Fj.wp12, Fj.wp13, Fj.wp14, Fj.wp15, Fj.wp16, Fj.wp17, Fj.wp18, Fj.wp19, Fj.wp20, Fj.wp21, Fj.tyN, Int.reduceEq, Int.reduceLT, Int.reduceLE, Int.reduceAdd, Int.reduceSub, Int.reduceMul, Int.reduceNeg, Int.reducePow, Int.reduceToNat, Int.reduceMod, Int.reduceDiv, Int.reduceNe, Nat.reduceEqDiff, Nat.reduceMul, borOk, dkAll, dkKept, nlD, nlAll, id, frz, freeE, outsE, pick, merE, wipeE, Nat.reduceAdd, Nat.reduceSub, Nat.reduceLeDiff, Nat.reduceLT, reduceCtorEq, if_true, if_false, eq_self, forall_const]
  refine w_lcFil (xs := ws) tupI (fun v => inV (df a b) v) tupI (fun v hv => ?_) (by omega) ?_
  · have ia := o1.lawIn (by decide) v
    have ib := o2.lawIn (by decide) v
    have hp := df_in h.ha h.hb v
    cases h1 : inV a v <;> cases h2 : inV b v <;> rw [h1] at ia hp <;> rw [h2] at ib hp <;> simp (config := {maxSteps := 1000000}) only [wen, p5.all, p6.all, p7.all, p8.all, p11.all, p12.all, p13.all, ia, ib, hp, Bool.false_and, reduceCtorEq, Fj.wp0, Fj.wp1, Fj.wp2, Fj.wp3, Fj.wp4, Fj.wp5, Fj.wp6, Fj.wp7, Fj.wp8, Fj.wp9, Fj.wp10, Fj.wp11, Fj.wp12, Fj.wp13, Fj.wp14, Fj.wp15, Fj.wp16, Fj.wp17, Fj.wp18, Fj.wp19, Fj.wp20, Fj.wp21, Fj.tyN, Int.reduceEq, Int.reduceLT, Int.reduceLE, Int.reduceAdd, Int.reduceSub, Int.reduceMul, Int.reduceNeg, Int.reducePow, Int.reduceToNat, Int.reduceMod, Int.reduceDiv, Int.reduceNe, Nat.reduceEqDiff, Nat.reduceMul, borOk, dkAll, dkKept, nlD, nlAll, id, frz, freeE, outsE, pick, merE, wipeE, Nat.reduceAdd, Nat.reduceSub, Nat.reduceLeDiff, Nat.reduceLT, reduceCtorEq, if_true, if_false, eq_self, forall_const]
  simp (config := {maxSteps := 1000000}) only [wen, p5.all, p6.all, p7.all, p8.all, p11.all, p12.all, p13.all, Fj.wp0, Fj.wp1, Fj.wp2, Fj.wp3, Fj.wp4, Fj.wp5, Fj.wp6, Fj.wp7, Fj.wp8, Fj.wp9, Fj.wp10, Fj.wp11, Fj.wp12, Fj.wp13, Fj.wp14, Fj.wp15, Fj.wp16, Fj.wp17, Fj.wp18, Fj.wp19, Fj.wp20, Fj.wp21, Fj.tyN, Int.reduceEq, Int.reduceLT, Int.reduceLE, Int.reduceAdd, Int.reduceSub, Int.reduceMul, Int.reduceNeg, Int.reducePow, Int.reduceToNat, Int.reduceMod, Int.reduceDiv, Int.reduceNe, Nat.reduceEqDiff, Nat.reduceMul, borOk, dkAll, dkKept, nlD, nlAll, id, frz, freeE, outsE, pick, merE, wipeE, Nat.reduceAdd, Nat.reduceSub, Nat.reduceLeDiff, Nat.reduceLT, reduceCtorEq, if_true, if_false, eq_self, forall_const]
  refine (w4_ok (l := l3) (m := m3) (t := t3) (vs := vs) (e2 := .val (rds (Rg.prs a))) (e3 := .val (rds (Rg.prs b))) (e4 := .val (thD (pap "within" (df a b)))) (e5 := .val (thD (pap "within" (df a b)))) (e6 := .val (.list (ws.map tupI))) (e8 := e8) (e10 := .val (rds (Rg.prs (df b a)))) (e11 := e11) (e12 := e12) (e13 := e13) oW hws inR).mono ?_
  rintro _ rfl
  have zw : ∀ v ∈ ws.filter fun v => inV (df a b) v, v ∈ ws := fun v hv => (List.mem_filter.mp hv).1
  have zl : (ws.filter fun v => inV (df a b) v).length ≤ ws.length := List.length_filter_le ..
  generalize (ws.filter fun v => inV (df a b) v) = zs at zw zl
  simp (config := {maxSteps := 1000000}) only [wen, p5.all, p6.all, p7.all, p8.all, p11.all, p12.all, p13.all, Fj.wp0, Fj.wp1, Fj.wp2, Fj.wp3, Fj.wp4, Fj.wp5, Fj.wp6, Fj.wp7, Fj.wp8, Fj.wp9, Fj.wp10, Fj.wp11, Fj.wp12, Fj.wp13, Fj.wp14, Fj.wp15, Fj.wp16, Fj.wp17, Fj.wp18, Fj.wp19, Fj.wp20, Fj.wp21, Fj.tyN, Int.reduceEq, Int.reduceLT, Int.reduceLE, Int.reduceAdd, Int.reduceSub, Int.reduceMul, Int.reduceNeg, Int.reducePow, Int.reduceToNat, Int.reduceMod, Int.reduceDiv, Int.reduceNe, Nat.reduceEqDiff, Nat.reduceMul, borOk, dkAll, dkKept, nlD, nlAll, id, frz, freeE, outsE, pick, merE, wipeE, Nat.reduceAdd, Nat.reduceSub, Nat.reduceLeDiff, Nat.reduceLT, reduceCtorEq, if_true, if_false, eq_self, forall_const]
  have wne : ws.map tupI ≠ [] := fun z => by
    have := List.map_eq_nil_iff.mp z
    rw [this] at hF
    exact List.not_mem_nil hF
  refine (pick_ok _ l3 m3 t3 _ hd3 (by omega) wne (by rw [List.length_map]; omega)).mono ?_
  rintro _ _ ⟨x1, l4, m4, t4, o4, hx1, rfl, rfl, hd4⟩
  obtain ⟨v1, hv1, rfl⟩ := List.mem_map.mp hx1
  have c1 : cutD (ws.map tupI) none (some 1) = (ws.take 1).map tupI := cutN 1 ws
  have cl : (zs.map tupI).length + ((ws.take 1).map tupI).length ≤ 100000 := by
    rw [List.length_map, List.length_map, List.length_take]
    omega
  simp (config := {maxSteps := 1000000}) only [wen, p5.all, p6.all, p7.all, p8.all, p11.all, p12.all, p13.all, c1, cl, Fj.wp0, Fj.wp1, Fj.wp2, Fj.wp3, Fj.wp4, Fj.wp5, Fj.wp6, Fj.wp7, Fj.wp8, Fj.wp9, Fj.wp10, Fj.wp11, Fj.wp12, Fj.wp13, Fj.wp14, Fj.wp15, Fj.wp16, Fj.wp17, Fj.wp18, Fj.wp19, Fj.wp20, Fj.wp21, Fj.tyN, Int.reduceEq, Int.reduceLT, Int.reduceLE, Int.reduceAdd, Int.reduceSub, Int.reduceMul, Int.reduceNeg, Int.reducePow, Int.reduceToNat, Int.reduceMod, Int.reduceDiv, Int.reduceNe, Nat.reduceEqDiff, Nat.reduceMul, borOk, dkAll, dkKept, nlD, nlAll, id, frz, freeE, outsE, pick, merE, wipeE, Nat.reduceAdd, Nat.reduceSub, Nat.reduceLeDiff, Nat.reduceLT, reduceCtorEq, if_true, if_false, eq_self, forall_const]
  have ane : zs.map tupI ++ (ws.take 1).map tupI ≠ [] := fun z => by
    have z2 := (List.append_eq_nil_iff.mp z).2
    have z3 := List.map_eq_nil_iff.mp z2
    cases ws with
    | nil => exact List.not_mem_nil hF
    | cons w r => cases z3
  refine (pick_ok _ l4 m4 t4 _ hd4 (by omega) ane (by rw [List.length_append]; omega)).mono ?_
  rintro _ _ ⟨x2, l5, m5, t5, o5, hx2, rfl, rfl, hd5⟩
  obtain ⟨v2, rfl, hv2⟩ : ∃ v, x2 = tupI v ∧ v ∈ ws := by
    rcases List.mem_append.mp hx2 with z | z
    · obtain ⟨v, hv, e⟩ := List.mem_map.mp z
      exact ⟨v, e.symm, zw v hv⟩
    · obtain ⟨v, hv, e⟩ := List.mem_map.mp z
      exact ⟨v, e.symm, List.mem_of_mem_take hv⟩
  simp (config := {maxSteps := 1000000}) only [wen, p5.all, p6.all, p7.all, p8.all, p11.all, p12.all, p13.all, lc__law_part_within_5, lC, Fj.wp0, Fj.wp1, Fj.wp2, Fj.wp3, Fj.wp4, Fj.wp5, Fj.wp6, Fj.wp7, Fj.wp8, Fj.wp9, Fj.wp10, Fj.wp11, Fj.wp12, Fj.wp13, Fj.wp14, Fj.wp15, Fj.wp16, Fj.wp17, Fj.wp18, Fj.wp19, Fj.wp20, Fj.wp21, Fj.tyN, Int.reduceEq, Int.reduceLT, Int.reduceLE, Int.reduceAdd, Int.reduceSub, Int.reduceMul, Int.reduceNeg, Int.reducePow, Int.reduceToNat, Int.reduceMod, Int.reduceDiv, Int.reduceNe, Nat.reduceEqDiff, Nat.reduceMul, borOk, dkAll, dkKept, nlD, nlAll, id, frz, freeE, outsE, pick, merE, wipeE, Nat.reduceAdd, Nat.reduceSub, Nat.reduceLeDiff, Nat.reduceLT, reduceCtorEq, if_true, if_false, eq_self, forall_const]
  refine w_lcFil (xs := [a, b, df b a, ct a b]) (fun r => rds (Rg.prs r)) (fun r => !r.isEmpty) (fun r => thD (hd1 r)) (fun r hr => ?_) (by simp) ?_
  · have or : Ok 31 r := by
      simp only [List.mem_cons, List.not_mem_nil, or_false] at hr
      rcases hr with rfl | rfl | rfl | rfl <;> assumption
    have hs := or.shaped
    cases r with
    | nil =>
      rw [show rds (Rg.prs ([] : List Vr)) = .tuple [] from rfl]
      simp (config := {maxSteps := 1000000}) only [wen, p5.all, p6.all, p7.all, p8.all, p11.all, p12.all, p13.all, Fj.g_neNilT, Fj.shaped_nilT, reduceCtorEq, Fj.wp0, Fj.wp1, Fj.wp2, Fj.wp3, Fj.wp4, Fj.wp5, Fj.wp6, Fj.wp7, Fj.wp8, Fj.wp9, Fj.wp10, Fj.wp11, Fj.wp12, Fj.wp13, Fj.wp14, Fj.wp15, Fj.wp16, Fj.wp17, Fj.wp18, Fj.wp19, Fj.wp20, Fj.wp21, Fj.tyN, Int.reduceEq, Int.reduceLT, Int.reduceLE, Int.reduceAdd, Int.reduceSub, Int.reduceMul, Int.reduceNeg, Int.reducePow, Int.reduceToNat, Int.reduceMod, Int.reduceDiv, Int.reduceNe, Nat.reduceEqDiff, Nat.reduceMul, borOk, dkAll, dkKept, nlD, nlAll, id, frz, freeE, outsE, pick, merE, wipeE, Nat.reduceAdd, Nat.reduceSub, Nat.reduceLeDiff, Nat.reduceLT, reduceCtorEq, if_true, if_false, eq_self, forall_const]
    | cons w r =>
      obtain ⟨x, ps, e⟩ := prs_head w r
      rw [e] at hs ⊢
      rw [show rds ((w, x) :: ps) = .tuple (.tuple [tupI w, rdH x] :: ps.map rd) from rfl] at hs ⊢
      simp (config := {maxSteps := 1000000}) only [wen, p5.all, p6.all, p7.all, p8.all, p11.all, p12.all, p13.all, Fj.g_neNilT, hs, reduceCtorEq, Fj.wp0, Fj.wp1, Fj.wp2, Fj.wp3, Fj.wp4, Fj.wp5, Fj.wp6, Fj.wp7, Fj.wp8, Fj.wp9, Fj.wp10, Fj.wp11, Fj.wp12, Fj.wp13, Fj.wp14, Fj.wp15, Fj.wp16, Fj.wp17, Fj.wp18, Fj.wp19, Fj.wp20, Fj.wp21, Fj.tyN, Int.reduceEq, Int.reduceLT, Int.reduceLE, Int.reduceAdd, Int.reduceSub, Int.reduceMul, Int.reduceNeg, Int.reducePow, Int.reduceToNat, Int.reduceMod, Int.reduceDiv, Int.reduceNe, Nat.reduceEqDiff, Nat.reduceMul, borOk, dkAll, dkKept, nlD, nlAll, id, frz, freeE, outsE, pick, merE, wipeE, Nat.reduceAdd, Nat.reduceSub, Nat.reduceLeDiff, Nat.reduceLT, reduceCtorEq, if_true, if_false, eq_self, forall_const]
      rfl
  have fl : (([a, b, df b a, ct a b].filter fun r => !r.isEmpty).map fun r => thD (hd1 r)).length ≤ 4 := by
    rw [List.length_map]
    exact List.length_filter_le ..
  have app : (PyData.tuple [.str "within"] :: .tuple [.str "same"] :: .tuple [.str "version", tupI v1] :: .tuple [.str "version", tupI v2] :: thD (pap "within" (df a b)) :: (([a, b, df b a, ct a b].filter fun r => !r.isEmpty).map fun r => thD (hd1 r))) = ((.inl "within" : Str ⊕ Vr) :: .inl "same" :: .inr v1 :: .inr v2 :: pap "within" (df a b) :: ([a, b, df b a, ct a b].filter fun r => !r.isEmpty).map hd1).map thD := by
    rw [rows_tl []]
    rfl
  have thP : Th (pap "within" (df a b)) := by
    cases hq : df a b with
    | nil => exact .inl rfl
    | cons w r =>
      have := oW.ver w (by rw [hq]; exact List.mem_cons_self ..)
      exact this.up (by decide)
  have ht : ∀ x ∈ ((.inl "within" : Str ⊕ Vr) :: .inl "same" :: .inr v1 :: .inr v2 :: pap "within" (df a b) :: ([a, b, df b a, ct a b].filter fun r => !r.isEmpty).map hd1), Th x := by
    intro x hx
    rcases List.mem_cons.mp hx with rfl | hx
    · exact .inl rfl
    rcases List.mem_cons.mp hx with rfl | hx
    · exact .inr rfl
    rcases List.mem_cons.mp hx with rfl | hx
    · exact hws v1 hv1
    rcases List.mem_cons.mp hx with rfl | hx
    · exact hws v2 hv2
    rcases List.mem_cons.mp hx with rfl | hx
    · exact thP
    obtain ⟨r, hr, rfl⟩ := List.mem_map.mp hx
    obtain ⟨hr, hne⟩ := List.mem_filter.mp hr
    have or : Ok 31 r := by
      simp only [List.mem_cons, List.not_mem_nil, or_false] at hr
      rcases hr with rfl | rfl | rfl | rfl <;> assumption
    cases r with
    | nil => cases hne
    | cons w r => exact (or.ver w (List.mem_cons_self ..)).up (by decide)
  generalize hL : (([a, b, df b a, ct a b].filter fun r => !r.isEmpty).map fun r => thD (hd1 r)) = L at fl app
  have fl2 : 5 + L.length ≤ 100000 := by omega
  simp (config := {maxSteps := 1000000}) only [wen, p5.all, p6.all, p7.all, p8.all, p11.all, p12.all, p13.all, fl2, app, Fj.wp0, Fj.wp1, Fj.wp2, Fj.wp3, Fj.wp4, Fj.wp5, Fj.wp6, Fj.wp7, Fj.wp8, Fj.wp9, Fj.wp10, Fj.wp11, Fj.wp12, Fj.wp13, Fj.wp14, Fj.wp15, Fj.wp16, Fj.wp17, Fj.wp18, Fj.wp19, Fj.wp20, Fj.wp21, Fj.tyN, Int.reduceEq, Int.reduceLT, Int.reduceLE, Int.reduceAdd, Int.reduceSub, Int.reduceMul, Int.reduceNeg, Int.reducePow, Int.reduceToNat, Int.reduceMod, Int.reduceDiv, Int.reduceNe, Nat.reduceEqDiff, Nat.reduceMul, borOk, dkAll, dkKept, nlD, nlAll, id, frz, freeE, outsE, pick, merE, wipeE, Nat.reduceAdd, Nat.reduceSub, Nat.reduceLeDiff, Nat.reduceLT, reduceCtorEq, if_true, if_false, eq_self, forall_const]
  refine (things_ok (l := l5) (m := m5) (t := t5) (vs := vs) (e6 := .val (.list (ws.map tupI))) (e7 := .val (.list (zs.map tupI))) (e9 := .val (rds (Rg.prs (df a b)))) (e10 := .val (rds (Rg.prs (df b a)))) (e11 := e11) (e12 := e12) (e13 := e13) h ht .val p11 p12 p13).mono ?_
  rintro _ ⟨e5', e11', e12', e13', u5, u11, u12, u13, rfl⟩
  exact ⟨l5, m5, t5, _, _, _, _, _, _, _, _, _, _, _, _, .val, .val, .val, u5, .val, .val, .val, .val, .val, u11, u12, u13, hd5.mono (by omega), rfl⟩
theorem part_within_ok {n : Nat} {l : List Int} {m t : Int} (hd : DkOk n l m t) (hn : n < 2 ^ 27) :
    W (mf__law_part_within [.own false (.deck 0 l m t)]) fun e outs => ∃ (l' : List Int) (m' t' : Int) (o : List Ent), e = .val (.bool true) ∧ outs = .own false (.deck 0 l' m' t') :: o ∧ DkOk (n + 20000) l' m' t' := by
  simp (config := {maxSteps := 1000000}) only [mf__law_part_within, mb__law_part_within, Fj.wp0, Fj.wp1, Fj.wp2, Fj.wp3, Fj.wp4, Fj.wp5, Fj.wp6, Fj.wp7, Fj.wp8, Fj.wp9, Fj.wp10, Fj.wp11, Fj.wp12, Fj.wp13, Fj.wp14, Fj.wp15, Fj.wp16, Fj.wp17, Fj.wp18, Fj.wp19, Fj.wp20, Fj.wp21, Fj.tyN, Int.reduceEq, Int.reduceLT, Int.reduceLE, Int.reduceAdd, Int.reduceSub, Int.reduceMul, Int.reduceNeg, Int.reducePow, Int.reduceToNat, Int.reduceMod, Int.reduceDiv, Int.reduceNe, Nat.reduceEqDiff, Nat.reduceMul, borOk, dkAll, dkKept, nlD, nlAll, id, frz, freeE, outsE, pick, merE, wipeE, Nat.reduceAdd, Nat.reduceSub, Nat.reduceLeDiff, Nat.reduceLT, reduceCtorEq, if_true, if_false, eq_self, forall_const]
  refine (versions_ok (many := 7) (by omega) (by decide) hd).mono ?_
  rintro _ _ ⟨ds, l1, m1, t1, o1, rfl, hds, hdl, rfl, hd1⟩
  obtain ⟨vs, rfl, hvs⟩ := rows_of (P := VerR 1000000100) fun d hd => (hds d hd).row
  rw [List.length_map] at hdl
  have hvs2 : ∀ v ∈ vs, VerR VB v := fun v h => (hvs v h).up (by decide)
  simp (config := {maxSteps := 1000000}) only [mb__law_part_within_9, Fj.wp0, Fj.wp1, Fj.wp2, Fj.wp3, Fj.wp4, Fj.wp5, Fj.wp6, Fj.wp7, Fj.wp8, Fj.wp9, Fj.wp10, Fj.wp11, Fj.wp12, Fj.wp13, Fj.wp14, Fj.wp15, Fj.wp16, Fj.wp17, Fj.wp18, Fj.wp19, Fj.wp20, Fj.wp21, Fj.tyN, Int.reduceEq, Int.reduceLT, Int.reduceLE, Int.reduceAdd, Int.reduceSub, Int.reduceMul, Int.reduceNeg, Int.reducePow, Int.reduceToNat, Int.reduceMod, Int.reduceDiv, Int.reduceNe, Nat.reduceEqDiff, Nat.reduceMul, borOk, dkAll, dkKept, nlD, nlAll, id, frz, freeE, outsE, pick, merE, wipeE, Nat.reduceAdd, Nat.reduceSub, Nat.reduceLeDiff, Nat.reduceLT, reduceCtorEq, if_true, if_false, eq_self, forall_const]
  refine (span_pairs_ok hvs hdl hd1 (by omega)).mono ?_
  rintro _ _ ⟨ps, l2, m2, t2, o2, rfl, hps, hpl, rfl, hd2⟩
  simp (config := {maxSteps := 1000000}) only [Fj.wp0, Fj.wp1, Fj.wp2, Fj.wp3, Fj.wp4, Fj.wp5, Fj.wp6, Fj.wp7, Fj.wp8, Fj.wp9, Fj.wp10, Fj.wp11, Fj.wp12, Fj.wp13, Fj.wp14, Fj.wp15, Fj.wp16, Fj.wp17, Fj.wp18, Fj.wp19, Fj.wp20, Fj.wp21, Fj.tyN, Int.reduceEq, Int.reduceLT, Int.reduceLE, Int.reduceAdd, Int.reduceSub, Int.reduceMul, Int.reduceNeg, Int.reducePow, Int.reduceToNat, Int.reduceMod, Int.reduceDiv, Int.reduceNe, Nat.reduceEqDiff, Nat.reduceMul, borOk, dkAll, dkKept, nlD, nlAll, id, frz, freeE, outsE, pick, merE, wipeE, Nat.reduceAdd, Nat.reduceSub, Nat.reduceLeDiff, Nat.reduceLT, reduceCtorEq, if_true, if_false, eq_self, forall_const]
  refine w_forL (fun ds ρ => ∃ (rest : List (List Vr × List Vr)) (l : List Int) (m t : Int) (e2 e3 e4 e5 e6 e7 e8 e9 e10 e11 e12 e13 : Ent), ds = rest.map pd ∧ (∀ p ∈ rest, Pr p.1 p.2) ∧ rest.length ≤ 6 ∧ Pl e2 ∧ Pl e3 ∧ Pl e4 ∧ Pl e5 ∧ Pl e6 ∧ Pl e7 ∧ Pl e8 ∧ Pl e9 ∧ Pl e10 ∧ Pl e11 ∧ Pl e12 ∧ Pl e13 ∧ DkOk (n + 11000 + 200 * (6 - rest.length)) l m t ∧ ρ = wen l m t vs e2 e3 e4 e5 e6 e7 e8 e9 e10 e11 e12 e13) ?_ ?_ _ _ ⟨ps, l2, m2, t2, _, _, _, _, _, _, _, _, _, _, _, _, rfl, hps, hpl, .no, .no, .no, .no, .no, .no, .no, .no, .no, .no, .no, .no, hd2.mono (by omega), rfl⟩
  · intro d ds ρ ⟨rest, l, m, t, e2, e3, e4, e5, e6, e7, e8, e9, e10, e11, e12, e13, g1, g2, gl, p2, p3, p4, p5, p6, p7, p8, p9, p10, p11, p12, p13, hd, g3⟩
    subst g3
    cases rest with
    | nil => cases g1
    | cons p rest =>
      rw [List.map_cons] at g1
      injection g1 with g4 g5
      subst g4 g5
      rw [List.length_cons] at gl hd
      have hp := g2 p (List.mem_cons_self ..)
      have step := within_body (e4 := e4) (e5 := e5) (e6 := e6) (e7 := e7) (e8 := e8) (e9 := e9) (e10 := e10) (e11 := e11) (e12 := e12) (e13 := e13) hvs2 (by omega) hp hd (by omega) p4 p5 p6 p7 p8 p9 p10 p11 p12 p13 _ rfl
      have g : W1 (mTupG 2 (mN1 (mN 2) (mN1 (mN 3) mN0)) (pd p) (wen l m t vs e2 e3 e4 e5 e6 e7 e8 e9 e10 e11 e12 e13)) fun ρ => ρ = wen l m t vs (.val (rds (Rg.prs p.1))) (.val (rds (Rg.prs p.2))) e4 e5 e6 e7 e8 e9 e10 e11 e12 e13 := by
        simp (config := {maxSteps := 1000000}) only [pd, wen, p2.all, p3.all, Fj.wp0, Fj.wp1, Fj.wp2, Fj.wp3, Fj.wp4, Fj.wp5, Fj.wp6, Fj.wp7, Fj.wp8, Fj.wp9, Fj.wp10, Fj.wp11, Fj.wp12, Fj.wp13, Fj.wp14, Fj.wp15, Fj.wp16, Fj.wp17, Fj.wp18, Fj.wp19, Fj.wp20, Fj.wp21, Fj.tyN, Int.reduceEq, Int.reduceLT, Int.reduceLE, Int.reduceAdd, Int.reduceSub, Int.reduceMul, Int.reduceNeg, Int.reducePow, Int.reduceToNat, Int.reduceMod, Int.reduceDiv, Int.reduceNe, Nat.reduceEqDiff, Nat.reduceMul, borOk, dkAll, dkKept, nlD, nlAll, id, frz, freeE, outsE, pick, merE, wipeE, Nat.reduceAdd, Nat.reduceSub, Nat.reduceLeDiff, Nat.reduceLT, reduceCtorEq, if_true, if_false, eq_self, forall_const]
      refine g.mono ?_
      rintro _ rfl
      refine step.mono ?_
      rintro _ ⟨l', m', t', f2, f3, f4, f5, f6, f7, f8, f9, f10, f11, f12, f13, u2, u3, u4, u5, u6, u7, u8, u9, u10, u11, u12, u13, hd', rfl⟩
      exact ⟨rest, l', m', t', _, _, _, _, _, _, _, _, _, _, _, _, rfl, fun q hq => g2 q (List.mem_cons_of_mem _ hq), by omega, u2, u3, u4, u5, u6, u7, u8, u9, u10, u11, u12, u13, hd'.mono (by omega), rfl⟩
  · intro ρ ⟨rest, l, m, t, e2, e3, e4, e5, e6, e7, e8, e9, e10, e11, e12, e13, g1, g2, gl, p2, p3, p4, p5, p6, p7, p8, p9, p10, p11, p12, p13, hd, g3⟩
    subst g3
    simp (config := {maxSteps := 1000000}) only [wen, Fj.wp0, Fj.wp1, Fj.wp2, Fj.wp3, Fj.wp4, Fj.wp5, Fj.wp6, Fj.wp7, Fj.wp8, Fj.wp9, Fj.wp10, Fj.wp11, Fj.wp12, Fj.wp13, Fj.wp14, Fj.wp15, Fj.wp16, Fj.wp17, Fj.wp18, Fj.wp19, Fj.wp20, Fj.wp21, Fj.tyN, Int.reduceEq, Int.reduceLT, Int.reduceLE, Int.reduceAdd, Int.reduceSub, Int.reduceMul, Int.reduceNeg, Int.reducePow, Int.reduceToNat, Int.reduceMod, Int.reduceDiv, Int.reduceNe, Nat.reduceEqDiff, Nat.reduceMul, borOk, dkAll, dkKept, nlD, nlAll, id, frz, freeE, outsE, pick, merE, wipeE, Nat.reduceAdd, Nat.reduceSub, Nat.reduceLeDiff, Nat.reduceLT, reduceCtorEq, if_true, if_false, eq_self, forall_const]
    exact ⟨l, m, t, _, rfl, hd.mono (by omega)⟩
end L_k08

set_option maxRecDepth 100000
set_option maxHeartbeats 0
set_option linter.all false
set_option linter.unusedSimpArgs false
namespace L_k08
open PySem PySem.Spec PyProof.Rows L2 Fj
def aen (l : List Int) (m t : Int) (vs : List Vr) (e2 e3 e4 e5 e6 e7 e8 e9 e10 e11 e12 : Ent) : En := [.own false (.deck 0 l m t), .val (.list (vs.map tupI)), e2, e3, e4, e5, e6, e7, e8, e9, e10, e11, e12, .no, .no]
theorem a1_ok {l : List Int} {m t : Int} {vs r : List Vr} {e2 e3 e5 e6 e7 e8 e9 e10 e11 e12 : Ent} (hr : Ok 31 r) (p5 : Pl e5) : W1 (mb__law_part_alike_1 (aen l m t vs e2 e3 (.val (rds (Rg.prs r))) e5 e6 e7 e8 e9 e10 e11 e12)) fun f => f = .nx (aen l m t vs e2 e3 (.val (rds (Rg.prs r))) (.val (thD (pap "same" r))) e6 e7 e8 e9 e10 e11 e12) := by
  have hs := hr.shaped
  cases r with
  | nil =>
    rw [show rds (Rg.prs ([] : List Vr)) = .tuple [] from rfl]
    simp (config := {maxSteps := 1000000}) only [mb__law_part_alike_1, aen, Fj.g_eqNilT, Fj.shaped_nilT, thD, pap, p5.all, Fj.wp0, Fj.wp1, Fj.wp2, Fj.wp3, Fj.wp4, Fj.wp5, Fj.wp6, Fj.wp7, Fj.wp8, Fj.wp9, Fj.wp10, Fj.wp11, Fj.wp12, Fj.wp13, Fj.wp14, Fj.wp15, Fj.wp16, Fj.wp17, Fj.wp18, Fj.wp19, Fj.wp20, Fj.wp21, Fj.tyN, Int.reduceEq, Int.reduceLT, Int.reduceLE, Int.reduceAdd, Int.reduceSub, Int.reduceMul, Int.reduceNeg, Int.reducePow, Int.reduceToNat, Int.reduceMod, Int.reduceDiv, Int.reduceNe, Nat.reduceEqDiff, Nat.reduceMul, borOk, dkAll, dkKept, nlD, nlAll, id, frz, freeE, outsE, pick, merE, wipeE, Nat.reduceAdd, Nat.reduceSub, Nat.reduceLeDiff, Nat.reduceLT, reduceCtorEq, if_true, if_false, eq_self, forall_const]
  | cons b r =>
    obtain ⟨x, ps, e⟩ := prs_head b r
    rw [e] at hs ⊢
    rw [show rds ((b, x) :: ps) = .tuple (.tuple [tupI b, rdH x] :: ps.map rd) from rfl] at hs ⊢
    simp (config := {maxSteps := 1000000}) only [mb__law_part_alike_1, aen, Fj.g_eqNilT, hs, thD, pap, p5.all, Fj.wp0, Fj.wp1, Fj.wp2, Fj.wp3, Fj.wp4, Fj.wp5, Fj.wp6, Fj.wp7, Fj.wp8, Fj.wp9, Fj.wp10, Fj.wp11, Fj.wp12, Fj.wp13, Fj.wp14, Fj.wp15, Fj.wp16, Fj.wp17, Fj.wp18, Fj.wp19, Fj.wp20, Fj.wp21, Fj.tyN, Int.reduceEq, Int.reduceLT, Int.reduceLE, Int.reduceAdd, Int.reduceSub, Int.reduceMul, Int.reduceNeg, Int.reducePow, Int.reduceToNat, Int.reduceMod, Int.reduceDiv, Int.reduceNe, Nat.reduceEqDiff, Nat.reduceMul, borOk, dkAll, dkKept, nlD, nlAll, id, frz, freeE, outsE, pick, merE, wipeE, Nat.reduceAdd, Nat.reduceSub, Nat.reduceLeDiff, Nat.reduceLT, reduceCtorEq, if_true, if_false, eq_self, forall_const]
theorem a5_ok {l : List Int} {m t : Int} {vs r ws : List Vr} {e2 e3 e5 e6 e8 e9 e10 e11 e12 : Ent} (hr : Ok 31 r) (hw : ∀ v ∈ ws, VerR 1000002000 v) (hin : ∀ v ∈ r, v ∈ ws) : W1 (mb__law_part_alike_5 (aen l m t vs e2 e3 (.val (rds (Rg.prs r))) e5 e6 (.val (.list ((ws.filter fun v => inV r v).map tupI))) e8 e9 e10 e11 e12)) fun f => f = .nx (aen l m t vs e2 e3 (.val (rds (Rg.prs r))) e5 e6 (.val (.list ((ws.filter fun v => inV r v).map tupI))) e8 e9 e10 e11 e12) := by
  have hs := hr.shaped
  have hz : SeqAt.shaped (.list ((ws.filter fun v => inV r v).map tupI)) = true := by
    refine (Dat.lst (DatL.of (k := 1) (w := 5) fun d hd => ?_)).shaped (by decide)
    obtain ⟨v, hv2, rfl⟩ := List.mem_map.mp hd
    exact ((hw v (List.mem_filter.mp hv2).1).vsm (by decide)).dat
  have hn := some_nil hr.up hin
  cases r with
  | nil =>
    have hf : (ws.filter fun v => inV [] v) = [] := List.isEmpty_iff.mp hn
    rw [hf, show rds (Rg.prs ([] : List Vr)) = .tuple [] from rfl]
    simp (config := {maxSteps := 1000000}) only [mb__law_part_alike_5, aen, Fj.g_eqNilT, Fj.shaped_nilT, Fj.g_neB, Fj.wp0, Fj.wp1, Fj.wp2, Fj.wp3, Fj.wp4, Fj.wp5, Fj.wp6, Fj.wp7, Fj.wp8, Fj.wp9, Fj.wp10, Fj.wp11, Fj.wp12, Fj.wp13, Fj.wp14, Fj.wp15, Fj.wp16, Fj.wp17, Fj.wp18, Fj.wp19, Fj.wp20, Fj.wp21, Fj.tyN, Int.reduceEq, Int.reduceLT, Int.reduceLE, Int.reduceAdd, Int.reduceSub, Int.reduceMul, Int.reduceNeg, Int.reducePow, Int.reduceToNat, Int.reduceMod, Int.reduceDiv, Int.reduceNe, Nat.reduceEqDiff, Nat.reduceMul, borOk, dkAll, dkKept, nlD, nlAll, id, frz, freeE, outsE, pick, merE, wipeE, Nat.reduceAdd, Nat.reduceSub, Nat.reduceLeDiff, Nat.reduceLT, reduceCtorEq, if_true, if_false, eq_self, forall_const]
  | cons b r =>
    cases hf : ws.filter fun v => inV (b :: r) v with
    | nil =>
      rw [hf] at hn
      cases hn
    | cons m ms =>
      have hm := some_min hr.up (hin b (List.mem_cons_self ..)) hf
      have gm : ∀ S, W1 (gMin1 [.list (tupI m :: ms.map tupI)]) S = S (.val (tupI (minRow m ms))) := fun S => g_min1
      rw [hm] at gm
      rw [hf] at hz
      have hz : SeqAt.shaped (.list (tupI m :: ms.map tupI)) = true := hz
      have bv := hr.vsm b (List.mem_cons_self ..)
      have nev := fun Q => row_nev (Q := Q) bv bv
      obtain ⟨x, ps, e⟩ := prs_head b r
      rw [e] at hs ⊢
      rw [show rds ((b, x) :: ps) = .tuple (.tuple [tupI b, rdH x] :: ps.map rd) from rfl] at hs ⊢
      simp (config := {maxSteps := 1000000}) only [mb__law_part_alike_5, aen, Fj.g_eqNilT, hs, hz, gm, nev, Fj.g_neB, Fj.wp0, Fj.wp1, Fj.wp2, Fj.wp3, Fj.wp4, Fj.wp5, Fj.wp6, Fj.wp7, Fj.wp8, Fj.wp9, Fj.wp10, Fj.wp11, Fj.wp12, Fj.wp13, Fj.wp14, Fj.wp15, Fj.wp16, Fj.wp17, Fj.wp18, Fj.wp19, Fj.wp20, Fj.wp21, Fj.tyN, Int.reduceEq, Int.reduceLT, Int.reduceLE, Int.reduceAdd, Int.reduceSub, Int.reduceMul, Int.reduceNeg, Int.reducePow, Int.reduceToNat, Int.reduceMod, Int.reduceDiv, Int.reduceNe, Nat.reduceEqDiff, Nat.reduceMul, borOk, dkAll, dkKept, nlD, nlAll, id, frz, freeE, outsE, pick, merE, wipeE, Nat.reduceAdd, Nat.reduceSub, Nat.reduceLeDiff, Nat.reduceLT, reduceCtorEq, if_true, if_false, eq_self, forall_const]
theorem thingsA_ok {l : List Int} {m t : Int} {vs a b : List Vr} {ths : List (Str ⊕ Vr)} {e4 e6 e7 e9 e10 e11 e12 : Ent} (h : Pr a b) (ht : ∀ x ∈ ths, Th x) (p9 : Pl e9) (p10 : Pl e10) (p11 : Pl e11) (p12 : Pl e12) :
    W1 (mb__law_part_alike_9 (aen l m t vs (.val (rds (Rg.prs a))) (.val (rds (Rg.prs b))) e4 (.val (thD (pap "same" (jn (df a b) (df b a))))) e6 e7 (.val (.list (ths.map thD))) e9 e10 e11 e12)) fun f => ∃ e9 e10 e11 e12, Pl e9 ∧ Pl e10 ∧ Pl e11 ∧ Pl e12 ∧ f = .nx (aen l m t vs (.val (rds (Rg.prs a))) (.val (rds (Rg.prs b))) e4 (.val (thD (pap "same" (jn (df a b) (df b a))))) e6 e7 (.val (.list (ths.map thD))) e9 e10 e11 e12) := by
  simp (config := {maxSteps := 1000000}) only [mb__law_part_alike_9, aen, Fj.wp0, Fj.wp1, Fj.wp2, Fj.wp3, Fj.wp4, Fj.wp5, Fj.wp6, Fj.wp7, Fj.wp8, Fj.wp9, Fj.wp10, Fj.wp11, Fj.wp12, Fj.wp13, Fj.wp14, Fj.wp15, Fj.wp16, Fj.wp17, Fj.wp18, Fj.wp19, Fj.wp20, Fj.wp21, Fj.tyN, Int.reduceEq, Int.reduceLT, Int.reduceLE, Int.reduceAdd, Int.reduceSub, Int.reduceMul, Int.reduceNeg, Int.reducePow, Int.reduceToNat, Int.reduceMod, Int.reduceDiv, Int.reduceNe, Nat.reduceEqDiff, Nat.reduceMul, borOk, dkAll, dkKept, nlD, nlAll, id, frz, freeE, outsE, pick, merE, wipeE, Nat.reduceAdd, Nat.reduceSub, Nat.reduceLeDiff, Nat.reduceLT, reduceCtorEq, if_true, if_false, eq_self, forall_const]
  refine w_forL (fun ds ρ => ∃ (rest : List (Str ⊕ Vr)) (k : Nat) (e9 e10 e11 e12 : Ent), ds = enumD k (rest.map thD) ∧ (∀ x ∈ rest, Th x) ∧ Pl e9 ∧ Pl e10 ∧ Pl e11 ∧ Pl e12 ∧ ρ = aen l m t vs (.val (rds (Rg.prs a))) (.val (rds (Rg.prs b))) e4 (.val (thD (pap "same" (jn (df a b) (df b a))))) e6 e7 (.val (.list (ths.map thD))) e9 e10 e11 e12) ?_ ?_ _ _ ⟨ths, 0, _, _, _, _, rfl, ht, p9, p10, p11, p12, rfl⟩
  · intro d ds ρ ⟨rest, k, e9, e10, e11, e12, g1, g2, p9, p10, p11, p12, g3⟩
    subst g3
    cases rest with
    | nil => cases g1
    | cons x rest =>
      rw [List.map_cons, enum_cons] at g1
      injection g1 with g4 g5
      subst g4 g5
      have hx := g2 x (List.mem_cons_self ..)
      have w := h.sameH hx
      have q := fun Q => th_eq (Q := Q) hx.gs (pap_gs (w := "same") (.inr rfl) ((h.mk2 (fun a b => a && !b) (fun a b => a && !b)).mk1 (fun a b => a || b)).ok1.vsm)
      have sB : ∀ x : Bool, mf__law_same 40 [.val (.bool x), .val (.bool x)] = some (.val (.bool true), [.no, .no]) := fun x => same40 .bool
      simp (config := {maxSteps := 1000000}) only [aen, p9.all, p10.all, p11.all, p12.all, mb__law_part_alike_7, Fj.wp0, Fj.wp1, Fj.wp2, Fj.wp3, Fj.wp4, Fj.wp5, Fj.wp6, Fj.wp7, Fj.wp8, Fj.wp9, Fj.wp10, Fj.wp11, Fj.wp12, Fj.wp13, Fj.wp14, Fj.wp15, Fj.wp16, Fj.wp17, Fj.wp18, Fj.wp19, Fj.wp20, Fj.wp21, Fj.tyN, Int.reduceEq, Int.reduceLT, Int.reduceLE, Int.reduceAdd, Int.reduceSub, Int.reduceMul, Int.reduceNeg, Int.reducePow, Int.reduceToNat, Int.reduceMod, Int.reduceDiv, Int.reduceNe, Nat.reduceEqDiff, Nat.reduceMul, borOk, dkAll, dkKept, nlD, nlAll, id, frz, freeE, outsE, pick, merE, wipeE, Nat.reduceAdd, Nat.reduceSub, Nat.reduceLeDiff, Nat.reduceLT, reduceCtorEq, if_true, if_false, eq_self, forall_const]
      refine IfB.mk (fun _ => ?_) (fun _ => ?_) <;> simp (config := {maxSteps := 1000000}) only [aen, p9.all, p10.all, p11.all, p12.all, w, q, sB, mb__law_part_alike_8, Fj.wp0, Fj.wp1, Fj.wp2, Fj.wp3, Fj.wp4, Fj.wp5, Fj.wp6, Fj.wp7, Fj.wp8, Fj.wp9, Fj.wp10, Fj.wp11, Fj.wp12, Fj.wp13, Fj.wp14, Fj.wp15, Fj.wp16, Fj.wp17, Fj.wp18, Fj.wp19, Fj.wp20, Fj.wp21, Fj.tyN, Int.reduceEq, Int.reduceLT, Int.reduceLE, Int.reduceAdd, Int.reduceSub, Int.reduceMul, Int.reduceNeg, Int.reducePow, Int.reduceToNat, Int.reduceMod, Int.reduceDiv, Int.reduceNe, Nat.reduceEqDiff, Nat.reduceMul, borOk, dkAll, dkKept, nlD, nlAll, id, frz, freeE, outsE, pick, merE, wipeE, Nat.reduceAdd, Nat.reduceSub, Nat.reduceLeDiff, Nat.reduceLT, reduceCtorEq, if_true, if_false, eq_self, forall_const] <;> exact ⟨rest, k + 1, _, _, _, _, rfl, fun v h => g2 v (List.mem_cons_of_mem _ h), .val, .val, .val, .val, rfl⟩
  · intro ρ ⟨rest, k, e9, e10, e11, e12, g1, g2, p9, p10, p11, p12, g3⟩
    subst g3
    exact ⟨_, _, _, _, p9, p10, p11, p12, rfl⟩
theorem alike_body {n : Nat} {l : List Int} {m t : Int} {vs a b : List Vr} {e4 e5 e6 e7 e8 e9 e10 e11 e12 : Ent} (hvs : ∀ v ∈ vs, VerR VB v) (hvl : vs.length ≤ 100) (h : Pr a b) (hd : DkOk n l m t) (hn : n < 2 ^ 30) (p4 : Pl e4) (p5 : Pl e5) (p6 : Pl e6) (p7 : Pl e7) (p8 : Pl e8) (p9 : Pl e9) (p10 : Pl e10) (p11 : Pl e11) (p12 : Pl e12)
    (body : MS) (hbody : body = (mSeq (mAsg (mFz (mCall mf__law_joined [0, 1] [] (mCons (mFz (mCall mf__law_without [0, 1] [] (mCons (mVar 2) (mCons (mVar 3) mNil)) mNil)) (mCons (mFz (mCall mf__law_without [0, 1] [] (mCons (mVar 3) (mCons (mVar 2) mNil)) mNil)) mNil)) mNil)) (mN 4)) (mSeq mb__law_part_alike_1 (mSeq mb__law_part_alike_2 (mSeq mb__law_part_alike_3 (mSeq (mAsg (mFz (mLend 0 mf__law_pool [0, 1] [] (mCons (mFz (mLst (mCons (mVar 2) (mCons (mVar 3) mNil)))) (mCons (mVar 1) mNil)) mNil)) (mN 6)) (mSeq (mOwnV (mFz lc__law_part_alike_4) 7) (mSeq mb__law_part_alike_5 (mSeq (mOwn (mLst (mCons (mTup (mCons (mC (.str "within")) mNil)) (mCons (mTup (mCons (mC (.str "same")) mNil)) (mCons (mTup (mCons (mC (.str "version")) (mCons (mFz (mLend 0 mf__law_pick [0] [] (mCons (mVar 6) mNil) mNil)) mNil))) (mCons (mTup (mCons (mC (.str "version")) (mCons (mFz (mLend 0 mf__law_pick [0] [] (mCons (mBin gAdd (mVar 7) (mFz (mSl (mVar 6) mP0 (mP1 (mC (.int 1)))))) mNil) mNil)) mNil))) (mCons (mVar 5) mNil)))))) 8) (mSeq (mDrop (mExt 8 (mFz lc__law_part_alike_6))) (mFrz 8 mb__law_part_alike_9))))))))))) :
    W1 (body (aen l m t vs (.val (rds (Rg.prs a))) (.val (rds (Rg.prs b))) e4 e5 e6 e7 e8 e9 e10 e11 e12)) fun f => ∃ (l' : List Int) (m' t' : Int) (e2 e3 e4 e5 e6 e7 e8 e9 e10 e11 e12 : Ent), Pl e2 ∧ Pl e3 ∧ Pl e4 ∧ Pl e5 ∧ Pl e6 ∧ Pl e7 ∧ Pl e8 ∧ Pl e9 ∧ Pl e10 ∧ Pl e11 ∧ Pl e12 ∧ DkOk (n + 200) l' m' t' ∧ f = .nx (aen l' m' t' vs e2 e3 e4 e5 e6 e7 e8 e9 e10 e11 e12) := by
  subst hbody
  have o1 := h.ok1
  have o2 := h.ok2
  have oW : Ok 31 (df a b) := (h.mk1 (fun a b => a && !b)).ok1
  have oB : Ok 31 (df b a) := (h.swap.mk1 (fun a b => a && !b)).ok1
  have h2 := h.mk2 (fun a b => a && !b) (fun a b => a && !b)
  have oU : Ok 31 (jn (df a b) (df b a)) := (h2.mk1 (fun a b => a || b)).ok1
  have oC : Ok 31 (ct a b) := (h.mk1 (fun a b => a && b)).ok1
  have lW1 := o1.lawW o2 (by decide)
  have lW2 := o2.lawW o1 (by decide)
  have lC := o1.lawC o2 (by decide)
  have lU := oW.lawJ oB (by decide)
  have j1 := h.judgeS
  have j2 := h.swap.judgeS
  rw [jn_comm oW.up oB.up] at j2
  have gP := pap_gs (w := "same") (.inr rfl) oU.vsm
  have sP := sm2 (th_sm (n := 36) gP) (th_sm (n := 36) gP)
  simp (config := {maxSteps := 1000000}) only [aen, p4.all, p5.all, p6.all, p7.all, p8.all, p9.all, p10.all, p11.all, p12.all, lW1, lW2, lU, Fj.wp0, Fj.wp1, Fj.wp2, Fj.wp3, Fj.wp4, Fj.wp5, Fj.wp6, Fj.wp7, Fj.wp8, Fj.wp9, Fj.wp10, Fj.wp11, Fj.wp12, Fj.wp13, Fj.wp14, Fj.wp15, Fj.wp16, Fj.wp17, Fj.wp18, Fj.wp19, Fj.wp20, Fj.wp21, Fj.tyN, Int.reduceEq, Int.reduceLT, Int.reduceLE, Int.reduceAdd, Int.reduceSub, Int.reduceMul, Int.reduceNeg, Int.reducePow, Int.reduceToNat, Int.reduceMod, Int.reduceDiv, Int.reduceNe, Nat.reduceEqDiff, Nat.reduceMul, borOk, dkAll, dkKept, nlD, nlAll, id, frz, freeE, outsE, pick, merE, wipeE, Nat.reduceAdd, Nat.reduceSub, Nat.reduceLeDiff, Nat.reduceLT, reduceCtorEq, if_true, if_false, eq_self, forall_const]
  refine (a1_ok (e2 := .val (rds (Rg.prs a))) (e3 := .val (rds (Rg.prs b))) (e5 := e5) (e6 := e6) (e7 := e7) (e8 := e8) (e9 := e9) (e10 := e10) (e11 := e11) (e12 := e12) oU p5).mono ?_
  rintro _ rfl
  have q1 := fun Q => th_eq (Q := Q) gP (show Gs (.inl "same") from .inr rfl)
  have q2 := fun Q => rds_eq (Q := Q) o1.vsm o2.vsm h.ha h.hb
  have q3 : decide (pap "same" (jn (df a b) (df b a)) = .inl "same") = decide (a = b) := by
    refine decide_eq_decide.mpr ?_
    rw [← unlike_nil h.ha h.hb]
    show _ ↔ jn (df a b) (df b a) = []
    cases jn (df a b) (df b a) with
    | nil => exact ⟨fun _ => rfl, fun _ => rfl⟩
    | cons x r => exact ⟨fun z => (by cases z), fun z => (by cases z)⟩
  rw [show thD (.inl "same") = .tuple [.str "same"] from rfl] at q1
  simp (config := {maxSteps := 1000000}) only [aen, p6.all, p7.all, p8.all, p9.all, p10.all, p11.all, p12.all, j1, j2, mb__law_part_alike_2, sP, mb__law_part_alike_3, q1, q2, q3, Fj.g_neB, beq_self_eq_true, Fj.wp0, Fj.wp1, Fj.wp2, Fj.wp3, Fj.wp4, Fj.wp5, Fj.wp6, Fj.wp7, Fj.wp8, Fj.wp9, Fj.wp10, Fj.wp11, Fj.wp12, Fj.wp13, Fj.wp14, Fj.wp15, Fj.wp16, Fj.wp17, Fj.wp18, Fj.wp19, Fj.wp20, Fj.wp21, Fj.tyN, Int.reduceEq, Int.reduceLT, Int.reduceLE, Int.reduceAdd, Int.reduceSub, Int.reduceMul, Int.reduceNeg, Int.reducePow, Int.reduceToNat, Int.reduceMod, Int.reduceDiv, Int.reduceNe, Nat.reduceEqDiff, Nat.reduceMul, borOk, dkAll, dkKept, nlD, nlAll, id, frz, freeE, outsE, pick, merE, wipeE, Nat.reduceAdd, Nat.reduceSub, Nat.reduceLeDiff, Nat.reduceLT, reduceCtorEq, if_true, if_false, eq_self, forall_const]
  refine (pool_ok (rs := [a, b]) (vs := vs) (fun r hr v hv => ?_) (by have := o1.len; have := o2.len; simp; omega) hvs hvl hd (by omega)).mono ?_
  · rcases List.mem_cons.mp hr with z | z
    · rw [z] at hv
      exact o1.ver v hv
    · rw [List.mem_singleton.mp z] at hv
      exact o2.ver v hv
  rintro _ _ ⟨ws, l3, m3, t3, o3, rfl, hws, hin, hwl, rfl, hd3⟩
  have inA : ∀ v ∈ a, v ∈ ws := fun v hv => hin v (List.mem_cons_of_mem _ (by simp [hv]))
  have inB' : ∀ v ∈ b, v ∈ ws := fun v hv => hin v (List.mem_cons_of_mem _ (by simp [hv]))
  have inR : ∀ v ∈ jn (df a b) (df b a), v ∈ ws := fun v hv => (cmb_mem hv).elim (fun hv => (cmb_mem hv).elim (inA v) (inB' v)) fun hv => (cmb_mem hv).elim (inB' v) (inA v)
  have hF : F0 ∈ ws := hin F0 (List.mem_cons_self ..)
  simp (config := {maxSteps := 1000000}) only [aen, p6.all, p7.all, p8.all, p9.all, p10.all, p11.all, p12.all, lc__law_part_alike_4, Fj.wp0, Fj.wp1, Fj.wp2, Fj.wp3, Fj.wp4, Fj.wp5, Fj.wp6, Fj.wp7, Fj.wp8, Fj.wp9, Fj.wp10, Fj.wp11, Fj.wp12, Fj.wp13, Fj.wp14, Fj.wp15, Fj.wp16, Fj.wp17, Fj.wp18, Fj.wp19, Fj.wp20, Fj.wp21, Fj.tyN, Int.reduceEq, Int.reduceLT, Int.reduceLE, Int.reduceAdd, Int.reduceSub, Int.reduceMul, Int.reduceNeg, Int.reducePow, Int.reduceToNat, Int.reduceMod, Int.reduceDiv, Int.reduceNe, Nat.reduceEqDiff, Nat.reduceMul, borOk, dkAll, dkKept, nlD, nlAll, id, frz, freeE, outsE, pick, merE, wipeE, Nat.reduceAdd, Nat.reduceSub, Nat.reduceLeDiff, Nat.reduceLT, reduceCtorEq, if_true, if_false, eq_self, forall_const]
  refine w_lcFil (xs := ws) tupI (fun v => inV (jn (df a b) (df b a)) v) tupI (fun v hv => ?_) (by omega) ?_
  · have ia := o1.lawIn (by decide) v
    have ib := o2.lawIn (by decide) v
    have hp : inV (jn (df a b) (df b a)) v = ((inV a v && !inV b v) || (inV b v && !inV a v)) := by rw [jn_in oW.up oB.up, df_in h.ha h.hb, df_in h.hb h.ha]
    cases h1 : inV a v <;> cases h2 : inV b v <;> rw [h1] at ia hp <;> rw [h2] at ib hp <;> simp (config := {maxSteps := 1000000}) only [aen, p6.all, p7.all, p8.all, p9.all, p10.all, p11.all, p12.all, ia, ib, hp, Bool.false_and, reduceCtorEq, Fj.g_neB, Fj.wp0, Fj.wp1, Fj.wp2, Fj.wp3, Fj.wp4, Fj.wp5, Fj.wp6, Fj.wp7, Fj.wp8, Fj.wp9, Fj.wp10, Fj.wp11, Fj.wp12, Fj.wp13, Fj.wp14, Fj.wp15, Fj.wp16, Fj.wp17, Fj.wp18, Fj.wp19, Fj.wp20, Fj.wp21, Fj.tyN, Int.reduceEq, Int.reduceLT, Int.reduceLE, Int.reduceAdd, Int.reduceSub, Int.reduceMul, Int.reduceNeg, Int.reducePow, Int.reduceToNat, Int.reduceMod, Int.reduceDiv, Int.reduceNe, Nat.reduceEqDiff, Nat.reduceMul, borOk, dkAll, dkKept, nlD, nlAll, id, frz, freeE, outsE, pick, merE, wipeE, Nat.reduceAdd, Nat.reduceSub, Nat.reduceLeDiff, Nat.reduceLT, reduceCtorEq, if_true, if_false, eq_self, forall_const]
  simp (config := {maxSteps := 1000000}) only [aen, p6.all, p7.all, p8.all, p9.all, p10.all, p11.all, p12.all, Fj.wp0, Fj.wp1, Fj.wp2, Fj.wp3, Fj.wp4, Fj.wp5, Fj.wp6, Fj.wp7, Fj.wp8, Fj.wp9, Fj.wp10, Fj.wp11, Fj.wp12, Fj.wp13, Fj.wp14, Fj.wp15, Fj.wp16, Fj.wp17, Fj.wp18, Fj.wp19, Fj.wp20, Fj.wp21, Fj.tyN, Int.reduceEq, Int.reduceLT, Int.reduceLE, Int.reduceAdd, Int.reduceSub, Int.reduceMul, Int.reduceNeg, Int.reducePow, Int.reduceToNat, Int.reduceMod, Int.reduceDiv, Int.reduceNe, Nat.reduceEqDiff, Nat.reduceMul, borOk, dkAll, dkKept, nlD, nlAll, id, frz, freeE, outsE, pick, merE, wipeE, Nat.reduceAdd, Nat.reduceSub, Nat.reduceLeDiff, Nat.reduceLT, reduceCtorEq, if_true, if_false, eq_self, forall_const]
  refine (a5_ok (l := l3) (m := m3) (t := t3) (vs := vs) (e2 := .val (rds (Rg.prs a))) (e3 := .val (rds (Rg.prs b))) (e5 := .val (thD (pap "same" (jn (df a b) (df b a))))) (e6 := .val (.list (ws.map tupI))) (e8 := e8) (e9 := e9) (e10 := e10) (e11 := e11) (e12 := e12) oU hws inR).mono ?_
  rintro _ rfl
  have zw : ∀ v ∈ ws.filter fun v => inV (jn (df a b) (df b a)) v, v ∈ ws := fun v hv => (List.mem_filter.mp hv).1
  have zl : (ws.filter fun v => inV (jn (df a b) (df b a)) v).length ≤ ws.length := List.length_filter_le ..
  generalize (ws.filter fun v => inV (jn (df a b) (df b a)) v) = zs at zw zl
  simp (config := {maxSteps := 1000000}) only [aen, p6.all, p7.all, p8.all, p9.all, p10.all, p11.all, p12.all, Fj.wp0, Fj.wp1, Fj.wp2, Fj.wp3, Fj.wp4, Fj.wp5, Fj.wp6, Fj.wp7, Fj.wp8, Fj.wp9, Fj.wp10, Fj.wp11, Fj.wp12, Fj.wp13, Fj.wp14, Fj.wp15, Fj.wp16, Fj.wp17, Fj.wp18, Fj.wp19, Fj.wp20, Fj.wp21, Fj.tyN, Int.reduceEq, Int.reduceLT, Int.reduceLE, Int.reduceAdd, Int.reduceSub, Int.reduceMul, Int.reduceNeg, Int.reducePow, Int.reduceToNat, Int.reduceMod, Int.reduceDiv, Int.reduceNe, Nat.reduceEqDiff, Nat.reduceMul, borOk, dkAll, dkKept, nlD, nlAll, id, frz, freeE, outsE, pick, merE, wipeE, Nat.reduceAdd, Nat.reduceSub, Nat.reduceLeDiff, Nat.reduceLT, reduceCtorEq, if_true, if_false, eq_self, forall_const]
  have wne : ws.map tupI ≠ [] := fun z => by
    have := List.map_eq_nil_iff.mp z
    rw [this] at hF
    exact List.not_mem_nil hF
  refine (pick_ok _ l3 m3 t3 _ hd3 (by omega) wne (by rw [List.length_map]; omega)).mono ?_
  rintro _ _ ⟨x1, l4, m4, t4, o4, hx1, rfl, rfl, hd4⟩
  obtain ⟨v1, hv1, rfl⟩ := List.mem_map.mp hx1
  have c1 : cutD (ws.map tupI) none (some 1) = (ws.take 1).map tupI := cutN 1 ws
  have cl : (zs.map tupI).length + ((ws.take 1).map tupI).length ≤ 100000 := by
    rw [List.length_map, List.length_map, List.length_take]
    omega
  simp (config := {maxSteps := 1000000}) only [aen, p6.all, p7.all, p8.all, p9.all, p10.all, p11.all, p12.all, c1, cl, Fj.wp0, Fj.wp1, Fj.wp2, Fj.wp3, Fj.wp4, Fj.wp5, Fj.wp6, Fj.wp7, Fj.wp8, Fj.wp9, Fj.wp10, Fj.wp11, Fj.wp12, Fj.wp13, Fj.wp14, Fj.wp15, Fj.wp16, Fj.wp17, Fj.wp18, Fj.wp19, Fj.wp20, Fj.wp21, Fj.tyN, Int.reduceEq, Int.reduceLT, Int.reduceLE, Int.reduceAdd, Int.reduceSub, Int.reduceMul, Int.reduceNeg, Int.reducePow, Int.reduceToNat, Int.reduceMod, Int.reduceDiv, Int.reduceNe, Nat.reduceEqDiff, Nat.reduceMul, borOk, dkAll, dkKept, nlD, nlAll, id, frz, freeE, outsE, pick, merE, wipeE, Nat.reduceAdd, Nat.reduceSub, Nat.reduceLeDiff, Nat.reduceLT, reduceCtorEq, if_true, if_false, eq_self, forall_const]
  have ane : zs.map tupI ++ (ws.take 1).map tupI ≠ [] := fun z => by
    have z2 := (List.append_eq_nil_iff.mp z).2
    have z3 := List.map_eq_nil_iff.mp z2
    cases ws with
    | nil => exact List.not_mem_nil hF
    | cons w r => cases z3
  refine (pick_ok _ l4 m4 t4 _ hd4 (by omega) ane (by rw [List.length_append]; omega)).mono ?_
  rintro _ _ ⟨x2, l5, m5, t5, o5, hx2, rfl, rfl, hd5⟩
  obtain ⟨v2, rfl, hv2⟩ : ∃ v, x2 = tupI v ∧ v ∈ ws := by
    rcases List.mem_append.mp hx2 with z | z
    · obtain ⟨v, hv, e⟩ := List.mem_map.mp z
      exact ⟨v, e.symm, zw v hv⟩
    · obtain ⟨v, hv, e⟩ := List.mem_map.mp z
      exact ⟨v, e.symm, List.mem_of_mem_take hv⟩
  simp (config := {maxSteps := 1000000}) only [aen, p6.all, p7.all, p8.all, p9.all, p10.all, p11.all, p12.all, lc__law_part_alike_6, lC, Fj.wp0, Fj.wp1, Fj.wp2, Fj.wp3, Fj.wp4, Fj.wp5, Fj.wp6, Fj.wp7, Fj.wp8, Fj.wp9, Fj.wp10, Fj.wp11, Fj.wp12, Fj.wp13, Fj.wp14, Fj.wp15, Fj.wp16, Fj.wp17, Fj.wp18, Fj.wp19, Fj.wp20, Fj.wp21, Fj.tyN, Int.reduceEq, Int.reduceLT, Int.reduceLE, Int.reduceAdd, Int.reduceSub, Int.reduceMul, Int.reduceNeg, Int.reducePow, Int.reduceToNat, Int.reduceMod, Int.reduceDiv, Int.reduceNe, Nat.reduceEqDiff, Nat.reduceMul, borOk, dkAll, dkKept, nlD, nlAll, id, frz, freeE, outsE, pick, merE, wipeE, Nat.reduceAdd, Nat.reduceSub, Nat.reduceLeDiff, Nat.reduceLT, reduceCtorEq, if_true, if_false, eq_self, forall_const]
  refine w_lcFil (xs := [a, b, ct a b]) (fun r => rds (Rg.prs r)) (fun r => !r.isEmpty) (fun r => thD (hd1 r)) (fun r hr => ?_) (by simp) ?_
  · have or : Ok 31 r := by
      simp only [List.mem_cons, List.not_mem_nil, or_false] at hr
      rcases hr with rfl | rfl | rfl <;> assumption
    have hs := or.shaped
    cases r with
    | nil =>
      rw [show rds (Rg.prs ([] : List Vr)) = .tuple [] from rfl]
      simp (config := {maxSteps := 1000000}) only [aen, p6.all, p7.all, p8.all, p9.all, p10.all, p11.all, p12.all, Fj.g_neNilT, Fj.shaped_nilT, reduceCtorEq, Fj.wp0, Fj.wp1, Fj.wp2, Fj.wp3, Fj.wp4, Fj.wp5, Fj.wp6, Fj.wp7, Fj.wp8, Fj.wp9, Fj.wp10, Fj.wp11, Fj.wp12, Fj.wp13, Fj.wp14, Fj.wp15, Fj.wp16, Fj.wp17, Fj.wp18, Fj.wp19, Fj.wp20, Fj.wp21, Fj.tyN, Int.reduceEq, Int.reduceLT, Int.reduceLE, Int.reduceAdd, Int.reduceSub, Int.reduceMul, Int.reduceNeg, Int.reducePow, Int.reduceToNat, Int.reduceMod, Int.reduceDiv, Int.reduceNe, Nat.reduceEqDiff, Nat.reduceMul, borOk, dkAll, dkKept, nlD, nlAll, id, frz, freeE, outsE, pick, merE, wipeE, Nat.reduceAdd, Nat.reduceSub, Nat.reduceLeDiff, Nat.reduceLT, reduceCtorEq, if_true, if_false, eq_self, forall_const]
    | cons w r =>
      obtain ⟨x, ps, e⟩ := prs_head w r
      rw [e] at hs ⊢
      rw [show rds ((w, x) :: ps) = .tuple (.tuple [tupI w, rdH x] :: ps.map rd) from rfl] at hs ⊢
      simp (config := {maxSteps := 1000000}) only [aen, p6.all, p7.all, p8.all, p9.all, p10.all, p11.all, p12.all, Fj.g_neNilT, hs, reduceCtorEq, Fj.wp0, Fj.wp1, Fj.wp2, Fj.wp3, Fj.wp4, Fj.wp5, Fj.wp6, Fj.wp7, Fj.wp8, Fj.wp9, Fj.wp10, Fj.wp11, Fj.wp12, Fj.wp13, Fj.wp14, Fj.wp15, Fj.wp16, Fj.wp17, Fj.wp18, Fj.wp19, Fj.wp20, Fj.wp21, Fj.tyN, Int.reduceEq, Int.reduceLT, Int.reduceLE, Int.reduceAdd, Int.reduceSub, Int.reduceMul, Int.reduceNeg, Int.reducePow, Int.reduceToNat, Int.reduceMod, Int.reduceDiv, Int.reduceNe, Nat.reduceEqDiff, Nat.reduceMul, borOk, dkAll, dkKept, nlD, nlAll, id, frz, freeE, outsE, pick, merE, wipeE, Nat.reduceAdd, Nat.reduceSub, Nat.reduceLeDiff, Nat.reduceLT, reduceCtorEq, if_true, if_false, eq_self, forall_const]
      rfl
  have fl : (([a, b, ct a b].filter fun r => !r.isEmpty).map fun r => thD (hd1 r)).length ≤ 4 := by
    rw [List.length_map]
    exact Nat.le_trans (List.length_filter_le ..) (show 3 ≤ 4 by decide)
  have app : (PyData.tuple [.str "within"] :: .tuple [.str "same"] :: .tuple [.str "version", tupI v1] :: .tuple [.str "version", tupI v2] :: thD (pap "same" (jn (df a b) (df b a))) :: (([a, b, ct a b].filter fun r => !r.isEmpty).map fun r => thD (hd1 r))) = ((.inl "within" : Str ⊕ Vr) :: .inl "same" :: .inr v1 :: .inr v2 :: pap "same" (jn (df a b) (df b a)) :: ([a, b, ct a b].filter fun r => !r.isEmpty).map hd1).map thD := by
    rw [rows_tl []]
    rfl
  have thP : Th (pap "same" (jn (df a b) (df b a))) := by
    cases hq : jn (df a b) (df b a) with
    | nil => exact .inr rfl
    | cons w r =>
      have := oU.ver w (by rw [hq]; exact List.mem_cons_self ..)
      exact this.up (by decide)
  have ht : ∀ x ∈ ((.inl "within" : Str ⊕ Vr) :: .inl "same" :: .inr v1 :: .inr v2 :: pap "same" (jn (df a b) (df b a)) :: ([a, b, ct a b].filter fun r => !r.isEmpty).map hd1), Th x := by
    intro x hx
    rcases List.mem_cons.mp hx with rfl | hx
    · exact .inl rfl
    rcases List.mem_cons.mp hx with rfl | hx
    · exact .inr rfl
    rcases List.mem_cons.mp hx with rfl | hx
    · exact hws v1 hv1
    rcases List.mem_cons.mp hx with rfl | hx
    · exact hws v2 hv2
    rcases List.mem_cons.mp hx with rfl | hx
    · exact thP
    obtain ⟨r, hr, rfl⟩ := List.mem_map.mp hx
    obtain ⟨hr, hne⟩ := List.mem_filter.mp hr
    have or : Ok 31 r := by
      simp only [List.mem_cons, List.not_mem_nil, or_false] at hr
      rcases hr with rfl | rfl | rfl <;> assumption
    cases r with
    | nil => cases hne
    | cons w r => exact (or.ver w (List.mem_cons_self ..)).up (by decide)
  generalize hL : (([a, b, ct a b].filter fun r => !r.isEmpty).map fun r => thD (hd1 r)) = L at fl app
  have fl2 : 5 + L.length ≤ 100000 := by omega
  simp (config := {maxSteps := 1000000}) only [aen, p6.all, p7.all, p8.all, p9.all, p10.all, p11.all, p12.all, fl2, app, Fj.wp0, Fj.wp1, Fj.wp2, Fj.wp3, Fj.wp4, Fj.wp5, Fj.wp6, Fj.wp7, Fj.wp8, Fj.wp9, Fj.wp10, Fj.wp11, Fj.wp12, Fj.wp13, Fj.wp14, Fj.wp15, Fj.wp16, Fj.wp17, Fj.wp18, Fj.wp19, Fj.wp20, Fj.wp21, Fj.tyN, Int.reduceEq, Int.reduceLT, Int.reduceLE, Int.reduceAdd, Int.reduceSub, Int.reduceMul, Int.reduceNeg, Int.reducePow, Int.reduceToNat, Int.reduceMod, Int.reduceDiv, Int.reduceNe, Nat.reduceEqDiff, Nat.reduceMul, borOk, dkAll, dkKept, nlD, nlAll, id, frz, freeE, outsE, pick, merE, wipeE, Nat.reduceAdd, Nat.reduceSub, Nat.reduceLeDiff, Nat.reduceLT, reduceCtorEq, if_true, if_false, eq_self, forall_const]
  refine (thingsA_ok (l := l5) (m := m5) (t := t5) (vs := vs) (e4 := .val (rds (Rg.prs (jn (df a b) (df b a))))) (e6 := .val (.list (ws.map tupI))) (e7 := .val (.list (zs.map tupI))) (e9 := e9) (e10 := e10) (e11 := e11) (e12 := e12) h ht p9 p10 p11 p12).mono ?_
  rintro _ ⟨e9', e10', e11', e12', u9, u10, u11, u12, rfl⟩
  exact ⟨l5, m5, t5, _, _, _, _, _, _, _, _, _, _, _, .val, .val, .val, .val, .val, .val, .val, u9, u10, u11, u12, hd5.mono (by omega), rfl⟩
theorem part_alike_ok {n : Nat} {l : List Int} {m t : Int} (hd : DkOk n l m t) (hn : n < 2 ^ 27) :
    W (mf__law_part_alike [.own false (.deck 0 l m t)]) fun e outs => ∃ (l' : List Int) (m' t' : Int) (o : List Ent), e = .val (.bool true) ∧ outs = .own false (.deck 0 l' m' t') :: o ∧ DkOk (n + 20000) l' m' t' := by
  simp (config := {maxSteps := 1000000}) only [mf__law_part_alike, mb__law_part_alike, Fj.wp0, Fj.wp1, Fj.wp2, Fj.wp3, Fj.wp4, Fj.wp5, Fj.wp6, Fj.wp7, Fj.wp8, Fj.wp9, Fj.wp10, Fj.wp11, Fj.wp12, Fj.wp13, Fj.wp14, Fj.wp15, Fj.wp16, Fj.wp17, Fj.wp18, Fj.wp19, Fj.wp20, Fj.wp21, Fj.tyN, Int.reduceEq, Int.reduceLT, Int.reduceLE, Int.reduceAdd, Int.reduceSub, Int.reduceMul, Int.reduceNeg, Int.reducePow, Int.reduceToNat, Int.reduceMod, Int.reduceDiv, Int.reduceNe, Nat.reduceEqDiff, Nat.reduceMul, borOk, dkAll, dkKept, nlD, nlAll, id, frz, freeE, outsE, pick, merE, wipeE, Nat.reduceAdd, Nat.reduceSub, Nat.reduceLeDiff, Nat.reduceLT, reduceCtorEq, if_true, if_false, eq_self, forall_const]
  refine (versions_ok (many := 7) (by omega) (by decide) hd).mono ?_
  rintro _ _ ⟨ds, l1, m1, t1, o1, rfl, hds, hdl, rfl, hd1⟩
  obtain ⟨vs, rfl, hvs⟩ := rows_of (P := VerR 1000000100) fun d hd => (hds d hd).row
  rw [List.length_map] at hdl
  have hvs2 : ∀ v ∈ vs, VerR VB v := fun v h => (hvs v h).up (by decide)
  simp (config := {maxSteps := 1000000}) only [mb__law_part_alike_10, Fj.wp0, Fj.wp1, Fj.wp2, Fj.wp3, Fj.wp4, Fj.wp5, Fj.wp6, Fj.wp7, Fj.wp8, Fj.wp9, Fj.wp10, Fj.wp11, Fj.wp12, Fj.wp13, Fj.wp14, Fj.wp15, Fj.wp16, Fj.wp17, Fj.wp18, Fj.wp19, Fj.wp20, Fj.wp21, Fj.tyN, Int.reduceEq, Int.reduceLT, Int.reduceLE, Int.reduceAdd, Int.reduceSub, Int.reduceMul, Int.reduceNeg, Int.reducePow, Int.reduceToNat, Int.reduceMod, Int.reduceDiv, Int.reduceNe, Nat.reduceEqDiff, Nat.reduceMul, borOk, dkAll, dkKept, nlD, nlAll, id, frz, freeE, outsE, pick, merE, wipeE, Nat.reduceAdd, Nat.reduceSub, Nat.reduceLeDiff, Nat.reduceLT, reduceCtorEq, if_true, if_false, eq_self, forall_const]
  refine (span_pairs_ok hvs hdl hd1 (by omega)).mono ?_
  rintro _ _ ⟨ps, l2, m2, t2, o2, rfl, hps, hpl, rfl, hd2⟩
  simp (config := {maxSteps := 1000000}) only [Fj.wp0, Fj.wp1, Fj.wp2, Fj.wp3, Fj.wp4, Fj.wp5, Fj.wp6, Fj.wp7, Fj.wp8, Fj.wp9, Fj.wp10, Fj.wp11, Fj.wp12, Fj.wp13, Fj.wp14, Fj.wp15, Fj.wp16, Fj.wp17, Fj.wp18, Fj.wp19, Fj.wp20, Fj.wp21, Fj.tyN, Int.reduceEq, Int.reduceLT, Int.reduceLE, Int.reduceAdd, Int.reduceSub, Int.reduceMul, Int.reduceNeg, Int.reducePow, Int.reduceToNat, Int.reduceMod, Int.reduceDiv, Int.reduceNe, Nat.reduceEqDiff, Nat.reduceMul, borOk, dkAll, dkKept, nlD, nlAll, id, frz, freeE, outsE, pick, merE, wipeE, Nat.reduceAdd, Nat.reduceSub, Nat.reduceLeDiff, Nat.reduceLT, reduceCtorEq, if_true, if_false, eq_self, forall_const]
  refine w_forL (fun ds ρ => ∃ (rest : List (List Vr × List Vr)) (l : List Int) (m t : Int) (e2 e3 e4 e5 e6 e7 e8 e9 e10 e11 e12 : Ent), ds = rest.map pd ∧ (∀ p ∈ rest, Pr p.1 p.2) ∧ rest.length ≤ 6 ∧ Pl e2 ∧ Pl e3 ∧ Pl e4 ∧ Pl e5 ∧ Pl e6 ∧ Pl e7 ∧ Pl e8 ∧ Pl e9 ∧ Pl e10 ∧ Pl e11 ∧ Pl e12 ∧ DkOk (n + 11000 + 200 * (6 - rest.length)) l m t ∧ ρ = aen l m t vs e2 e3 e4 e5 e6 e7 e8 e9 e10 e11 e12) ?_ ?_ _ _ ⟨ps, l2, m2, t2, _, _, _, _, _, _, _, _, _, _, _, rfl, hps, hpl, .no, .no, .no, .no, .no, .no, .no, .no, .no, .no, .no, hd2.mono (by omega), rfl⟩
  · intro d ds ρ ⟨rest, l, m, t, e2, e3, e4, e5, e6, e7, e8, e9, e10, e11, e12, g1, g2, gl, p2, p3, p4, p5, p6, p7, p8, p9, p10, p11, p12, hd, g3⟩
    subst g3
    cases rest with
    | nil => cases g1
    | cons p rest =>
      rw [List.map_cons] at g1
      injection g1 with g4 g5
      subst g4 g5
      rw [List.length_cons] at gl hd
      have hp := g2 p (List.mem_cons_self ..)
      have step := alike_body (e4 := e4) (e5 := e5) (e6 := e6) (e7 := e7) (e8 := e8) (e9 := e9) (e10 := e10) (e11 := e11) (e12 := e12) hvs2 (by omega) hp hd (by omega) p4 p5 p6 p7 p8 p9 p10 p11 p12 _ rfl
      have g : W1 (mTupG 2 (mN1 (mN 2) (mN1 (mN 3) mN0)) (pd p) (aen l m t vs e2 e3 e4 e5 e6 e7 e8 e9 e10 e11 e12)) fun ρ => ρ = aen l m t vs (.val (rds (Rg.prs p.1))) (.val (rds (Rg.prs p.2))) e4 e5 e6 e7 e8 e9 e10 e11 e12 := by
        simp (config := {maxSteps := 1000000}) only [pd, aen, p2.all, p3.all, Fj.wp0, Fj.wp1, Fj.wp2, Fj.wp3, Fj.wp4, Fj.wp5, Fj.wp6, Fj.wp7, Fj.wp8, Fj.wp9, Fj.wp10, Fj.wp11, Fj.wp12, Fj.wp13, Fj.wp14, Fj.wp15, Fj.wp16, Fj.wp17, Fj.wp18, Fj.wp19, Fj.wp20, Fj.wp21, Fj.tyN, Int.reduceEq, Int.reduceLT, Int.reduceLE, Int.reduceAdd, Int.reduceSub, Int.reduceMul, Int.reduceNeg, Int.reducePow, Int.reduceToNat, Int.reduceMod, Int.reduceDiv, Int.reduceNe, Nat.reduceEqDiff, Nat.reduceMul, borOk, dkAll, dkKept, nlD, nlAll, id, frz, freeE, outsE, pick, merE, wipeE, Nat.reduceAdd, Nat.reduceSub, Nat.reduceLeDiff, Nat.reduceLT, reduceCtorEq, if_true, if_false, eq_self, forall_const]
      refine g.mono ?_
      rintro _ rfl
      refine step.mono ?_
      rintro _ ⟨l', m', t', f2, f3, f4, f5, f6, f7, f8, f9, f10, f11, f12, u2, u3, u4, u5, u6, u7, u8, u9, u10, u11, u12, hd', rfl⟩
      exact ⟨rest, l', m', t', _, _, _, _, _, _, _, _, _, _, _, rfl, fun q hq => g2 q (List.mem_cons_of_mem _ hq), by omega, u2, u3, u4, u5, u6, u7, u8, u9, u10, u11, u12, hd'.mono (by omega), rfl⟩
  · intro ρ ⟨rest, l, m, t, e2, e3, e4, e5, e6, e7, e8, e9, e10, e11, e12, g1, g2, gl, p2, p3, p4, p5, p6, p7, p8, p9, p10, p11, p12, hd, g3⟩
    subst g3
    simp (config := {maxSteps := 1000000}) only [aen, Fj.wp0, Fj.wp1, Fj.wp2, Fj.wp3, Fj.wp4, Fj.wp5, Fj.wp6, Fj.wp7, Fj.wp8, Fj.wp9, Fj.wp10, Fj.wp11, Fj.wp12, Fj.wp13, Fj.wp14, Fj.wp15, Fj.wp16, Fj.wp17, Fj.wp18, Fj.wp19, Fj.wp20, Fj.wp21, Fj.tyN, Int.reduceEq, Int.reduceLT, Int.reduceLE, Int.reduceAdd, Int.reduceSub, Int.reduceMul, Int.reduceNeg, Int.reducePow, Int.reduceToNat, Int.reduceMod, Int.reduceDiv, Int.reduceNe, Nat.reduceEqDiff, Nat.reduceMul, borOk, dkAll, dkKept, nlD, nlAll, id, frz, freeE, outsE, pick, merE, wipeE, Nat.reduceAdd, Nat.reduceSub, Nat.reduceLeDiff, Nat.reduceLT, reduceCtorEq, if_true, if_false, eq_self, forall_const]
    exact ⟨l, m, t, _, rfl, hd.mono (by omega)⟩
end L_k08

set_option maxRecDepth 100000
set_option maxHeartbeats 0
set_option linter.all false
set_option linter.unusedSimpArgs false
namespace L_k08
open PySem PySem.Spec PyProof.Rows L2 Fj
theorem law_true (ns : List Int) (hns : ns.length ≤ 63) : ∃ outs, mf_law [.scr ns] = some (.val (.bool true), outs) := by
  suffices h : W (mf_law [.scr ns]) fun e _ => e = .val (.bool true) by
    obtain ⟨e, o, h1, rfl⟩ := h.at_
    exact ⟨o, h1⟩
  simp (config := {maxSteps := 1000000}) only [mf_law, mb_law, Fj.wp0, Fj.wp1, Fj.wp2, Fj.wp3, Fj.wp4, Fj.wp5, Fj.wp6, Fj.wp7, Fj.wp8, Fj.wp9, Fj.wp10, Fj.wp11, Fj.wp12, Fj.wp13, Fj.wp14, Fj.wp15, Fj.wp16, Fj.wp17, Fj.wp18, Fj.wp19, Fj.wp20, Fj.wp21, Fj.tyN, Int.reduceEq, Int.reduceLT, Int.reduceLE, Int.reduceAdd, Int.reduceSub, Int.reduceMul, Int.reduceNeg, Int.reducePow, Int.reduceToNat, Int.reduceMod, Int.reduceDiv, Int.reduceNe, Nat.reduceEqDiff, Nat.reduceMul, borOk, dkAll, dkKept, nlD, nlAll, id, frz, freeE, outsE, pick, merE, wipeE, Nat.reduceAdd, Nat.reduceSub, Nat.reduceLeDiff, Nat.reduceLT, reduceCtorEq, if_true, if_false, eq_self, forall_const]
  refine (deck_ok ns hns).mono ?_
  rintro _ _ ⟨l, m, t, rfl, hd⟩
  simp (config := {maxSteps := 1000000}) only [Fj.wp0, Fj.wp1, Fj.wp2, Fj.wp3, Fj.wp4, Fj.wp5, Fj.wp6, Fj.wp7, Fj.wp8, Fj.wp9, Fj.wp10, Fj.wp11, Fj.wp12, Fj.wp13, Fj.wp14, Fj.wp15, Fj.wp16, Fj.wp17, Fj.wp18, Fj.wp19, Fj.wp20, Fj.wp21, Fj.tyN, Int.reduceEq, Int.reduceLT, Int.reduceLE, Int.reduceAdd, Int.reduceSub, Int.reduceMul, Int.reduceNeg, Int.reducePow, Int.reduceToNat, Int.reduceMod, Int.reduceDiv, Int.reduceNe, Nat.reduceEqDiff, Nat.reduceMul, borOk, dkAll, dkKept, nlD, nlAll, id, frz, freeE, outsE, pick, merE, wipeE, Nat.reduceAdd, Nat.reduceSub, Nat.reduceLeDiff, Nat.reduceLT, reduceCtorEq, if_true, if_false, eq_self, forall_const]
  refine (draw_ok _ l m t _ hd (by decide) (by decide) (by decide)).mono ?_
  rintro _ _ ⟨r, l1, m1, t1, o, rfl, q1, q2, rfl, hd1⟩
  simp (config := {maxSteps := 1000000}) only [mb_law_3, Fj.wp0, Fj.wp1, Fj.wp2, Fj.wp3, Fj.wp4, Fj.wp5, Fj.wp6, Fj.wp7, Fj.wp8, Fj.wp9, Fj.wp10, Fj.wp11, Fj.wp12, Fj.wp13, Fj.wp14, Fj.wp15, Fj.wp16, Fj.wp17, Fj.wp18, Fj.wp19, Fj.wp20, Fj.wp21, Fj.tyN, Int.reduceEq, Int.reduceLT, Int.reduceLE, Int.reduceAdd, Int.reduceSub, Int.reduceMul, Int.reduceNeg, Int.reducePow, Int.reduceToNat, Int.reduceMod, Int.reduceDiv, Int.reduceNe, Nat.reduceEqDiff, Nat.reduceMul, borOk, dkAll, dkKept, nlD, nlAll, id, frz, freeE, outsE, pick, merE, wipeE, Nat.reduceAdd, Nat.reduceSub, Nat.reduceLeDiff, Nat.reduceLT, reduceCtorEq, if_true, if_false, eq_self, forall_const]
  refine w_forL (fun ds ρ => ∃ (lo : Int) (cnt : Nat) (l : List Int) (m t : Int) (e3 e4 : Ent), ds = rngD lo cnt ∧ cnt ≤ 2 ∧ DkOk (1 + 50000 * (2 - cnt)) l m t ∧ Pl e3 ∧ Pl e4 ∧ ρ = [.scr ns, .own true (.deck 0 l m t), .val (.int r), e3, e4]) ?_ ?_ _ _ ⟨0, 2, l1, m1, t1, _, _, rfl, Nat.le_refl _, by simpa using hd1, .no, .no, rfl⟩
  · intro d ds ρ ⟨lo, cnt, l, m, t, e3, e4, g1, g2, hd, p3, p4, g3⟩
    subst g3
    cases cnt with
    | zero => cases g1
    | succ cnt =>
      rw [rng_succ] at g1
      injection g1 with g4 g5
      subst g4 g5
      have second : ∀ (n : Nat) (l : List Int) (m t : Int), DkOk n l m t → n ≤ 1 + 50000 * (2 - (cnt + 1)) + 20000 → W1 (mb_law_2 [.scr ns, .own true (.deck 0 l m t), .val (.int r), .val (.int lo), .val (.int ((r + lo) % 2))]) fun f => ∃ ρ, f = .nx ρ ∧ ∃ (lo' : Int) (cnt' : Nat) (l : List Int) (m t : Int) (e3 e4 : Ent), rngD (lo + 1) cnt = rngD lo' cnt' ∧ cnt' ≤ 2 ∧ DkOk (1 + 50000 * (2 - cnt')) l m t ∧ Pl e3 ∧ Pl e4 ∧ ρ = [.scr ns, .own true (.deck 0 l m t), .val (.int r), e3, e4] := by
        intro n l m t hd hn
        simp (config := {maxSteps := 1000000}) only [mb_law_2, Fj.wp0, Fj.wp1, Fj.wp2, Fj.wp3, Fj.wp4, Fj.wp5, Fj.wp6, Fj.wp7, Fj.wp8, Fj.wp9, Fj.wp10, Fj.wp11, Fj.wp12, Fj.wp13, Fj.wp14, Fj.wp15, Fj.wp16, Fj.wp17, Fj.wp18, Fj.wp19, Fj.wp20, Fj.wp21, Fj.tyN, Int.reduceEq, Int.reduceLT, Int.reduceLE, Int.reduceAdd, Int.reduceSub, Int.reduceMul, Int.reduceNeg, Int.reducePow, Int.reduceToNat, Int.reduceMod, Int.reduceDiv, Int.reduceNe, Nat.reduceEqDiff, Nat.reduceMul, borOk, dkAll, dkKept, nlD, nlAll, id, frz, freeE, outsE, pick, merE, wipeE, Nat.reduceAdd, Nat.reduceSub, Nat.reduceLeDiff, Nat.reduceLT, reduceCtorEq, if_true, if_false, eq_self, forall_const]
        refine IfB.mk (fun _ => ?_) (fun _ => ?_)
        · simp (config := {maxSteps := 1000000}) only [Fj.wp0, Fj.wp1, Fj.wp2, Fj.wp3, Fj.wp4, Fj.wp5, Fj.wp6, Fj.wp7, Fj.wp8, Fj.wp9, Fj.wp10, Fj.wp11, Fj.wp12, Fj.wp13, Fj.wp14, Fj.wp15, Fj.wp16, Fj.wp17, Fj.wp18, Fj.wp19, Fj.wp20, Fj.wp21, Fj.tyN, Int.reduceEq, Int.reduceLT, Int.reduceLE, Int.reduceAdd, Int.reduceSub, Int.reduceMul, Int.reduceNeg, Int.reducePow, Int.reduceToNat, Int.reduceMod, Int.reduceDiv, Int.reduceNe, Nat.reduceEqDiff, Nat.reduceMul, borOk, dkAll, dkKept, nlD, nlAll, id, frz, freeE, outsE, pick, merE, wipeE, Nat.reduceAdd, Nat.reduceSub, Nat.reduceLeDiff, Nat.reduceLT, reduceCtorEq, if_true, if_false, eq_self, forall_const]
          refine (part_alike_ok hd (by omega)).mono ?_
          rintro _ _ ⟨l2, m2, t2, o2, rfl, rfl, hd2⟩
          simp (config := {maxSteps := 1000000}) only [Fj.wp0, Fj.wp1, Fj.wp2, Fj.wp3, Fj.wp4, Fj.wp5, Fj.wp6, Fj.wp7, Fj.wp8, Fj.wp9, Fj.wp10, Fj.wp11, Fj.wp12, Fj.wp13, Fj.wp14, Fj.wp15, Fj.wp16, Fj.wp17, Fj.wp18, Fj.wp19, Fj.wp20, Fj.wp21, Fj.tyN, Int.reduceEq, Int.reduceLT, Int.reduceLE, Int.reduceAdd, Int.reduceSub, Int.reduceMul, Int.reduceNeg, Int.reducePow, Int.reduceToNat, Int.reduceMod, Int.reduceDiv, Int.reduceNe, Nat.reduceEqDiff, Nat.reduceMul, borOk, dkAll, dkKept, nlD, nlAll, id, frz, freeE, outsE, pick, merE, wipeE, Nat.reduceAdd, Nat.reduceSub, Nat.reduceLeDiff, Nat.reduceLT, reduceCtorEq, if_true, if_false, eq_self, forall_const]
          exact ⟨_, rfl, lo + 1, cnt, l2, m2, t2, _, _, rfl, by omega, hd2.mono (by omega), .val, .val, rfl⟩
        · (try simp (config := {maxSteps := 1000000}) only [Fj.wp0, Fj.wp1, Fj.wp2, Fj.wp3, Fj.wp4, Fj.wp5, Fj.wp6, Fj.wp7, Fj.wp8, Fj.wp9, Fj.wp10, Fj.wp11, Fj.wp12, Fj.wp13, Fj.wp14, Fj.wp15, Fj.wp16, Fj.wp17, Fj.wp18, Fj.wp19, Fj.wp20, Fj.wp21, Fj.tyN, Int.reduceEq, Int.reduceLT, Int.reduceLE, Int.reduceAdd, Int.reduceSub, Int.reduceMul, Int.reduceNeg, Int.reducePow, Int.reduceToNat, Int.reduceMod, Int.reduceDiv, Int.reduceNe, Nat.reduceEqDiff, Nat.reduceMul, borOk, dkAll, dkKept, nlD, nlAll, id, frz, freeE, outsE, pick, merE, wipeE, Nat.reduceAdd, Nat.reduceSub, Nat.reduceLeDiff, Nat.reduceLT, reduceCtorEq, if_true, if_false, eq_self, forall_const])
          exact ⟨_, rfl, lo + 1, cnt, l, m, t, _, _, rfl, by omega, hd.mono (by omega), .val, .val, rfl⟩
      simp (config := {maxSteps := 1000000}) only [p3.all, p4.all, mb_law_1, Fj.wp0, Fj.wp1, Fj.wp2, Fj.wp3, Fj.wp4, Fj.wp5, Fj.wp6, Fj.wp7, Fj.wp8, Fj.wp9, Fj.wp10, Fj.wp11, Fj.wp12, Fj.wp13, Fj.wp14, Fj.wp15, Fj.wp16, Fj.wp17, Fj.wp18, Fj.wp19, Fj.wp20, Fj.wp21, Fj.tyN, Int.reduceEq, Int.reduceLT, Int.reduceLE, Int.reduceAdd, Int.reduceSub, Int.reduceMul, Int.reduceNeg, Int.reducePow, Int.reduceToNat, Int.reduceMod, Int.reduceDiv, Int.reduceNe, Nat.reduceEqDiff, Nat.reduceMul, borOk, dkAll, dkKept, nlD, nlAll, id, frz, freeE, outsE, pick, merE, wipeE, Nat.reduceAdd, Nat.reduceSub, Nat.reduceLeDiff, Nat.reduceLT, reduceCtorEq, if_true, if_false, eq_self, forall_const]
      refine IfB.mk (fun _ => ?_) (fun _ => ?_)
      · simp (config := {maxSteps := 1000000}) only [p3.all, p4.all, Fj.wp0, Fj.wp1, Fj.wp2, Fj.wp3, Fj.wp4, Fj.wp5, Fj.wp6, Fj.wp7, Fj.wp8, Fj.wp9, Fj.wp10, Fj.wp11, Fj.wp12, Fj.wp13, Fj.wp14, Fj.wp15, Fj.wp16, Fj.wp17, Fj.wp18, Fj.wp19, Fj.wp20, Fj.wp21, Fj.tyN, Int.reduceEq, Int.reduceLT, Int.reduceLE, Int.reduceAdd, Int.reduceSub, Int.reduceMul, Int.reduceNeg, Int.reducePow, Int.reduceToNat, Int.reduceMod, Int.reduceDiv, Int.reduceNe, Nat.reduceEqDiff, Nat.reduceMul, borOk, dkAll, dkKept, nlD, nlAll, id, frz, freeE, outsE, pick, merE, wipeE, Nat.reduceAdd, Nat.reduceSub, Nat.reduceLeDiff, Nat.reduceLT, reduceCtorEq, if_true, if_false, eq_self, forall_const]
        refine (part_within_ok hd (by omega)).mono ?_
        rintro _ _ ⟨l2, m2, t2, o2, rfl, rfl, hd2⟩
        simp (config := {maxSteps := 1000000}) only [p3.all, p4.all, Fj.wp0, Fj.wp1, Fj.wp2, Fj.wp3, Fj.wp4, Fj.wp5, Fj.wp6, Fj.wp7, Fj.wp8, Fj.wp9, Fj.wp10, Fj.wp11, Fj.wp12, Fj.wp13, Fj.wp14, Fj.wp15, Fj.wp16, Fj.wp17, Fj.wp18, Fj.wp19, Fj.wp20, Fj.wp21, Fj.tyN, Int.reduceEq, Int.reduceLT, Int.reduceLE, Int.reduceAdd, Int.reduceSub, Int.reduceMul, Int.reduceNeg, Int.reducePow, Int.reduceToNat, Int.reduceMod, Int.reduceDiv, Int.reduceNe, Nat.reduceEqDiff, Nat.reduceMul, borOk, dkAll, dkKept, nlD, nlAll, id, frz, freeE, outsE, pick, merE, wipeE, Nat.reduceAdd, Nat.reduceSub, Nat.reduceLeDiff, Nat.reduceLT, reduceCtorEq, if_true, if_false, eq_self, forall_const]
        refine (second _ l2 m2 t2 hd2 (by omega)).mono ?_
        rintro _ ⟨ρ, rfl, h⟩
        exact h
      · (try simp (config := {maxSteps := 1000000}) only [p3.all, p4.all, Fj.wp0, Fj.wp1, Fj.wp2, Fj.wp3, Fj.wp4, Fj.wp5, Fj.wp6, Fj.wp7, Fj.wp8, Fj.wp9, Fj.wp10, Fj.wp11, Fj.wp12, Fj.wp13, Fj.wp14, Fj.wp15, Fj.wp16, Fj.wp17, Fj.wp18, Fj.wp19, Fj.wp20, Fj.wp21, Fj.tyN, Int.reduceEq, Int.reduceLT, Int.reduceLE, Int.reduceAdd, Int.reduceSub, Int.reduceMul, Int.reduceNeg, Int.reducePow, Int.reduceToNat, Int.reduceMod, Int.reduceDiv, Int.reduceNe, Nat.reduceEqDiff, Nat.reduceMul, borOk, dkAll, dkKept, nlD, nlAll, id, frz, freeE, outsE, pick, merE, wipeE, Nat.reduceAdd, Nat.reduceSub, Nat.reduceLeDiff, Nat.reduceLT, reduceCtorEq, if_true, if_false, eq_self, forall_const])
        refine (second _ l m t hd (by omega)).mono ?_
        rintro _ ⟨ρ, rfl, h⟩
        exact h
  · intro ρ ⟨lo, cnt, l, m, t, e3, e4, g1, g2, hd, p3, p4, g3⟩
    subst g3
    simp (config := {maxSteps := 1000000}) only [Fj.wp0, Fj.wp1, Fj.wp2, Fj.wp3, Fj.wp4, Fj.wp5, Fj.wp6, Fj.wp7, Fj.wp8, Fj.wp9, Fj.wp10, Fj.wp11, Fj.wp12, Fj.wp13, Fj.wp14, Fj.wp15, Fj.wp16, Fj.wp17, Fj.wp18, Fj.wp19, Fj.wp20, Fj.wp21, Fj.tyN, Int.reduceEq, Int.reduceLT, Int.reduceLE, Int.reduceAdd, Int.reduceSub, Int.reduceMul, Int.reduceNeg, Int.reducePow, Int.reduceToNat, Int.reduceMod, Int.reduceDiv, Int.reduceNe, Nat.reduceEqDiff, Nat.reduceMul, borOk, dkAll, dkKept, nlD, nlAll, id, frz, freeE, outsE, pick, merE, wipeE, Nat.reduceAdd, Nat.reduceSub, Nat.reduceLeDiff, Nat.reduceLT, reduceCtorEq, if_true, if_false, eq_self, forall_const]
end L_k08

open PySem PySem.W PySem.Calls PyProof.Rows
theorem PySem.Challenge.cw_facejudge_k08_whole_ranges_within_others_holds : PySem.Challenge.rw_facejudge_k08_whole_ranges_within_others.Holds := by
  w_on; o_law
  refine HandSHeadRun.head_any (r := OpenLaw.row PySem.Challenge.rw_facejudge_k08_whole_ranges_within_others) (q := view (OpenLaw.row PySem.Challenge.rw_facejudge_k08_whole_ranges_within_others).prog [49]) (H := L_k08.hk) (ob := L_k08.ob) (M := 3400) (loose := L_k08.names) (d := HandSHeadRun.topDef (OpenLaw.row PySem.Challenge.rw_facejudge_k08_whole_ranges_within_others).prog 49) (kwd := []) L_k08.ob_eq
    (by kernel_rfl) (fun s => by kernel_rfl) L_k08.run (by kernel_rfl) (by kernel_rfl) (by kernel_rfl) (by rfl) (by first | assumption | decide +kernel) (by decide +kernel) ⟨rfl, rfl, rfl, rfl, rfl, by decide +kernel⟩ ?hw ?hc
  case hw => w_witness2
  case hc =>
    refine Fj.walk_G (l := PySem.Challenge.rw_facejudge_k08_whole_ranges_within_others) (n := 63) (k := 43) (x := "script") rfl (by decide) (by kernel_rfl) ⟨rfl, by decide, by decide⟩ ?F
    intro w mg fa h Y G hmg0
    obtain ⟨K, KX, c⟩ := Y
    have hmg : mg ("law" : PySem.Str) = some (.ref fa) := by
      have e : (HandSHeadRun.topDef (OpenLaw.row PySem.Challenge.rw_facejudge_k08_whole_ranges_within_others).prog 49).name = ("law" : PySem.Str) := by kernel_rfl
      rw [← e]
      exact hmg0
    obtain ⟨fd, hb, hF⟩ := L_k08.facts (P := (PySem.Challenge.rw_facejudge_k08_whole_ranges_within_others).prog) (w := w) KX G hmg c
    exact ⟨K, fd, L_k08.mf_law, KX, hb, fun ns hl => L_k08.law_true ns hl, fun base _ _ => hF base⟩
