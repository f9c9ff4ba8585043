import PyProof.Rows.All
import Wide.All
import OpenK.AllK
import Wide.FinOn
import HandS.ForMost
import HandS.Wide
import HandS.IsInst
import HandS.TupLe
import HandS.TupAny
import HandS.Style
import HandS.Deep
import HandS.Flow
import HandS.TupMul
import HandS.List
import HandS.Conv
import HandS.Zip
import HandS.NoneIn
import HandS.Small
import HandS.Defaults
import HandS.Ends
import HandS.HeadEnd
import HandS.Dict
import HandS.Comp
import HandS.TupSets
import HandS.SortInts
import HandS.SortRule
import HandS.NamedTupSort
import KE.KStateDown
import HandS.Head0
import HandS.Head1
import HandS.Head2
import HandS.HeadHook1
import HandS.HeadHook2
import HandS.SetFor
import HandS.Strs
import KE.GoesMore
import KE.DataMinMax
import KE.SortData
import Lean
import HandS.More
import HandS.Words
import HandS.WordsExc
import PySem.Challenge.RW_facejudge_k36_whole_problems_bars_and_ch

set_option Elab.async false
set_option linter.all false
set_option maxRecDepth 100000
set_option maxHeartbeats 4000000
set_option autoImplicit false
/-! A layer over HandS: data frozen in the heap, cells that a def owns, and how slots and temporaries stand for them. -/
namespace Fj
open PySem PySem.Spec PyProof.Rows L2

/-! ### data that stand in a heap -/
mutual
inductive Rp (K : PySem.W.Frag) (F : Hp) : V → PyData → Prop
  | non : Rp K F .non .none
  | bl (b : Bool) : Rp K F (.bl b) (.bool b)
  | int (i : Int) : Rp K F (.int i) (.int i)
  | str (x : Str) : Rp K F (.str x) (.str x)
  | lst {a : Addr} {xs : List V} {ds : List PyData} (h : F a = some (.lst xs)) (r : Rps K F xs ds) : Rp K F (.ref a) (.list ds)
  | tup {a : Addr} {xs : List V} {ds : List PyData} (h : SqT K F a xs) (r : Rps K F xs ds) : Rp K F (.ref a) (.tuple ds)
  | dct {a : Addr} (h : F a = some (.dK [])) : Rp K F (.ref a) (.dict [])
inductive Rps (K : PySem.W.Frag) (F : Hp) : List V → List PyData → Prop
  | nil : Rps K F [] []
  | cons {v : V} {vs : List V} {d : PyData} {ds : List PyData} (r : Rp K F v d) (t : Rps K F vs ds) : Rps K F (v :: vs) (d :: ds)
end
section
variable {K : PySem.W.Frag} {F F' : Hp}
theorem same_tup {a : Addr} {xs : List V} (e : Same F F') (h : SqT K F a xs) : SqT K F' a xs := by
  rcases h with (h | ⟨o, h⟩) | h
  · exact .inl (.inl (e _ _ h))
  · exact .inl (.inr ⟨o, e _ _ h⟩)
  · exact .inr h
mutual
theorem Rp.mono (e : Same F F') : ∀ {v : V} {d : PyData}, Rp K F v d → Rp K F' v d
  | _, .none, h => by cases h; exact .non
  | _, .bool _, h => by cases h; exact .bl _
  | _, .int _, h => by cases h; exact .int _
  | _, .str _, h => by cases h; exact .str _
  | _, .list ds, h => by
    cases h with
    | lst h r => exact .lst (e _ _ h) (Rps.mono e r)
  | _, .tuple ds, h => by
    cases h with
    | tup h r => exact .tup (same_tup e h) (Rps.mono e r)
  | _, .dict _, h => by
    cases h with
    | dct h => exact .dct (e _ _ h)
theorem Rps.mono (e : Same F F') : ∀ {vs : List V} {ds : List PyData}, Rps K F vs ds → Rps K F' vs ds
  | _, [], h => by cases h; exact .nil
  | _, d :: ds, h => by
    cases h with
    | cons r t => exact .cons (Rp.mono e r) (Rps.mono e t)
end
mutual
theorem Rp.dp : ∀ {v : V} {d : PyData}, Rp K F v d → PyData.canLay0 d = true → Dp K F v d
  | _, .none, h, _ => by cases h; exact .non
  | _, .bool _, h, _ => by cases h; exact .bl _
  | _, .int _, h, _ => by cases h; exact .int _
  | _, .str _, h, _ => by cases h; exact .str _
  | _, .list ds, h, n => by
    cases h with
    | lst h r => exact .lst (.inl (.inl h)) (Rps.dp r (by simpa only [PyData.canLay0] using n))
  | _, .tuple ds, h, n => by
    cases h with
    | tup h r => exact .tup h (Rps.dp r (by simpa only [PyData.canLay0] using n))
  | _, .dict _, h, n => by simp [PyData.canLay0] at n
theorem Rps.dp : ∀ {vs : List V} {ds : List PyData}, Rps K F vs ds → PyData.canLayAll0 ds = true → DpAll K F vs ds
  | _, [], h, _ => by cases h; exact .nil
  | _, d :: ds, h, n => by
    cases h with
    | cons r t =>
      simp only [PyData.canLayAll0, Bool.and_eq_true] at n
      exact .cons (Rp.dp r n.1) (Rps.dp t n.2)
end
mutual
def nlD : PyData → Bool
  | .none => true
  | .bool _ => true
  | .int _ => true
  | .str _ => true
  | .list _ => false
  | .tuple xs => nlAll xs
  | .dict _ => false
def nlAll : List PyData → Bool
  | [] => true
  | d :: ds => nlD d && nlAll ds
end
mutual
theorem Rp.nl (e : ∀ (a : Addr) (xs : List V), SqT K F a xs → SqT K F' a xs) : ∀ {v : V} {d : PyData}, nlD d = true → Rp K F v d → Rp K F' v d
  | _, .none, _, h => by cases h; exact .non
  | _, .bool _, _, h => by cases h; exact .bl _
  | _, .int _, _, h => by cases h; exact .int _
  | _, .str _, _, h => by cases h; exact .str _
  | _, .list ds, n, h => by simp [nlD] at n
  | _, .tuple ds, n, h => by
    cases h with
    | tup h r => exact .tup (e _ _ h) (Rps.nl e (by simpa only [nlD] using n) r)
  | _, .dict _, n, h => by simp [nlD] at n
theorem Rps.nl (e : ∀ (a : Addr) (xs : List V), SqT K F a xs → SqT K F' a xs) : ∀ {vs : List V} {ds : List PyData}, nlAll ds = true → Rps K F vs ds → Rps K F' vs ds
  | _, [], _, h => by cases h; exact .nil
  | _, d :: ds, n, h => by
    cases h with
    | cons r t =>
      simp only [nlAll, Bool.and_eq_true] at n
      exact .cons (Rp.nl e n.1 r) (Rps.nl e n.2 t)
end
theorem Rps.length {vs : List V} {ds : List PyData} (h : Rps K F vs ds) : vs.length = ds.length := by
  induction ds generalizing vs with
  | nil => cases h; rfl
  | cons d ds ih => cases h with | cons r t => rw [List.length_cons, List.length_cons, ih t]
theorem Rps.get {vs : List V} {ds : List PyData} {i : Nat} {d : PyData} (h : Rps K F vs ds) (e : ds[i]? = some d) : ∃ v, vs[i]? = some v ∧ Rp K F v d := by
  induction ds generalizing vs i with
  | nil => simp at e
  | cons x ds ih =>
    cases h with
    | cons r t =>
      cases i with
      | zero =>
        simp only [List.getElem?_cons_zero, Option.some.injEq] at e
        subst e
        exact ⟨_, rfl, r⟩
      | succ i => exact ih (i := i) t (by simpa using e)
theorem Rps.app {vs ws : List V} {ds es : List PyData} (h : Rps K F vs ds) (g : Rps K F ws es) : Rps K F (vs ++ ws) (ds ++ es) := by
  induction ds generalizing vs with
  | nil => cases h; exact g
  | cons d ds ih => cases h with | cons r t => exact .cons r (ih t)
theorem Rps.one {v : V} {d : PyData} (h : Rp K F v d) : Rps K F [v] [d] := .cons h .nil
theorem Rps.takeN {vs : List V} {ds : List PyData} (n : Nat) (h : Rps K F vs ds) : Rps K F (vs.take n) (ds.take n) := by
  induction ds generalizing vs n with
  | nil => cases h; simp; exact .nil
  | cons d ds ih =>
    cases h with
    | cons r t =>
      cases n with
      | zero => exact .nil
      | succ n => exact .cons r (ih n t)
theorem Rps.dropN {vs : List V} {ds : List PyData} (n : Nat) (h : Rps K F vs ds) : Rps K F (vs.drop n) (ds.drop n) := by
  induction ds generalizing vs n with
  | nil => cases h; simp; exact .nil
  | cons d ds ih =>
    cases h with
    | cons r t =>
      cases n with
      | zero => exact .cons r t
      | succ n => exact ih n t
theorem Rps.rev {vs : List V} {ds : List PyData} (h : Rps K F vs ds) : Rps K F vs.reverse ds.reverse := by
  induction ds generalizing vs with
  | nil => cases h; exact .nil
  | cons d ds ih =>
    cases h with
    | cons r t =>
      rw [List.reverse_cons, List.reverse_cons]
      exact (ih t).app (.one r)
theorem Rps.setN {vs : List V} {ds : List PyData} {v : V} {d : PyData} (i : Nat) (h : Rps K F vs ds) (r : Rp K F v d) : Rps K F (vs.set i v) (ds.set i d) := by
  induction ds generalizing vs i with
  | nil => cases h; exact .nil
  | cons x ds ih =>
    cases h with
    | cons r' t =>
      cases i with
      | zero => exact .cons r t
      | succ i => exact .cons r' (ih i t)
end

/-! ### cells, entries, slots -/
/-- an object that a def may change -/
inductive Cell where
  | lst (ds : List PyData)
  | dct (kvs : List (Key × PyData))
  | deck (s : Nat) (left : List Int) (mixed turn : Int)
/-- the names in a deck: its cells, its mark, its count -/
def dkK : Nat → Str × Str × Str
  | 0 => ("left", "mixed", "turn")
  | 1 => ("cells", "mixed", "turn")
  | 2 => ("left", "mixed", "draws")
  | _ => ("cells", "mixed", "draws")
/-- what a slot or a temporary stands for -/
inductive Ent where
  | no
  | val (d : PyData)
  | own (fr : Bool) (c : Cell)
  | scr (ns : List Int)
  | lent
/-- a slot that may not be written: a cell of the caller's, or one that is lent just now -/
def pinE : Ent → Bool
  | .own false _ => true
  | .lent => true
  | _ => false
/-- where a def began: frozen data, the heap, what it may change, slots that stay -/
structure Ct where
  F0 : Hp
  H0 : Hp
  W : Addr → Prop
  pins : List (Option V)
inductive CellAt (K : PySem.W.Frag) (F H : Hp) : V → Cell → List Addr → Prop
  | lst {a : Addr} {vs : List V} {ds : List PyData} (h : H a = some (.lst vs)) (r : Rps K F vs ds) : CellAt K F H (.ref a) (.lst ds) [a]
  | dct {a : Addr} {vs : List (Key × V)} {kvs : List (Key × PyData)} (h : H a = some (.dK vs)) (hk : vs.map (·.1) = kvs.map (·.1)) (r : Rps K F (vs.map (·.2)) (kvs.map (·.2))) : CellAt K F H (.ref a) (.dct kvs) [a]
  | deck {a b : Addr} {s : Nat} {left : List Int} {m t : Int} (h : H a = some (.dK [(.inr (dkK s).1, .ref b), (.inr (dkK s).2.1, .int m), (.inr (dkK s).2.2, .int t)])) (g : H b = some (.lst (left.map V.int))) : CellAt K F H (.ref a) (.deck s left m t) [a, b]
inductive SlotOk (K : PySem.W.Frag) (c : Ct) (F H : Hp) : Option V × Ent → List Addr → Prop
  | no (x : Option V) : SlotOk K c F H (x, .no) []
  | val {v : V} {d : PyData} (r : Rp K F v d) : SlotOk K c F H (some v, .val d) []
  | own {v : V} {fr : Bool} {ce : Cell} {fc : List Addr} (r : CellAt K F H v ce fc) (h : fr = true → ∀ a ∈ fc, c.H0 a = none) : SlotOk K c F H (some v, .own fr ce) fc
  | scr {a : Addr} {ns : List Int} (h : SqL K c.H0 a (ns.map V.int)) (w : ¬ c.W a) : SlotOk K c F H (some (.ref a), .scr ns) []
  | lent (x : Option V) : SlotOk K c F H (x, .lent) []
inductive Slots (K : PySem.W.Frag) (c : Ct) (F H : Hp) : List (Option V × Ent) → List Addr → Prop
  | nil : Slots K c F H [] []
  | cons {x : Option V × Ent} {fc fp : List Addr} {l : List (Option V × Ent)} (h : SlotOk K c F H x fc) (t : Slots K c F H l fp) : Slots K c F H (x :: l) (fc ++ fp)
section
variable {K : PySem.W.Frag} {c : Ct} {F F' H H' : Hp} {l : List (Option V × Ent)} {fp fc : List Addr} {x y : Option V × Ent}
theorem CellAt.there {v : V} {ce : Cell} (h : CellAt K F H v ce fc) : ∀ a ∈ fc, H a ≠ none := by
  cases h with
  | lst h r =>
    intro a ha
    rw [List.mem_singleton] at ha
    rw [ha, h]
    exact fun z => nomatch z
  | dct h hk r =>
    intro a ha
    rw [List.mem_singleton] at ha
    rw [ha, h]
    exact fun z => nomatch z
  | deck h g =>
    intro a ha
    rcases List.mem_cons.mp ha with e | e
    · rw [e, h]
      exact fun z => nomatch z
    · rw [List.mem_singleton] at e
      rw [e, g]
      exact fun z => nomatch z
theorem CellAt.stay {v : V} {ce : Cell} (e : Same F F') (h : CellAt K F H v ce fc) (k : ∀ a ∈ fc, H' a = H a) : CellAt K F' H' v ce fc := by
  cases h with
  | lst h r => exact .lst ((k _ (List.mem_singleton.mpr rfl)).trans h) (r.mono e)
  | dct h hk r => exact .dct ((k _ (List.mem_singleton.mpr rfl)).trans h) hk (r.mono e)
  | deck h g => exact .deck ((k _ (List.mem_cons_self ..)).trans h) ((k _ (List.mem_cons_of_mem _ (List.mem_singleton.mpr rfl))).trans g)
theorem SlotOk.there (h : SlotOk K c F H x fc) : ∀ a ∈ fc, H a ≠ none := by
  cases h with
  | no x => intro a ha; cases ha
  | val r => intro a ha; cases ha
  | own r h => exact r.there
  | scr h w => intro a ha; cases ha
  | lent x => intro a ha; cases ha
theorem SlotOk.stay (e : Same F F') (h : SlotOk K c F H x fc) (k : ∀ a ∈ fc, H' a = H a) : SlotOk K c F' H' x fc := by
  cases h with
  | no x => exact .no x
  | val r => exact .val (r.mono e)
  | own r h => exact .own (r.stay e k) h
  | scr h w => exact .scr h w
  | lent x => exact .lent x
theorem Slots.there (h : Slots K c F H l fp) : ∀ a ∈ fp, H a ≠ none := by
  induction h with
  | nil => intro a ha; cases ha
  | cons h t ih =>
    intro a ha
    rcases List.mem_append.mp ha with e | e
    · exact h.there a e
    · exact ih a e
theorem Slots.stay (e : Same F F') (h : Slots K c F H l fp) (k : ∀ a ∈ fp, H' a = H a) : Slots K c F' H' l fp := by
  induction h with
  | nil => exact .nil
  | cons h t ih => exact .cons (h.stay e fun a ha => k a (List.mem_append_left _ ha)) (ih fun a ha => k a (List.mem_append_right _ ha))
/-- one place of the slots -/
theorem Slots.place {i : Nat} (h : Slots K c F H l fp) (hi : l[i]? = some x) : ∃ f1 fc f2 : List Addr, fp = f1 ++ (fc ++ f2) ∧ SlotOk K c F H x fc ∧
    ∀ (F' H' : Hp) (y : Option V × Ent) (fc' : List Addr), Same F F' → (∀ a, a ∈ f1 ∨ a ∈ f2 → H' a = H a) → SlotOk K c F' H' y fc' → Slots K c F' H' (l.set i y) (f1 ++ (fc' ++ f2)) := by
  induction h generalizing i with
  | nil => simp at hi
  | @cons x0 fc0 fp0 l0 h t ih =>
    cases i with
    | zero =>
      simp only [List.getElem?_cons_zero, Option.some.injEq] at hi
      subst hi
      exact ⟨[], fc0, fp0, rfl, h, fun F' H' y fc' e k hy => Slots.cons (fc := fc') hy (t.stay e fun a ha => k a (.inr ha))⟩
    | succ i =>
      obtain ⟨f1, fc, f2, rfl, hx, q⟩ := ih (i := i) (by simpa using hi)
      refine ⟨fc0 ++ f1, fc, f2, by simp, hx, fun F' H' y fc' e k hy => ?_⟩
      have z := q F' H' y fc' e (fun a ha => k a (ha.elim (fun z => .inl (List.mem_append_right _ z)) .inr)) hy
      have z2 := Slots.cons (h.stay (H' := H') e fun a ha => k a (.inl (List.mem_append_left _ ha))) z
      simpa using z2
theorem Slots.app {l2 : List (Option V × Ent)} {fq : List Addr} (h : Slots K c F H l fp) (g : Slots K c F H l2 fq) : Slots K c F H (l ++ l2) (fp ++ fq) := by
  induction h with
  | nil => exact g
  | cons h t ih =>
    rw [List.cons_append, List.append_assoc]
    exact .cons h ih
theorem Slots.split {l1 l2 : List (Option V × Ent)} (h : Slots K c F H (l1 ++ l2) fp) : ∃ f1 f2, fp = f1 ++ f2 ∧ Slots K c F H l1 f1 ∧ Slots K c F H l2 f2 := by
  induction l1 generalizing fp with
  | nil => exact ⟨[], fp, rfl, .nil, h⟩
  | cons x l1 ih =>
    cases h with
    | @cons _ fc fq _ h t =>
      obtain ⟨f1, f2, rfl, a, b⟩ := ih t
      exact ⟨fc ++ f1, f2, by rw [List.append_assoc], .cons h a, b⟩
end

/-! ### the state of a body: slots, temporaries -/
abbrev Tm := List (V × Ent)
def tmp (T : Tm) : List (Option V × Ent) := T.map fun p => (some p.1, p.2)
structure RelF (K : PySem.W.Frag) (c : Ct) (σ : L2.St) (ρ : List Ent) (T : Tm) (H : Hp) (F : Hp) (fp : List Addr) : Prop where
  f0 : Same c.F0 F
  fh : Same F H
  new : ∀ a, F a ≠ none → c.F0 a ≠ none ∨ c.H0 a = none
  keep : ∀ a o, c.H0 a = some o → ¬ c.W a → H a = some o
  trk : ∀ a, c.H0 a ≠ none → H a ≠ none
  sl : Slots K c F H (tmp T ++ σ.zip ρ) fp
  nd : fp.Nodup
  own : ∀ a ∈ fp, F a = none ∧ (c.W a ∨ c.H0 a = none)
  len : σ.length = ρ.length
  pin : ∀ (i : Nat) (v : V), c.pins[i]? = some (some v) → σ[i]? = some (some v) ∧ ∃ e : Ent, ρ[i]? = some e ∧ pinE e = true
def Rel (K : PySem.W.Frag) (c : Ct) (σ : L2.St) (ρ : List Ent) (T : Tm) (H : Hp) : Prop := ∃ F fp, RelF K c σ ρ T H F fp
theorem zip_set' {α β : Type} : ∀ (xs : List α) (ys : List β) (i : Nat) (a : α) (b : β), (xs.set i a).zip (ys.set i b) = (xs.zip ys).set i (a, b)
  | [], ys, i, a, b => by simp
  | x :: xs, [], i, a, b => by cases i <;> simp
  | x :: xs, y :: ys, 0, a, b => rfl
  | x :: xs, y :: ys, i + 1, a, b => by
    show (x, y) :: (xs.set i a).zip (ys.set i b) = (x, y) :: (xs.zip ys).set i (a, b)
    rw [zip_set' xs ys i a b]
theorem zip_at {α β : Type} {xs : List α} {ys : List β} {i : Nat} {a : α} {b : β} (h : xs[i]? = some a) (g : ys[i]? = some b) : (xs.zip ys)[i]? = some (a, b) := by
  rw [List.getElem?_zip_eq_some]
  exact ⟨h, g⟩
section
variable {K : PySem.W.Frag} {c : Ct} {σ : L2.St} {ρ : List Ent} {T : Tm} {H F : Hp} {fp : List Addr} {v : V} {d : PyData} {e : Ent}
/-- a new object that is tracked -/
theorem Rel.fresh (h : Rel K c σ ρ T H) {p : Addr} (hp : H p = none) (o : HO) : Rel K c σ ρ T (upd H p o) := by
  obtain ⟨F, fp, r⟩ := h
  refine ⟨F, fp, r.f0, fun b u q => ?_, r.new, fun a u q w => ?_, fun a q => ?_, r.sl.stay (fun _ _ z => z) fun a ha => upd_ne fun z => ?_, r.nd, r.own, r.len, r.pin⟩
  · rw [upd_ne (ne_of_none (r.fh b u q) hp)]
    exact r.fh b u q
  · have z := r.keep a u q w
    rw [upd_ne (ne_of_none z hp)]
    exact z
  · have z := r.trk a q
    intro y
    by_cases hb : a = p
    · rw [hb, upd_same] at y
      cases y
    · rw [upd_ne hb] at y
      exact z y
  · rw [z] at ha
    exact r.sl.there p ha hp
/-- a temporary more: a value that is told by what is frozen -/
theorem RelF.push (r : RelF K c σ ρ T H F fp) (h : Rp K F v d) : RelF K c σ ρ ((v, .val d) :: T) H F fp :=
  ⟨r.f0, r.fh, r.new, r.keep, r.trk, .cons (.val h) r.sl, r.nd, r.own, r.len, r.pin⟩
theorem Rel.push (r : Rel K c σ ρ T H) (h : ∀ F, Rp K F v d) : Rel K c σ ρ ((v, .val d) :: T) H :=
  let ⟨F, fp, r⟩ := r
  ⟨F, fp, r.push (h F)⟩
theorem Rel.pushI (r : Rel K c σ ρ T H) (i : Int) : Rel K c σ ρ ((.int i, .val (.int i)) :: T) H := r.push fun _ => .int i
theorem Rel.pushB (r : Rel K c σ ρ T H) (b : Bool) : Rel K c σ ρ ((.bl b, .val (.bool b)) :: T) H := r.push fun _ => .bl b
theorem Rel.pushS (r : Rel K c σ ρ T H) (x : Str) : Rel K c σ ρ ((.str x, .val (.str x)) :: T) H := r.push fun _ => .str x
theorem Rel.pushN (r : Rel K c σ ρ T H) : Rel K c σ ρ ((.non, .val .none) :: T) H := r.push fun _ => .non
/-- what a temporary says -/
theorem RelF.top (r : RelF K c σ ρ ((v, .val d) :: T) H F fp) : Rp K F v d := by
  cases r.sl with
  | cons h t => cases h with | val q => exact q
theorem RelF.pop (r : RelF K c σ ρ ((v, e) :: T) H F fp) : ∃ fc fq, fp = fc ++ fq ∧ SlotOk K c F H (some v, e) fc ∧ RelF K c σ ρ T H F fq := by
  cases hsl : r.sl with
  | @cons _ fc fq _ h t =>
    exact ⟨fc, fq, rfl, h, r.f0, r.fh, r.new, r.keep, r.trk, t, (List.nodup_append.mp r.nd).2.1, fun a ha => r.own a (List.mem_append_right _ ha), r.len, r.pin⟩
theorem Rel.pop (r : Rel K c σ ρ ((v, e) :: T) H) : Rel K c σ ρ T H := by
  obtain ⟨F, fp, r⟩ := r
  obtain ⟨fc, fq, _, _, q⟩ := r.pop
  exact ⟨F, fq, q⟩
theorem Rel.drop {S : Tm} (r : Rel K c σ ρ (S ++ T) H) : Rel K c σ ρ T H := by
  induction S with
  | nil => exact r
  | cons p S ih => exact ih (Rel.pop (v := p.1) (e := p.2) r)
theorem RelF.popV (r : RelF K c σ ρ ((v, .val d) :: T) H F fp) : RelF K c σ ρ T H F fp := by
  obtain ⟨fc, fq, e, h, q⟩ := r.pop
  cases h
  rw [e]
  exact q
/-- a new tuple -/
theorem RelF.tupNew {xs : List V} {ds : List PyData} {p : Addr} (r : RelF K c σ ρ T H F fp) (hp : H p = none) (hx : Rps K F xs ds) : Rel K c σ ρ ((.ref p, .val (.tuple ds)) :: T) (upd H p (.tup xs)) := by
  have hF : F p = none := by
    cases q : F p with
    | none => rfl
    | some o =>
      have z := r.fh p o q
      rw [hp] at z
      cases z
  refine ⟨upd F p (.tup xs), fp, fun b u q => ?_, fun b u q => ?_, fun a q => ?_, fun a u q w => ?_, fun a q => ?_, .cons (.val (.tup (.inl (.inl upd_same)) (hx.mono fun b u q => ?_))) (r.sl.stay (fun b u q => ?_) fun a ha => upd_ne fun z => ?_), r.nd, fun a ha => ⟨?_, (r.own a ha).2⟩, r.len, r.pin⟩
  · have z := r.f0 b u q
    rw [upd_ne (ne_of_none z hF)]
    exact z
  · by_cases hb : b = p
    · rw [hb, upd_same] at q
      rw [hb, upd_same]
      exact q
    · rw [upd_ne hb] at q ⊢
      exact r.fh b u q
  · by_cases hb : a = p
    · right
      rw [hb]
      cases z : c.H0 p with
      | none => rfl
      | some o => exact absurd hp (r.trk p (by rw [z]; exact fun z => nomatch z))
    · rw [upd_ne hb] at q
      exact r.new a q
  · have z := r.keep a u q w
    rw [upd_ne (ne_of_none z hp)]
    exact z
  · intro y
    by_cases hb : a = p
    · rw [hb, upd_same] at y
      cases y
    · rw [upd_ne hb] at y
      exact r.trk a q y
  · rw [upd_ne (ne_of_none q hF)]
    exact q
  · rw [upd_ne (ne_of_none q hF)]
    exact q
  · rw [z] at ha
    exact r.sl.there p ha hp
  · rw [upd_ne fun z => r.sl.there p (by rw [← z]; exact ha) hp]
    exact (r.own a ha).1
theorem RelF.dctNewV {p : Addr} (r : RelF K c σ ρ T H F fp) (hp : H p = none) : Rel K c σ ρ ((.ref p, .val (.dict [])) :: T) (upd H p (.dK [])) := by
  have hF : F p = none := by
    cases q : F p with
    | none => rfl
    | some o =>
      have z := r.fh p o q
      rw [hp] at z
      cases z
  refine ⟨upd F p (.dK []), fp, fun b u q => ?_, fun b u q => ?_, fun a q => ?_, fun a u q w => ?_, fun a q => ?_, .cons (.val (.dct upd_same)) (r.sl.stay (fun b u q => ?_) fun a ha => upd_ne fun z => ?_), r.nd, fun a ha => ⟨?_, (r.own a ha).2⟩, r.len, r.pin⟩
  · have z := r.f0 b u q
    rw [upd_ne (ne_of_none z hF)]
    exact z
  · by_cases hb : b = p
    · rw [hb, upd_same] at q
      rw [hb, upd_same]
      exact q
    · rw [upd_ne hb] at q ⊢
      exact r.fh b u q
  · by_cases hb : a = p
    · right
      rw [hb]
      cases z : c.H0 p with
      | none => rfl
      | some o => exact absurd hp (r.trk p (by rw [z]; exact fun z => nomatch z))
    · rw [upd_ne hb] at q
      exact r.new a q
  · have z := r.keep a u q w
    rw [upd_ne (ne_of_none z hp)]
    exact z
  · intro y
    by_cases hb : a = p
    · rw [hb, upd_same] at y
      cases y
    · rw [upd_ne hb] at y
      exact r.trk a q y
  · rw [upd_ne (ne_of_none q hF)]
    exact q
  · rw [z] at ha
    exact r.sl.there p ha hp
  · rw [upd_ne fun z => r.sl.there p (by rw [← z]; exact ha) hp]
    exact (r.own a ha).1
/-- a new cell, owned -/
theorem RelF.cellNew {ce : Cell} {o : HO} {p : Addr} (r : RelF K c σ ρ T H F fp) (hp : H p = none) (hx : CellAt K F (upd H p o) (.ref p) ce [p]) : Rel K c σ ρ ((.ref p, .own true ce) :: T) (upd H p o) := by
  have h0 : c.H0 p = none := by
    cases z : c.H0 p with
    | none => rfl
    | some o => exact absurd hp (r.trk p (by rw [z]; exact fun z => nomatch z))
  have hF : F p = none := by
    cases q : F p with
    | none => rfl
    | some o =>
      have z := r.fh p o q
      rw [hp] at z
      cases z
  have hn : ∀ a ∈ fp, a ≠ p := fun a ha z => r.sl.there p (z ▸ ha) hp
  refine ⟨F, [p] ++ fp, r.f0, fun b u q => ?_, r.new, fun a u q w => ?_, fun a q => ?_, .cons (.own hx fun _ a ha => ?_) (r.sl.stay (fun _ _ z => z) fun a ha => upd_ne (hn a ha)), ?_, fun a ha => ?_, r.len, r.pin⟩
  · rw [upd_ne (ne_of_none (r.fh b u q) hp)]
    exact r.fh b u q
  · have z := r.keep a u q w
    rw [upd_ne (ne_of_none z hp)]
    exact z
  · intro y
    by_cases hb : a = p
    · rw [hb, upd_same] at y
      cases y
    · rw [upd_ne hb] at y
      exact r.trk a q y
  · rw [List.mem_singleton.mp ha]
    exact h0
  · exact List.nodup_cons.mpr ⟨fun z => hn p z rfl, r.nd⟩
  · rcases List.mem_cons.mp ha with z | z
    · rw [z]
      exact ⟨hF, .inr h0⟩
    · exact r.own a z
theorem RelF.lstNew {xs : List V} {ds : List PyData} {p : Addr} (r : RelF K c σ ρ T H F fp) (hp : H p = none) (hx : Rps K F xs ds) : Rel K c σ ρ ((.ref p, .own true (.lst ds)) :: T) (upd H p (.lst xs)) := r.cellNew hp (.lst upd_same hx)
theorem RelF.dctNew {p : Addr} (r : RelF K c σ ρ T H F fp) (hp : H p = none) : Rel K c σ ρ ((.ref p, .own true (.dct [])) :: T) (upd H p (.dK [])) := r.cellNew hp (.dct upd_same rfl .nil)
/-- the top, an owned cell, opened -/
theorem RelF.opn {fr : Bool} {ce : Cell} (r : RelF K c σ ρ ((v, .own fr ce) :: T) H F fp) : ∃ fc fq, CellAt K F H v ce fc ∧ RelF K c σ ρ T H F fq ∧ (fr = true → ∀ a ∈ fc, c.H0 a = none) ∧ fp = fc ++ fq ∧
    ∀ (a : Addr) (o : HO) (ce' : Cell), a ∈ fc → CellAt K F (upd H a o) v ce' fc → Rel K c σ ρ ((v, .own fr ce') :: T) (upd H a o) := by
  obtain ⟨fc, fq, e, q, r1⟩ := r.pop
  cases q with
  | own rc hf =>
    refine ⟨fc, fq, rc, r1, hf, e, fun a o ce' ha hx => ?_⟩
    have hown := r.own a (by rw [e]; exact List.mem_append_left _ ha)
    have hnd := r.nd
    rw [e] at hnd
    have hn : ∀ b ∈ fq, b ≠ a := fun b hb z => (List.nodup_append.mp hnd).2.2 a ha b hb z.symm
    refine ⟨F, fc ++ fq, r1.f0, fun b u z => ?_, r1.new, fun b u z w => ?_, fun b z => ?_, .cons (.own hx hf) (r1.sl.stay (fun _ _ z => z) fun b hb => upd_ne (hn b hb)), hnd, fun b hb => r.own b (by rw [e]; exact hb), r1.len, r1.pin⟩
    · rw [upd_ne (ne_of_none z hown.1)]
      exact r1.fh b u z
    · have y := r1.keep b u z w
      by_cases hb : b = a
      · subst hb
        rcases hown.2 with k | k
        · exact absurd k w
        · rw [k] at z
          cases z
      · rw [upd_ne hb]
        exact y
    · intro y
      by_cases hb : b = a
      · rw [hb, upd_same] at y
        cases y
      · rw [upd_ne hb] at y
        exact r1.trk b z y
/-- an owned new list becomes data -/
theorem Rel.freeze {ds : List PyData} (r : Rel K c σ ρ ((v, .own true (.lst ds)) :: T) H) : Rel K c σ ρ ((v, .val (.list ds)) :: T) H := by
  obtain ⟨F, fp, r⟩ := r
  obtain ⟨fc, fq, e, h, q⟩ := r.pop
  cases h with
  | own rc hf =>
    cases rc with
    | @lst a vs _ ha rs =>
      have hFa : F a = none := (r.own a (by rw [e]; exact List.mem_append_left _ (List.mem_singleton.mpr rfl))).1
      have hnd := r.nd
      rw [e] at hnd
      have hn : ∀ b ∈ fq, b ≠ a := fun b hb z => (List.nodup_cons.mp hnd).1 (z ▸ hb)
      have sm : Same F (upd F a (.lst vs)) := fun b u z => by
        rw [upd_ne (ne_of_none z hFa)]
        exact z
      refine ⟨upd F a (.lst vs), fq, q.f0.trans sm, fun b u z => ?_, fun b z => ?_, q.keep, q.trk, .cons (.val (.lst upd_same (rs.mono sm))) (q.sl.stay sm fun _ _ => rfl), q.nd, fun b hb => ⟨?_, (q.own b hb).2⟩, q.len, q.pin⟩
      · by_cases hb : b = a
        · rw [hb, upd_same] at z
          rw [hb, ha]
          exact z
        · rw [upd_ne hb] at z
          exact q.fh b u z
      · by_cases hb : b = a
        · rw [hb]
          exact .inr (hf rfl a (List.mem_singleton.mpr rfl))
        · rw [upd_ne hb] at z
          exact q.new b z
      · rw [upd_ne (hn b hb)]
        exact (q.own b hb).1
/-- the top two temporaries change places -/
theorem Rel.swap {p q : V × Ent} (r : Rel K c σ ρ (p :: q :: T) H) : Rel K c σ ρ (q :: p :: T) H := by
  obtain ⟨F, fp, r⟩ := r
  obtain ⟨f1, fr, e1, h1, r1⟩ := RelF.pop (v := p.1) (e := p.2) r
  obtain ⟨f2, fs, e2, h2, r2⟩ := RelF.pop (v := q.1) (e := q.2) r1
  subst e1 e2
  have pm : (f2 ++ (f1 ++ fs)).Perm (f1 ++ (f2 ++ fs)) := by
    rw [← List.append_assoc, ← List.append_assoc]
    exact List.Perm.append_right _ List.perm_append_comm
  exact ⟨F, f2 ++ (f1 ++ fs), r.f0, r.fh, r.new, r.keep, r.trk, .cons h2 (.cons h1 r2.sl), pm.nodup_iff.mpr r.nd, fun a ha => r.own a (pm.mem_iff.mp ha), r.len, r.pin⟩
/-- a slot is written -/
theorem RelF.putG {i : Nat} (r : RelF K c σ ρ ((v, e) :: T) H F fp) (hp : ∀ w, c.pins[i]? = some (some w) → w = v ∧ pinE e = true) : Rel K c (σ.set i (some v)) (ρ.set i e) T H := by
  obtain ⟨fc, fq, e1, h, q⟩ := r.pop
  subst e1
  have hpin : ∀ (j : Nat) (w : V), c.pins[j]? = some (some w) → (σ.set i (some v))[j]? = some (some w) ∧ ∃ e0 : Ent, (ρ.set i e)[j]? = some e0 ∧ pinE e0 = true := fun j w z => by
    obtain ⟨z1, e0, z2, z3⟩ := r.pin j w z
    by_cases hj : i = j
    · subst hj
      obtain ⟨y1, y2⟩ := hp w z
      rw [List.getElem?_set_self (List.getElem?_eq_some_iff.mp z1).1, List.getElem?_set_self (List.getElem?_eq_some_iff.mp z2).1, y1]
      exact ⟨rfl, e, rfl, y2⟩
    · rw [List.getElem?_set_ne hj, List.getElem?_set_ne hj]
      exact ⟨z1, e0, z2, z3⟩
  by_cases hi : i < σ.length
  · obtain ⟨f1, fo, f2, e2, f3, f4⟩ := Slots.place (i := T.length + i) q.sl (x := (σ[i], ρ[i]'(q.len ▸ hi))) (by
      rw [List.getElem?_append_right (by simp [tmp])]
      simp only [tmp, List.length_map, Nat.add_sub_cancel_left]
      exact zip_at (List.getElem?_eq_getElem hi) (List.getElem?_eq_getElem _))
    subst e2
    have z := f4 F H (some v, e) fc (fun _ _ z => z) (fun _ _ => rfl) h
    rw [List.set_append_right _ _ (by simp [tmp])] at z
    simp only [tmp, List.length_map, Nat.add_sub_cancel_left, ← zip_set'] at z
    have sub : (f1 ++ (fc ++ f2)).Nodup ∧ ∀ a ∈ f1 ++ (fc ++ f2), a ∈ fc ++ (f1 ++ (fo ++ f2)) := by
      have nd := r.nd
      refine ⟨?_, fun a ha => ?_⟩
      · have p1 : (f1 ++ (fc ++ f2)).Perm (fc ++ (f1 ++ f2)) := by
          rw [← List.append_assoc, ← List.append_assoc]
          exact List.Perm.append_right _ List.perm_append_comm
        refine p1.nodup_iff.mpr (nd.sublist ?_)
        exact List.Sublist.append_left (List.Sublist.append_left (List.sublist_append_right _ _) _) _
      · simp only [List.mem_append] at ha ⊢
        rcases ha with z | z | z
        · exact .inr (.inl z)
        · exact .inl z
        · exact .inr (.inr (.inr z))
    exact ⟨F, f1 ++ (fc ++ f2), q.f0, q.fh, q.new, q.keep, q.trk, z, sub.1, fun a ha => r.own a (sub.2 a ha), by rw [List.length_set, List.length_set]; exact q.len, hpin⟩
  · have hρ : ¬ i < ρ.length := by rw [← q.len]; exact hi
    rw [List.set_eq_of_length_le (by omega), List.set_eq_of_length_le (by omega)]
    exact ⟨F, fq, q⟩
/-- may the slot be written? -/
def freeE (ρ : List Ent) (i : Nat) : Bool := match ρ[i]? with
  | some e => !pinE e
  | none => true
theorem Rel.put {i : Nat} (r : Rel K c σ ρ ((v, e) :: T) H) (hp : freeE ρ i = true) : Rel K c (σ.set i (some v)) (ρ.set i e) T H := by
  obtain ⟨F, fp, r⟩ := r
  refine r.putG fun w z => ?_
  obtain ⟨_, e0, z2, z3⟩ := r.pin i w z
  unfold freeE at hp
  rw [z2] at hp
  simp only [z3, Bool.not_true] at hp
  cases hp
theorem set_id {i : Nat} (hv : σ[i]? = some (some v)) : σ.set i (some v) = σ := by
  refine List.ext_getElem? fun j => ?_
  by_cases hj : i = j
  · subst hj
    rw [List.getElem?_set_self (List.getElem?_eq_some_iff.mp hv).1, hv]
  · rw [List.getElem?_set_ne hj]
/-- a slot becomes a temporary -/
theorem Rel.take {i : Nat} (r : Rel K c σ ρ T H) (hv : σ[i]? = some (some v)) (he : ρ[i]? = some e) : Rel K c σ (ρ.set i .lent) ((v, e) :: T) H := by
  obtain ⟨F, fp, r⟩ := r
  obtain ⟨f1, fc, f2, e2, f3, f4⟩ := Slots.place (i := T.length + i) r.sl (x := (some v, e)) (by
    rw [List.getElem?_append_right (by simp [tmp])]
    simp only [tmp, List.length_map, Nat.add_sub_cancel_left]
    exact zip_at hv he)
  subst e2
  have z := f4 F H (some v, .lent) [] (fun _ _ z => z) (fun _ _ => rfl) (.lent _)
  rw [List.set_append_right _ _ (by simp [tmp])] at z
  simp only [tmp, List.length_map, Nat.add_sub_cancel_left, ← zip_set', List.nil_append] at z
  rw [set_id hv] at z
  have pm : (fc ++ (f1 ++ f2)).Perm (f1 ++ (fc ++ f2)) := by
    rw [← List.append_assoc, ← List.append_assoc]
    exact List.Perm.append_right _ List.perm_append_comm
  refine ⟨F, fc ++ (f1 ++ f2), r.f0, r.fh, r.new, r.keep, r.trk, .cons f3 z, pm.nodup_iff.mpr r.nd, fun a ha => r.own a (pm.mem_iff.mp ha), by rw [List.length_set]; exact r.len, fun j w y => ?_⟩
  obtain ⟨z1, e0, z2, z3⟩ := r.pin j w y
  refine ⟨z1, ?_⟩
  by_cases hj : i = j
  · subst hj
    exact ⟨.lent, List.getElem?_set_self (List.getElem?_eq_some_iff.mp z2).1, rfl⟩
  · exact ⟨e0, by rw [List.getElem?_set_ne hj]; exact z2, z3⟩
/-- and back -/
theorem Rel.back {i : Nat} (r : Rel K c σ ρ ((v, e) :: T) H) (hv : σ[i]? = some (some v)) (hp : ∀ w, c.pins[i]? = some (some w) → pinE e = true) : Rel K c σ (ρ.set i e) T H := by
  obtain ⟨F, fp, r⟩ := r
  have q := r.putG (i := i) fun w z => ⟨by
    have := (r.pin i w z).1
    rw [hv] at this
    cases this
    rfl, hp w z⟩
  rw [set_id hv] at q
  exact q
theorem Rel.pinned {i : Nat} {w : V} (r : Rel K c σ ρ T H) (z : c.pins[i]? = some (some w)) (he : ρ[i]? = some e) : pinE e = true := by
  obtain ⟨F, fp, r⟩ := r
  obtain ⟨_, e0, z2, z3⟩ := r.pin i w z
  rw [he] at z2
  cases z2
  exact z3
/-- what a slot says -/
theorem Rel.slot {i : Nat} (r : Rel K c σ ρ T H) (he : ρ[i]? = some (.val d)) : ∃ v, σ[i]? = some (some v) ∧ Rel K c σ ρ ((v, .val d) :: T) H := by
  obtain ⟨F, fp, r⟩ := r
  have hi : i < σ.length := by
    rw [r.len]
    exact (List.getElem?_eq_some_iff.mp he).1
  obtain ⟨f1, fc, f2, e2, f3, f4⟩ := Slots.place (i := T.length + i) r.sl (x := (σ[i], .val d)) (by
    rw [List.getElem?_append_right (by simp [tmp])]
    simp only [tmp, List.length_map, Nat.add_sub_cancel_left]
    exact zip_at (List.getElem?_eq_getElem hi) he)
  generalize hs : σ[i] = s at f3
  cases f3 with
  | @val v _ q => exact ⟨v, by rw [List.getElem?_eq_getElem hi, hs], F, fp, r.push q⟩
/-- an owned slot has a value -/
theorem Rel.ownv {i : Nat} {fr : Bool} {ce : Cell} (r : Rel K c σ ρ T H) (he : ρ[i]? = some (.own fr ce)) : ∃ v, σ[i]? = some (some v) := by
  obtain ⟨F, fp, r⟩ := r
  have hi : i < σ.length := by
    rw [r.len]
    exact (List.getElem?_eq_some_iff.mp he).1
  obtain ⟨f1, fc, f2, e2, f3, f4⟩ := Slots.place (i := T.length + i) r.sl (x := (σ[i], .own fr ce)) (by
    rw [List.getElem?_append_right (by simp [tmp])]
    simp only [tmp, List.length_map, Nat.add_sub_cancel_left]
    exact zip_at (List.getElem?_eq_getElem hi) he)
  generalize hs : σ[i] = s at f3
  cases f3 with
  | @own v _ _ _ q _ => exact ⟨v, by rw [List.getElem?_eq_getElem hi, hs]⟩
/-- the top, an owned list, is written -/
theorem Rel.write {fr : Bool} {ds ds' : List PyData} (g : List V → List V) (r : Rel K c σ ρ ((v, .own fr (.lst ds)) :: T) H) (h : ∀ F fp vs, RelF K c σ ρ T H F fp → Rps K F vs ds → Rps K F (g vs) ds') :
    ∃ a vs, v = .ref a ∧ H a = some (.lst vs) ∧ vs.length = ds.length ∧ Rel K c σ ρ ((v, .own fr (.lst ds')) :: T) (upd H a (.lst (g vs))) := by
  obtain ⟨F, fp, r⟩ := r
  obtain ⟨fc, fq, e, q, r1⟩ := r.pop
  cases q with
  | own rc hf =>
    cases rc with
    | @lst a vs _ ha rs =>
      have hown := r.own a (by rw [e]; exact List.mem_append_left _ (List.mem_singleton.mpr rfl))
      have hnd := r.nd
      rw [e] at hnd
      have hn : ∀ b ∈ fq, b ≠ a := fun b hb z => (List.nodup_cons.mp hnd).1 (z ▸ hb)
      refine ⟨a, vs, rfl, ha, rs.length, F, [a] ++ fq, r1.f0, fun b u z => ?_, r1.new, fun b u z w => ?_, fun b z => ?_, .cons (.own (.lst upd_same (h F fq vs r1 rs)) hf) (r1.sl.stay (fun _ _ z => z) fun b hb => upd_ne (hn b hb)), hnd, fun b hb => r.own b (by rw [e]; exact hb), r1.len, r1.pin⟩
      · rw [upd_ne (ne_of_none z hown.1)]
        exact r1.fh b u z
      · have y := r1.keep b u z w
        by_cases hb : b = a
        · subst hb
          rcases hown.2 with k | k
          · exact absurd k w
          · rw [k] at z
            cases z
        · rw [upd_ne hb]
          exact y
      · intro y
        by_cases hb : b = a
        · rw [hb, upd_same] at y
          cases y
        · rw [upd_ne hb] at y
          exact r1.trk b z y
theorem Slots.permute {l l' : List (Option V × Ent)} (hp : l.Perm l') : ∀ {fp : List Addr}, Slots K c F H l fp → ∃ fq, fq.Perm fp ∧ Slots K c F H l' fq := by
  induction hp with
  | nil => exact fun h => ⟨_, .refl _, h⟩
  | cons x _ ih =>
    intro fp h
    cases h with
    | cons h t =>
      obtain ⟨fq, pm, q⟩ := ih t
      exact ⟨_, pm.append_left _, .cons h q⟩
  | swap x y l =>
    intro fp h
    cases h with
    | @cons _ f1 _ _ h1 t1 =>
      cases t1 with
      | @cons _ f2 f3 _ h2 t2 =>
        refine ⟨f2 ++ (f1 ++ f3), ?_, .cons h2 (.cons h1 t2)⟩
        rw [← List.append_assoc, ← List.append_assoc]
        exact List.Perm.append_right _ List.perm_append_comm
  | trans _ _ ih1 ih2 =>
    intro fp h
    obtain ⟨fq, pm, q⟩ := ih1 h
    obtain ⟨fr, pm2, q2⟩ := ih2 q
    exact ⟨fr, pm2.trans pm, q2⟩
/-- temporaries in another order -/
theorem Rel.perm {T' : Tm} (r : Rel K c σ ρ T H) (hp : T.Perm T') : Rel K c σ ρ T' H := by
  obtain ⟨F, fp, r⟩ := r
  obtain ⟨fq, pm, q⟩ := Slots.permute ((hp.map fun p => (some p.1, p.2)).append_right (σ.zip ρ)) r.sl
  exact ⟨F, fq, r.f0, r.fh, r.new, r.keep, r.trk, q, pm.nodup_iff.mpr r.nd, fun a ha => r.own a (pm.mem_iff.mp ha), r.len, r.pin⟩
/-- what the top, an owned list, says -/
theorem RelF.lstTop {fr : Bool} {ds : List PyData} (r : RelF K c σ ρ ((v, .own fr (.lst ds)) :: T) H F fp) : ∃ a vs, v = .ref a ∧ H a = some (.lst vs) ∧ Rps K F vs ds := by
  obtain ⟨fc, fq, e, q, r1⟩ := r.pop
  cases q with
  | own rc hf =>
    cases rc with
    | @lst a vs _ ha rs => exact ⟨a, vs, rfl, ha, rs⟩
end
end Fj

set_option Elab.async false
set_option linter.all false
set_option maxRecDepth 100000
set_option maxHeartbeats 4000000
set_option autoImplicit false
/-! Judgements over a family of contexts: what an expression's mirror says. -/
namespace Fj
open PySem PySem.Spec PyProof.Rows L2

/-- contexts that differ in what the text does not say -/
structure Fam where
  I : Type
  X : I → Cx
  P : Program
  w : World
  K : PySem.W.Frag
  mg : Str → Option Value
  base : Heap
  k : Nat
  hP : ∀ i, (X i).prog = P
  hw : ∀ i, (X i).w = w
  hK : ∀ i, (X i).K = K
  hmg : ∀ i, (X i).mg = mg
  hbase : ∀ i, (X i).base = base
  calm : ∀ i, (X i).calm = true
  gd : ∀ i, (X i).A.guards = some []
  room : ∀ i, Room k (X i).A
/-- a comprehension's block -/
def Fam.blk (Y : Fam) (scope : Scope) : Fam where
  I := Y.I × Shared × Hp × Addr × List (Str × Addr) × List Addr
  X := fun i => (Y.X i.1).blk i.2.1 i.2.2.1 scope (compEnvC scope i.2.2.2.2.1 i.2.2.2.1 (Y.X i.1).env) i.2.2.2.2.2
  P := Y.P
  w := Y.w
  K := Y.K
  mg := Y.mg
  base := Y.base
  k := Y.k
  hP := fun i => Y.hP i.1
  hw := fun i => Y.hw i.1
  hK := fun i => Y.hK i.1
  hmg := fun i => Y.hmg i.1
  hbase := fun i => Y.hbase i.1
  calm := fun i => Y.calm i.1
  gd := fun i => Y.gd i.1
  room := fun i => Y.room i.1

abbrev En := List Ent
abbrev MV := En → Option (PyData × En)
abbrev MO := En → Option (Ent × En)
abbrev MT := En → Option (Bool × En)
def PostV (K : PySem.W.Frag) (c : Ct) (σ : L2.St) (T : Tm) (r : Option (PyData × En)) (Q : VK) : Prop := match r with
  | none => False
  | some (d, ρ) => ∀ v H, Rel K c σ ρ ((v, .val d) :: T) H → Q v H
def PostO (K : PySem.W.Frag) (c : Ct) (σ : L2.St) (T : Tm) (r : Option (Ent × En)) (Q : VK) : Prop := match r with
  | none => False
  | some (e, ρ) => ∀ v H, Rel K c σ ρ ((v, e) :: T) H → Q v H
def PostT (K : PySem.W.Frag) (c : Ct) (σ : L2.St) (T : Tm) (r : Option (Bool × En)) (Q : Bool → Hp → Prop) : Prop := match r with
  | none => False
  | some (b, ρ) => ∀ H, Rel K c σ ρ T H → Q b H
def SemV (K : PySem.W.Frag) (t : TE) (m : MV) : Prop := ∀ (c : Ct) (σ : L2.St) (ρ : En) (T : Tm) (H : Hp) (Q : VK), Rel K c σ ρ T H → PostV K c σ T (m ρ) Q → t σ H Q
def SemO (K : PySem.W.Frag) (t : TE) (m : MO) : Prop := ∀ (c : Ct) (σ : L2.St) (ρ : En) (T : Tm) (H : Hp) (Q : VK), Rel K c σ ρ T H → PostO K c σ T (m ρ) Q → t σ H Q
def SemT (K : PySem.W.Frag) (t : TT) (m : MT) : Prop := ∀ (c : Ct) (σ : L2.St) (ρ : En) (T : Tm) (H : Hp) (Q : Bool → Hp → Prop), Rel K c σ ρ T H → PostT K c σ T (m ρ) Q → t σ H Q
def JV (Y : Fam) (e : Expr) (m : MV) : Prop := ∃ t, (∀ i, PE (Y.X i) e t) ∧ SemV Y.K t m
def JO (Y : Fam) (e : Expr) (m : MO) : Prop := ∃ t, (∀ i, PE (Y.X i) e t) ∧ SemO Y.K t m
def JT (Y : Fam) (e : Expr) (m : MT) : Prop := ∃ t, (∀ i, PT (Y.X i) e t) ∧ SemT Y.K t m

/-! ### plain expressions -/
def mC (d : PyData) : MV := fun ρ => some (d, ρ)
def mVar (i : Nat) : MV := fun ρ => match ρ[i]? with
  | some (.val d) => some (d, ρ)
  | _ => none
/-- an owned list is given up to the data -/
def fz : Ent → Option PyData
  | .val d => some d
  | .own true (.lst ds) => some (.list ds)
  | _ => none
def mFz (m : MO) : MV := fun ρ => match m ρ with
  | some (e, ρ) => (fz e).map fun d => (d, ρ)
  | none => none
def mVal (m : MV) : MO := fun ρ => (m ρ).map fun p => (.val p.1, p.2)
section
variable {Y : Fam} {e a b c0 : Expr} {pos : Pos}
theorem Rel.fz {K : PySem.W.Frag} {c : Ct} {σ : L2.St} {ρ : En} {T : Tm} {H : Hp} {v : V} {e : Ent} {d : PyData} (h : fz e = some d) (r : Rel K c σ ρ ((v, e) :: T) H) : Rel K c σ ρ ((v, .val d) :: T) H := by
  unfold Fj.fz at h
  split at h
  · cases h
    exact r
  · cases h
    exact r.freeze
  · cases h
theorem j_fz {m : MO} (h : JO Y e m) : JV Y e (mFz m) := by
  obtain ⟨t, p, s⟩ := h
  refine ⟨t, p, fun c σ ρ T H Q r q => s c σ ρ T H Q r ?_⟩
  unfold mFz at q
  cases hm : m ρ with
  | none =>
    rw [hm] at q
    exact q
  | some z =>
    obtain ⟨e0, ρ1⟩ := z
    rw [hm] at q
    simp only at q
    cases hf : fz e0 with
    | none =>
      rw [hf] at q
      exact False.elim q
    | some d =>
      rw [hf] at q
      exact fun v H1 r1 => q v H1 (r1.fz hf)
theorem j_val {m : MV} (h : JV Y e m) : JO Y e (mVal m) := by
  obtain ⟨t, p, s⟩ := h
  refine ⟨t, p, fun c σ ρ T H Q r q => s c σ ρ T H Q r ?_⟩
  unfold mVal at q
  cases hm : m ρ with
  | none =>
    rw [hm] at q
    exact q
  | some z =>
    rw [hm] at q
    exact q
theorem j_var (i : Nat) {x : Str} (hN : ∀ j, (Y.X j).N[i]? = some x := by intro _; rfl) (hv : ∀ j, Vis (Y.X j).env.scope x := by first | exact fun _ => Or.inl rfl | exact fun _ => Or.inr (Or.inl rfl) | exact fun _ => Or.inr (Or.inr rfl)) (hd : (x == ("__debug__" : Str)) = false := by decide)
    (hcd : (x == ("__classdict__" : Str)) = false := by decide) : JV Y (.Name x pos) (mVar i) := by
  refine ⟨tVar i, fun j => pe_var (hN j) (hv j) hd hcd, fun c σ ρ T H Q r q => ?_⟩
  unfold mVar at q
  split at q
  · rename_i d he
    obtain ⟨v, hv, r1⟩ := r.slot he
    exact ⟨v, hv, q v H r1⟩
  · exact q.elim
theorem j_int {i : Int} {j : Nat} : JV Y (.Constant (.int i) j pos) (mC (.int i)) := ⟨tC (.int i), fun _ => pe_int, fun _ _ _ _ H _ r q => q _ H (r.pushI i)⟩
theorem j_bool {b : Bool} {j : Nat} : JV Y (.Constant (.bool b) j pos) (mC (.bool b)) := ⟨tC (.bl b), fun _ => pe_bl, fun _ _ _ _ H _ r q => q _ H (r.pushB b)⟩
theorem j_str {x : Str} {j : Nat} : JV Y (.Constant (.str x) j pos) (mC (.str x)) := ⟨tC (.str x), fun _ => pe_str, fun _ _ _ _ H _ r q => q _ H (r.pushS x)⟩
theorem j_none {j : Nat} : JV Y (.Constant .none j pos) (mC .none) := ⟨tC .non, fun _ => pe_non, fun _ _ _ _ H _ r q => q _ H r.pushN⟩
/-- a constant of the module -/
theorem j_glob {x : Str} {v : V} {u : Value} {d : PyData} (hm : Y.mg x = some u) (rv : RelV v u) (hr : ∀ F, Rp Y.K F v d) (hg : ∀ j, Gl (Y.X j) x := by intro _; rfl) (hd : (x == ("__debug__" : Str)) = false := by decide) : JV Y (.Name x pos) (mC d) :=
  ⟨tC v, fun j => pe_glob (hg j) (by rw [Y.hmg j]; exact hm) rv hd, fun _ _ _ _ H _ r q => q _ H (r.push hr)⟩

/-! ### operations of two values -/
def OpJ (Y : Fam) (f : Value → Value → Sem Value) (g : PyData → PyData → Option PyData) : Prop := ∃ r : R2, (∀ j, OpR (Y.X j) f r) ∧
  ∀ (c : Ct) (σ : L2.St) (ρ : En) (T : Tm) (H : Hp) (x y : V) (dx dy z : PyData) (Q : VK), Rel Y.K c σ ρ ((y, .val dy) :: (x, .val dx) :: T) H → g dx dy = some z → (∀ v H', Rel Y.K c σ ρ ((v, .val z) :: T) H' → Q v H') → r x y H Q
def mBin (g : PyData → PyData → Option PyData) (ma mb : MV) : MV := fun ρ => match ma ρ with
  | none => none
  | some (x, ρ) => match mb ρ with
    | none => none
    | some (y, ρ) => (g x y).map fun z => (z, ρ)
theorem OpJ.or {f : Value → Value → Sem Value} {g g' : PyData → PyData → Option PyData} (h : OpJ Y f g) (h' : OpJ Y f g') : OpJ Y f (fun x y => (g x y).or (g' x y)) := by
  obtain ⟨r, o, s⟩ := h
  obtain ⟨r', o', s'⟩ := h'
  refine ⟨_, fun j => OpR.or (o j) (o' j), fun c σ ρ T H x y dx dy z Q re e q => ?_⟩
  cases hg : g dx dy with
  | some w =>
    simp only [hg, Option.or] at e
    cases e
    exact .inl (s c σ ρ T H x y dx dy _ Q re hg q)
  | none =>
    simp only [hg, Option.or] at e
    exact .inr (s' c σ ρ T H x y dx dy z Q re e q)
/-- the common reading of two operands -/
theorem sem_bin {K : PySem.W.Frag} {ta tb : TE} {ma mb : MV} (sa : SemV K ta ma) (sb : SemV K tb mb) {c : Ct} {σ : L2.St} {ρ : En} {T : Tm} {H : Hp} {R : V → V → Hp → Prop} (r : Rel K c σ ρ T H)
    (q : ∃ x ρ1 y ρ2, ma ρ = some (x, ρ1) ∧ mb ρ1 = some (y, ρ2) ∧ ∀ vx vy H2, Rel K c σ ρ2 ((vy, .val y) :: (vx, .val x) :: T) H2 → R vx vy H2) : ta σ H fun vx H1 => tb σ H1 fun vy H2 => R vx vy H2 := by
  obtain ⟨x, ρ1, y, ρ2, e1, e2, q⟩ := q
  refine sa c σ ρ T H _ r ?_
  rw [e1]
  intro vx H1 r1
  refine sb c σ ρ1 _ H1 _ r1 ?_
  rw [e2]
  exact fun vy H2 r2 => q vx vy H2 r2
theorem bin_inv {g : PyData → PyData → Option PyData} {ma mb : MV} {K : PySem.W.Frag} {c : Ct} {σ : L2.St} {ρ : En} {T : Tm} {Q : VK} (q : PostV K c σ T (mBin g ma mb ρ) Q) :
    ∃ x ρ1 y ρ2 z, ma ρ = some (x, ρ1) ∧ mb ρ1 = some (y, ρ2) ∧ g x y = some z ∧ ∀ v H, Rel K c σ ρ2 ((v, .val z) :: T) H → Q v H := by
  unfold mBin at q
  split at q
  · exact q.elim
  · rename_i x ρ1 e1
    split at q
    · exact q.elim
    · rename_i y ρ2 e2
      cases hg : g x y with
      | none =>
        rw [hg] at q
        exact q.elim
      | some z =>
        rw [hg] at q
        exact ⟨x, ρ1, y, ρ2, z, e1, e2, hg, q⟩
theorem j_bin {op : Operator} {g : PyData → PyData → Option PyData} {ma mb : MV} (ho : OpJ Y (binaryOp op) g) (ha : JV Y a ma) (hb : JV Y b mb) : JV Y (.BinOp a op b pos) (mBin g ma mb) := by
  obtain ⟨r, o, s⟩ := ho
  obtain ⟨ta, pa, sa⟩ := ha
  obtain ⟨tb, pb, sb⟩ := hb
  refine ⟨tOp r ta tb, fun j => pe_op (o j) (pa j) (pb j), fun c σ ρ T H Q re q => ?_⟩
  obtain ⟨x, ρ1, y, ρ2, z, e1, e2, hg, q⟩ := bin_inv q
  exact sem_bin sa sb re ⟨x, ρ1, y, ρ2, e1, e2, fun vx vy H2 r2 => s c σ ρ2 T H2 vx vy x y z Q r2 hg q⟩
theorem j_cmp {op : CmpOp} {g : PyData → PyData → Option PyData} {ma mb : MV} (ho : OpJ Y (compareOp op) g) (ha : JV Y a ma) (hb : JV Y b mb) (hm : behindInMarks op b = false := by first | exact nomark _ | rfl) : JV Y (.Compare a [op] [b] pos) (mBin g ma mb) := by
  obtain ⟨r, o, s⟩ := ho
  obtain ⟨ta, pa, sa⟩ := ha
  obtain ⟨tb, pb, sb⟩ := hb
  refine ⟨tOp r ta tb, fun j => pe_cmpR (o j) (pa j) (pb j) hm, fun c σ ρ T H Q re q => ?_⟩
  obtain ⟨x, ρ1, y, ρ2, z, e1, e2, hg, q⟩ := bin_inv q
  exact sem_bin sa sb re ⟨x, ρ1, y, ρ2, e1, e2, fun vx vy H2 r2 => s c σ ρ2 T H2 vx vy x y z Q r2 hg q⟩
/-- a value that is a truth value, as a test -/
def mTest (m : MV) : MT := fun ρ => match m ρ with
  | some (.bool b, ρ) => some (b, ρ)
  | _ => none
theorem test_inv {m : MV} {K : PySem.W.Frag} {c : Ct} {σ : L2.St} {ρ : En} {T : Tm} {Q : Bool → Hp → Prop} (q : PostT K c σ T (mTest m ρ) Q) : ∃ b ρ1, m ρ = some (.bool b, ρ1) ∧ ∀ H, Rel K c σ ρ1 T H → Q b H := by
  unfold mTest at q
  split at q
  · rename_i b ρ1 e
    exact ⟨b, ρ1, e, q⟩
  · exact q.elim
theorem Rel.boolTop {K : PySem.W.Frag} {c : Ct} {σ : L2.St} {ρ : En} {T : Tm} {H : Hp} {v : V} {b : Bool} (r : Rel K c σ ρ ((v, .val (.bool b)) :: T) H) : v = .bl b := by
  obtain ⟨F, fp, r⟩ := r
  cases r.top
  rfl
theorem Rel.intTop {K : PySem.W.Frag} {c : Ct} {σ : L2.St} {ρ : En} {T : Tm} {H : Hp} {v : V} {b : Int} (r : Rel K c σ ρ ((v, .val (.int b)) :: T) H) : v = .int b := by
  obtain ⟨F, fp, r⟩ := r
  cases r.top
  rfl
theorem Rel.strTop {K : PySem.W.Frag} {c : Ct} {σ : L2.St} {ρ : En} {T : Tm} {H : Hp} {v : V} {b : Str} (r : Rel K c σ ρ ((v, .val (.str b)) :: T) H) : v = .str b := by
  obtain ⟨F, fp, r⟩ := r
  cases r.top
  rfl
theorem Rel.nonTop {K : PySem.W.Frag} {c : Ct} {σ : L2.St} {ρ : En} {T : Tm} {H : Hp} {v : V} (r : Rel K c σ ρ ((v, .val .none) :: T) H) : v = .non := by
  obtain ⟨F, fp, r⟩ := r
  cases r.top
  rfl
theorem t_cmp {op : CmpOp} {g : PyData → PyData → Option PyData} {ma mb : MV} (ho : OpJ Y (compareOp op) g) (ha : JV Y a ma) (hb : JV Y b mb) (hm : behindInMarks op b = false := by first | exact nomark _ | rfl) : JT Y (.Compare a [op] [b] pos) (mTest (mBin g ma mb)) := by
  obtain ⟨r, o, s⟩ := ho
  obtain ⟨ta, pa, sa⟩ := ha
  obtain ⟨tb, pb, sb⟩ := hb
  refine ⟨_, fun j => pt_cmpR (o j) (pa j) (pb j) hm, fun c σ ρ T H Q re q => ?_⟩
  obtain ⟨b0, ρ2, e, q⟩ := test_inv q
  have q' : PostV Y.K c σ T (mBin g ma mb ρ) (fun x H' => ∃ k, x = .bl k ∧ Q k H') := by
    rw [e]
    exact fun v H1 r1 => ⟨b0, r1.boolTop, q H1 r1.pop⟩
  obtain ⟨x, ρ1, y, ρ2, z, e1, e2, hg, q⟩ := bin_inv q'
  exact sem_bin sa sb re ⟨x, ρ1, y, ρ2, e1, e2, fun vx vy H2 r2 => s c σ ρ2 T H2 vx vy x y z _ r2 hg q⟩
theorem t_val {m : MV} (h : JV Y e m) (he : ∀ j whole, isTrue e (Y.X j).env whole = (do let v ← whole; standAt e.pos; holding [v] (truthy v)) := by intro _ _; rfl) : JT Y e (mTest m) := by
  obtain ⟨t, p, s⟩ := h
  refine ⟨tB t, fun j => pt_val (p j) (he j), fun c σ ρ T H Q re q => ?_⟩
  obtain ⟨b0, ρ2, e, q⟩ := test_inv q
  refine s c σ ρ T H _ re ?_
  rw [e]
  exact fun v H1 r1 => ⟨b0, r1.boolTop, q H1 r1.pop⟩

/-! ### not, and, or, if else -/
def mTNot (m : MT) : MT := fun ρ => (m ρ).map fun p => (!p.1, p.2)
def mTAnd (m n : MT) : MT := fun ρ => match m ρ with
  | none => none
  | some (true, ρ) => n ρ
  | some (false, ρ) => some (false, ρ)
def mTOr (m n : MT) : MT := fun ρ => match m ρ with
  | none => none
  | some (true, ρ) => some (true, ρ)
  | some (false, ρ) => n ρ
theorem t_not {m : MT} (h : JT Y a m) : JT Y (.UnaryOp .Not a pos) (mTNot m) := by
  obtain ⟨t, p, s⟩ := h
  refine ⟨tNot t, fun j => pt_not (p j), fun c σ ρ T H Q re q => s c σ ρ T H _ re ?_⟩
  unfold mTNot at q
  cases hm : m ρ with
  | none =>
    rw [hm] at q
    exact q
  | some z =>
    rw [hm] at q
    exact q
/-- chains of and, or: PW -/
def JW (Y : Fam) (e : Expr) (m : MT) : Prop := ∃ t, (∀ i, PW (Y.X i) e t) ∧ SemT Y.K t m
theorem JW.jt {m : MT} (h : JW Y e m) : JT Y e m := by
  obtain ⟨t, p, s⟩ := h
  exact ⟨t, fun i => (p i).pt, s⟩
theorem w_and1 {m : MT} (h : JT Y a m) : JW Y (.BoolOp .And [a] pos) m := by
  obtain ⟨t, p, s⟩ := h
  exact ⟨t, fun i => pw_and1 (p i), s⟩
theorem w_or1 {m : MT} (h : JT Y a m) : JW Y (.BoolOp .Or [a] pos) m := by
  obtain ⟨t, p, s⟩ := h
  exact ⟨t, fun i => pw_or1 (p i), s⟩
theorem sem_and {K : PySem.W.Frag} {t u : TT} {m n : MT} (s : SemT K t m) (s' : SemT K u n) : SemT K (tAnd t u) (mTAnd m n) := fun c σ ρ T H Q re q => by
  refine s c σ ρ T H _ re ?_
  unfold mTAnd at q
  cases hm : m ρ with
  | none =>
    rw [hm] at q
    exact q
  | some z =>
    obtain ⟨k, ρ1⟩ := z
    rw [hm] at q
    cases k with
    | true =>
      intro H1 r1
      rw [if_pos rfl]
      exact s' c σ ρ1 T H1 Q r1 q
    | false =>
      intro H1 r1
      rw [if_neg Bool.false_ne_true]
      exact q H1 r1
theorem sem_or {K : PySem.W.Frag} {t u : TT} {m n : MT} (s : SemT K t m) (s' : SemT K u n) : SemT K (tOr t u) (mTOr m n) := fun c σ ρ T H Q re q => by
  refine s c σ ρ T H _ re ?_
  unfold mTOr at q
  cases hm : m ρ with
  | none =>
    rw [hm] at q
    exact q
  | some z =>
    obtain ⟨k, ρ1⟩ := z
    rw [hm] at q
    cases k with
    | true =>
      intro H1 r1
      rw [if_pos rfl]
      exact q H1 r1
    | false =>
      intro H1 r1
      rw [if_neg Bool.false_ne_true]
      exact s' c σ ρ1 T H1 Q r1 q
theorem w_and {rest : List Expr} {m n : MT} (h : JT Y a m) (g : JW Y (.BoolOp .And (b :: rest) pos) n) : JW Y (.BoolOp .And (a :: b :: rest) pos) (mTAnd m n) := by
  obtain ⟨t, p, s⟩ := h
  obtain ⟨u, p', s'⟩ := g
  exact ⟨tAnd t u, fun i => pw_and (p i) (p' i), sem_and s s'⟩
theorem w_or {rest : List Expr} {m n : MT} (h : JT Y a m) (g : JW Y (.BoolOp .Or (b :: rest) pos) n) : JW Y (.BoolOp .Or (a :: b :: rest) pos) (mTOr m n) := by
  obtain ⟨t, p, s⟩ := h
  obtain ⟨u, p', s'⟩ := g
  exact ⟨tOr t u, fun i => pw_or (p i) (p' i), sem_or s s'⟩
/-- as values: all but the last are truth values -/
def mNot (m : MV) : MV := fun ρ => match m ρ with
  | some (.bool b, ρ) => some (.bool (!b), ρ)
  | _ => none
def mAnd (m n : MV) : MV := fun ρ => match m ρ with
  | some (.bool true, ρ) => n ρ
  | some (.bool false, ρ) => some (.bool false, ρ)
  | _ => none
def mOr (m n : MV) : MV := fun ρ => match m ρ with
  | some (.bool true, ρ) => some (.bool true, ρ)
  | some (.bool false, ρ) => n ρ
  | _ => none
theorem j_not {m : MV} (h : JV Y a m) : JV Y (.UnaryOp .Not a pos) (mNot m) := by
  obtain ⟨t, p, s⟩ := h
  refine ⟨tNotV t, fun j => pe_not (p j), fun c σ ρ T H Q re q => s c σ ρ T H _ re ?_⟩
  unfold mNot at q
  split at q
  · rename_i b ρ1 e
    rw [e]
    intro v H1 r1
    have r1 : Rel Y.K c σ ρ1 ((v, .val (.bool b)) :: T) H1 := r1
    exact ⟨b, r1.boolTop, q _ H1 (r1.pop.pushB _)⟩
  · exact q.elim
theorem j_one {op : BoolOp} {m : MV} (h : JV Y a m) : JV Y (.BoolOp op [a] pos) m := by
  obtain ⟨t, p, s⟩ := h
  exact ⟨t, fun j => pe_one (p j), s⟩
theorem j_and {rest : List Expr} {m n : MV} (h : JV Y a m) (g : JV Y (.BoolOp .And (b :: rest) pos) n) : JV Y (.BoolOp .And (a :: b :: rest) pos) (mAnd m n) := by
  obtain ⟨t, p, s⟩ := h
  obtain ⟨u, p', s'⟩ := g
  refine ⟨tAndV t u, fun i => pe_and (p i) (p' i), fun c σ ρ T H Q re q => s c σ ρ T H _ re ?_⟩
  unfold mAnd at q
  split at q
  · rename_i ρ1 e
    rw [e]
    intro v H1 r1
    have r1 : Rel Y.K c σ ρ1 ((v, .val (.bool true)) :: T) H1 := r1
    refine ⟨true, r1.boolTop, ?_⟩
    rw [if_pos rfl]
    exact s' c σ ρ1 T H1 Q r1.pop q
  · rename_i ρ1 e
    rw [e]
    intro v H1 r1
    have r1 : Rel Y.K c σ ρ1 ((v, .val (.bool false)) :: T) H1 := r1
    refine ⟨false, r1.boolTop, ?_⟩
    rw [if_neg Bool.false_ne_true]
    exact q _ H1 (r1.pop.pushB _)
  · exact q.elim
theorem j_or {rest : List Expr} {m n : MV} (h : JV Y a m) (g : JV Y (.BoolOp .Or (b :: rest) pos) n) : JV Y (.BoolOp .Or (a :: b :: rest) pos) (mOr m n) := by
  obtain ⟨t, p, s⟩ := h
  obtain ⟨u, p', s'⟩ := g
  refine ⟨tOrV t u, fun i => pe_or (p i) (p' i), fun c σ ρ T H Q re q => s c σ ρ T H _ re ?_⟩
  unfold mOr at q
  split at q
  · rename_i ρ1 e
    rw [e]
    intro v H1 r1
    have r1 : Rel Y.K c σ ρ1 ((v, .val (.bool true)) :: T) H1 := r1
    refine ⟨true, r1.boolTop, ?_⟩
    rw [if_pos rfl]
    exact q _ H1 (r1.pop.pushB _)
  · rename_i ρ1 e
    rw [e]
    intro v H1 r1
    have r1 : Rel Y.K c σ ρ1 ((v, .val (.bool false)) :: T) H1 := r1
    refine ⟨false, r1.boolTop, ?_⟩
    rw [if_neg Bool.false_ne_true]
    exact s' c σ ρ1 T H1 Q r1.pop q
  · exact q.elim
def mIf {α : Type} (t : MT) (m n : En → Option α) : En → Option α := fun ρ => match t ρ with
  | none => none
  | some (true, ρ) => m ρ
  | some (false, ρ) => n ρ
theorem j_ifO {t : MT} {m n : MO} (hc : JT Y c0 t) (ha : JO Y a m) (hb : JO Y b n) : JO Y (.IfExp c0 a b pos) (mIf t m n) := by
  obtain ⟨tt, p, s⟩ := hc
  obtain ⟨ta, pa, sa⟩ := ha
  obtain ⟨tb, pb, sb⟩ := hb
  refine ⟨tIf tt ta tb, fun i => pe_ifExp (p i) (pa i) (pb i), fun c σ ρ T H Q re q => s c σ ρ T H _ re ?_⟩
  unfold mIf at q
  cases hm : t ρ with
  | none =>
    rw [hm] at q
    exact q
  | some z =>
    obtain ⟨k, ρ1⟩ := z
    rw [hm] at q
    cases k with
    | true =>
      intro H1 r1
      rw [if_pos rfl]
      exact sa c σ ρ1 T H1 Q r1 q
    | false =>
      intro H1 r1
      rw [if_neg Bool.false_ne_true]
      exact sb c σ ρ1 T H1 Q r1 q
theorem j_if {t : MT} {m n : MV} (hc : JT Y c0 t) (ha : JV Y a m) (hb : JV Y b n) : JV Y (.IfExp c0 a b pos) (mIf t m n) := by
  obtain ⟨tt, p, s⟩ := hc
  obtain ⟨ta, pa, sa⟩ := ha
  obtain ⟨tb, pb, sb⟩ := hb
  refine ⟨tIf tt ta tb, fun i => pe_ifExp (p i) (pa i) (pb i), fun c σ ρ T H Q re q => s c σ ρ T H _ re ?_⟩
  unfold mIf at q
  cases hm : t ρ with
  | none =>
    rw [hm] at q
    exact q
  | some z =>
    obtain ⟨k, ρ1⟩ := z
    rw [hm] at q
    cases k with
    | true =>
      intro H1 r1
      rw [if_pos rfl]
      exact sa c σ ρ1 T H1 Q r1 q
    | false =>
      intro H1 r1
      rw [if_neg Bool.false_ne_true]
      exact sb c σ ρ1 T H1 Q r1 q
/-! ### a < b < c -/
def mChain (g g' : PyData → PyData → Option PyData) (ma mb mc : MV) : MV := fun ρ => match ma ρ with
  | none => none
  | some (x, ρ) => match mb ρ with
    | none => none
    | some (y, ρ) => match g x y with
      | some (.bool false) => some (.bool false, ρ)
      | some (.bool true) => match mc ρ with
        | none => none
        | some (z, ρ) => (g' y z).map fun r => (r, ρ)
      | _ => none
theorem sem_chain {op op' : CmpOp} {g g' : PyData → PyData → Option PyData} {r r' : R2} {ta tb tc : TE} {ma mb mc : MV}
    (s : ∀ (c : Ct) (σ : L2.St) (ρ : En) (T : Tm) (H : Hp) (x y : V) (dx dy z : PyData) (Q : VK), Rel Y.K c σ ρ ((y, .val dy) :: (x, .val dx) :: T) H → g dx dy = some z → (∀ v H', Rel Y.K c σ ρ ((v, .val z) :: T) H' → Q v H') → r x y H Q)
    (s' : ∀ (c : Ct) (σ : L2.St) (ρ : En) (T : Tm) (H : Hp) (x y : V) (dx dy z : PyData) (Q : VK), Rel Y.K c σ ρ ((y, .val dy) :: (x, .val dx) :: T) H → g' dx dy = some z → (∀ v H', Rel Y.K c σ ρ ((v, .val z) :: T) H' → Q v H') → r' x y H Q)
    (sa : SemV Y.K ta ma) (sb : SemV Y.K tb mb) (sc : SemV Y.K tc mc) : SemV Y.K (tChain r r' ta tb tc) (mChain g g' ma mb mc) := fun c σ ρ T H Q re q => by
  unfold mChain at q
  split at q
  · exact q.elim
  · rename_i x ρ1 e1
    split at q
    · exact q.elim
    · rename_i y ρ2 e2
      split at q
      · rename_i e3
        refine sem_bin sa sb re ⟨x, ρ1, y, ρ2, e1, e2, fun vx vy H2 r2 => s c σ ρ2 T H2 vx vy x y _ _ r2 e3 fun v H3 r3 => ?_⟩
        refine ⟨false, r3.boolTop, ?_⟩
        rw [if_neg Bool.false_ne_true]
        exact q _ H3 (r3.pop.pushB _)
      · rename_i e3
        split at q
        · exact q.elim
        · rename_i z ρ3 e4
          cases hg : g' y z with
          | none =>
            rw [hg] at q
            exact q.elim
          | some w =>
            rw [hg] at q
            refine sem_bin sa sb re ⟨x, ρ1, y, ρ2, e1, e2, fun vx vy H2 r2 => ?_⟩
            have r2' : Rel Y.K c σ ρ2 ((vy, .val y) :: (vx, .val x) :: (vy, .val y) :: T) H2 := by
              obtain ⟨F, fp, f⟩ := r2
              have hy := f.top
              have f1 := f.popV
              have hx := f1.top
              exact ⟨F, fp, ((f1.popV.push hy).push hx).push hy⟩
            refine s c σ ρ2 _ H2 vx vy x y _ _ r2' e3 fun v H3 r3 => ⟨true, r3.boolTop, ?_⟩
            rw [if_pos rfl]
            refine sc c σ ρ2 _ H3 _ r3.pop ?_
            rw [e4]
            exact fun vz H4 r4 => s' c σ ρ3 T H4 vy vz y z w Q r4 hg q
      · exact q.elim
theorem j_chain {op op' : CmpOp} {g g' : PyData → PyData → Option PyData} {ma mb mc : MV} (ho : OpJ Y (compareOp op) g) (ho' : OpJ Y (compareOp op') g') (ha : JV Y a ma) (hb : JV Y b mb) (hc : JV Y c0 mc)
    (hm : lastMarks [op, op'] [b, c0] = false := by with_unfolding_all rfl) : JV Y (.Compare a [op, op'] [b, c0] pos) (mChain g g' ma mb mc) := by
  obtain ⟨r, o, s⟩ := ho
  obtain ⟨r', o', s'⟩ := ho'
  obtain ⟨ta, pa, sa⟩ := ha
  obtain ⟨tb, pb, sb⟩ := hb
  obtain ⟨tc, pc, sc⟩ := hc
  exact ⟨tChain r r' ta tb tc, fun j => pe_chain (o j) (o' j) (pa j) (pb j) (pc j) hm, sem_chain (op := op) (op' := op') s s' sa sb sc⟩
theorem t_chain {op op' : CmpOp} {g g' : PyData → PyData → Option PyData} {ma mb mc : MV} (ho : OpJ Y (compareOp op) g) (ho' : OpJ Y (compareOp op') g') (ha : JV Y a ma) (hb : JV Y b mb) (hc : JV Y c0 mc)
    (hm : lastMarks [op, op'] [b, c0] = false := by with_unfolding_all rfl) : JT Y (.Compare a [op, op'] [b, c0] pos) (mTest (mChain g g' ma mb mc)) := by
  obtain ⟨r, o, s⟩ := ho
  obtain ⟨r', o', s'⟩ := ho'
  obtain ⟨ta, pa, sa⟩ := ha
  obtain ⟨tb, pb, sb⟩ := hb
  obtain ⟨tc, pc, sc⟩ := hc
  refine ⟨_, fun j => pt_chain (o j) (o' j) (pa j) (pb j) (pc j) hm, fun c σ ρ T H Q re q => ?_⟩
  obtain ⟨b0, ρ2, e, q⟩ := test_inv q
  refine sem_chain (op := op) (op' := op') s s' sa sb sc c σ ρ T H _ re ?_
  rw [e]
  exact fun v H1 r1 => ⟨b0, r1.boolTop, q H1 r1.pop⟩
end
end Fj

set_option Elab.async false
set_option linter.all false
set_option maxRecDepth 100000
set_option maxHeartbeats 4000000
set_option autoImplicit false
/-! Operators on data, displays, places and parts of sequences, calls of built-ins. -/
namespace Fj
open PySem PySem.Spec PyProof.Rows L2

/-! ### values of temporaries -/
section
variable {K : PySem.W.Frag} {c : Ct} {σ : L2.St} {ρ : En} {T : Tm} {H F : Hp} {fp : List Addr} {v : V} {x y : V} {dx dy : PyData}
theorem RelF.two (r : RelF K c σ ρ ((y, .val dy) :: (x, .val dx) :: T) H F fp) : Rp K H x dx ∧ Rp K H y dy := ⟨r.popV.top.mono r.fh, r.top.mono r.fh⟩
theorem Rel.two (r : Rel K c σ ρ ((y, .val dy) :: (x, .val dx) :: T) H) : Rp K H x dx ∧ Rp K H y dy := let ⟨_, _, f⟩ := r; f.two
theorem Rel.top (r : Rel K c σ ρ ((x, .val dx) :: T) H) : Rp K H x dx := let ⟨_, _, f⟩ := r; f.top.mono f.fh
theorem Rel.pop2 {p q : V × Ent} (r : Rel K c σ ρ (p :: q :: T) H) : Rel K c σ ρ T H := Rel.pop (v := q.1) (e := q.2) (Rel.pop (v := p.1) (e := p.2) r)
/-- the whole numbers of a row of data -/
def intsD : List PyData → Option (List Int)
  | [] => some []
  | .int i :: r => (intsD r).map fun l => i :: l
  | _ => none
theorem intsD_eq : ∀ {ds : List PyData} {ns : List Int}, intsD ds = some ns → ds = ns.map PyData.int
  | [], ns, h => by
    cases h
    rfl
  | d :: r, ns, h => by
    cases d with
    | int i =>
      simp only [intsD, Option.map_eq_some_iff] at h
      obtain ⟨l, h1, rfl⟩ := h
      rw [intsD_eq h1]
      rfl
    | _ => simp [intsD] at h
theorem intsD_map : ∀ ns : List Int, intsD (ns.map PyData.int) = some ns
  | [] => rfl
  | n :: ns => by simp only [List.map_cons, intsD, intsD_map ns, Option.map_some]
theorem Rps.nums {vs : List V} : ∀ {ns : List Int}, Rps K F vs (ns.map PyData.int) → vs = ns.map V.int := by
  intro ns
  induction ns generalizing vs with
  | nil =>
    intro h
    cases h
    rfl
  | cons n ns ih =>
    intro h
    cases h with
    | cons r t =>
      cases r
      rw [ih t]
      rfl
theorem Rps.ofInts : ∀ {ns : List Int}, Rps K F (ns.map V.int) (ns.map PyData.int)
  | [] => .nil
  | n :: ns => .cons (.int n) Rps.ofInts
/-- the texts of a row of data -/
def strsD : List PyData → Option (List Str)
  | [] => some []
  | .str i :: r => (strsD r).map fun l => i :: l
  | _ => none
theorem strsD_eq : ∀ {ds : List PyData} {ns : List Str}, strsD ds = some ns → ds = ns.map PyData.str
  | [], ns, h => by
    cases h
    rfl
  | d :: r, ns, h => by
    cases d with
    | str i =>
      simp only [strsD, Option.map_eq_some_iff] at h
      obtain ⟨l, h1, rfl⟩ := h
      rw [strsD_eq h1]
      rfl
    | _ => simp [strsD] at h
theorem strsD_map : ∀ ns : List Str, strsD (ns.map PyData.str) = some ns
  | [] => rfl
  | n :: ns => by simp only [List.map_cons, strsD, strsD_map ns, Option.map_some]
theorem Rps.texts {vs : List V} : ∀ {ns : List Str}, Rps K F vs (ns.map PyData.str) → vs = ns.map V.str := by
  intro ns
  induction ns generalizing vs with
  | nil =>
    intro h
    cases h
    rfl
  | cons n ns ih =>
    intro h
    cases h with
    | cons r t =>
      cases r
      rw [ih t]
      rfl
theorem Rps.ofTexts : ∀ {ns : List Str}, Rps K F (ns.map V.str) (ns.map PyData.str)
  | [] => .nil
  | n :: ns => .cons (.str n) Rps.ofTexts
def boolsD : List PyData → Option (List Bool)
  | [] => some []
  | .bool i :: r => (boolsD r).map fun l => i :: l
  | _ => none
theorem boolsD_eq : ∀ {ds : List PyData} {ns : List Bool}, boolsD ds = some ns → ds = ns.map PyData.bool
  | [], ns, h => by
    cases h
    rfl
  | d :: r, ns, h => by
    cases d with
    | bool i =>
      simp only [boolsD, Option.map_eq_some_iff] at h
      obtain ⟨l, h1, rfl⟩ := h
      rw [boolsD_eq h1]
      rfl
    | _ => simp [boolsD] at h
theorem boolsD_map : ∀ ns : List Bool, boolsD (ns.map PyData.bool) = some ns
  | [] => rfl
  | n :: ns => by simp only [List.map_cons, boolsD, boolsD_map ns, Option.map_some]
theorem Rps.bools {vs : List V} : ∀ {ns : List Bool}, Rps K F vs (ns.map PyData.bool) → vs = ns.map V.bl := by
  intro ns
  induction ns generalizing vs with
  | nil =>
    intro h
    cases h
    rfl
  | cons n ns ih =>
    intro h
    cases h with
    | cons r t =>
      cases r
      rw [ih t]
      rfl
end

theorem sz5 {n : Nat} (h : n ≤ 100000) : n ≤ sizeLine := Nat.le_trans h (by decide)
theorem sz5l {n : Nat} (h : n < 100000) : n < sizeLine := Nat.lt_of_lt_of_le h (by decide)
/-! ### arithmetic -/
section
variable {Y : Fam}
def gI (C : Int → Int → Bool) (g : Int → Int → Int) : PyData → PyData → Option PyData
  | .int i, .int j => if C i j = true then some (.int (g i j)) else none
  | _, _ => none
theorem opj_I {f : Value → Value → Sem Value} {D : Int → Int → Prop} {C : Int → Int → Bool} {g : Int → Int → Int} (h : ∀ j, OpR (Y.X j) f (rI D fun i j => .int (g i j))) (hc : ∀ i j, C i j = true → D i j) : OpJ Y f (gI C g) := by
  refine ⟨_, h, fun c σ ρ T H x y dx dy z Q r e q => ?_⟩
  unfold gI at e
  split at e
  · rename_i i j
    split at e
    · rename_i hC
      cases e
      have hy := r.intTop
      have hx := r.pop.intTop
      subst hx hy
      exact ⟨i, j, rfl, rfl, hc i j hC, q _ H (r.pop2.pushI _)⟩
    · cases e
  · cases e
theorem opj_I0 {f : Value → Value → Sem Value} {g : Int → Int → Int} (h : ∀ j, OpR (Y.X j) f (rI0 fun i j => .int (g i j))) : OpJ Y f (gI (fun _ _ => true) g) := by
  refine ⟨_, h, fun c σ ρ T H x y dx dy z Q r e q => ?_⟩
  unfold gI at e
  split at e
  · rename_i i j
    rw [if_pos rfl] at e
    cases e
    have hy := r.intTop
    have hx := r.pop.intTop
    subst hx hy
    exact ⟨i, j, rfl, rfl, q _ H (r.pop2.pushI _)⟩
  · cases e
def gB (g : Int → Int → Bool) : PyData → PyData → Option PyData
  | .int i, .int j => some (.bool (g i j))
  | _, _ => none
theorem opj_B {f : Value → Value → Sem Value} {g : Int → Int → Bool} (h : ∀ j, OpR (Y.X j) f (rI0 fun i j => .bl (g i j))) : OpJ Y f (gB g) := by
  refine ⟨_, h, fun c σ ρ T H x y dx dy z Q r e q => ?_⟩
  unfold gB at e
  split at e
  · rename_i i j
    cases e
    have hy := r.intTop
    have hx := r.pop.intTop
    subst hx hy
    exact ⟨i, j, rfl, rfl, q _ H (r.pop2.pushB _)⟩
  · cases e
/-- texts together -/
def gAddS : PyData → PyData → Option PyData
  | .str x, .str y => if x.length + y.length ≤ 100000 then some (.str (x ++ y)) else none
  | _, _ => none
theorem opj_addS : OpJ Y (binaryOp .Add) gAddS := by
  refine ⟨_, fun j => op_add_str, fun c σ ρ T H x y dx dy z Q r e q => ?_⟩
  unfold gAddS at e
  split at e
  · rename_i i j
    split at e
    · rename_i hC
      cases e
      have hy := r.strTop
      have hx := r.pop.strTop
      subst hx hy
      exact ⟨i, j, rfl, rfl, sz5 hC, q _ H (r.pop2.pushS _)⟩
    · cases e
  · cases e
/-- tuples together -/
def gAddT : PyData → PyData → Option PyData
  | .tuple xs, .tuple ys => if xs.length + ys.length ≤ 100000 then some (.tuple (xs ++ ys)) else none
  | _, _ => none
theorem opj_addT : OpJ Y (binaryOp .Add) gAddT := by
  refine ⟨rCatA Y.K, fun j => by rw [← Y.hK j]; exact op_catA, fun c σ ρ T H x y dx dy z Q r e q => ?_⟩
  unfold gAddT at e
  split at e
  · rename_i xs ys
    split at e
    · rename_i hC
      cases e
      obtain ⟨F, fp, f⟩ := r
      have hy := f.top
      have hx := f.popV.top
      cases hx with
      | @tup a vs _ ha ra =>
        cases hy with
        | @tup b ws _ hb rb =>
          have la := ra.length
          have lb := rb.length
          have r0 : Rel Y.K c σ ρ T H := ⟨F, fp, f.popV.popV⟩
          refine ⟨a, b, vs, ws, rfl, rfl, same_tup f.fh ha, same_tup f.fh hb, sz5 (by omega), fun z => ?_, fun z1 z2 => ?_, fun z1 z2 p hp => ?_⟩
          · have : xs = [] := List.eq_nil_of_length_eq_zero (by rw [← la, z]; rfl)
            subst this
            exact q _ H ⟨F, fp, f.popV.popV.push (.tup hb rb)⟩
          · have : ys = [] := List.eq_nil_of_length_eq_zero (by rw [← lb, z2]; rfl)
            subst this
            rw [List.append_nil] at q
            exact q _ H ⟨F, fp, f.popV.popV.push (.tup ha ra)⟩
          · exact q _ _ (f.popV.popV.tupNew hp (ra.app rb))
    · cases e
  · cases e

/-! ### comparisons -/
def gAddL : PyData → PyData → Option PyData
  | .list xs, .list ys => if xs.length + ys.length ≤ 100000 then some (.list (xs ++ ys)) else none
  | _, _ => none
theorem opj_addL : OpJ Y (binaryOp .Add) gAddL := by
  refine ⟨rCat, fun j => op_cat, fun c σ ρ T H x y dx dy z Q r e q => ?_⟩
  unfold gAddL at e
  split at e
  · rename_i xs ys
    split at e
    · rename_i hC
      cases e
      obtain ⟨F, fp, f⟩ := r
      have hy := f.top
      have hx := f.popV.top
      cases hx with
      | @lst a vs _ ha ra =>
        cases hy with
        | @lst b ws _ hb rb =>
          have la := ra.length
          have lb := rb.length
          exact ⟨a, b, vs, ws, rfl, rfl, f.fh _ _ ha, f.fh _ _ hb, sz5 (by omega), fun p hp => q _ _ (f.popV.popV.lstNew hp (ra.app rb)).freeze⟩
    · cases e
  · cases e
def repD (n : Nat) (ds : List PyData) : List PyData := (List.replicate n ds).flatten
theorem rps_rep {K : PySem.W.Frag} {F : Hp} {vs : List V} {ds : List PyData} (r : Rps K F vs ds) : ∀ n : Nat, Rps K F (List.replicate n vs).flatten (repD n ds)
  | 0 => .nil
  | n + 1 => by
    unfold repD
    rw [List.replicate_succ, List.replicate_succ, List.flatten_cons, List.flatten_cons]
    exact r.app (rps_rep r n)
def gMulL : PyData → PyData → Option PyData
  | .list xs, .int k => if -1000000 ≤ k ∧ k ≤ 100000 ∧ xs.length * k.toNat ≤ 100000 then some (.list (repD k.toNat xs)) else none
  | .tuple xs, .int k => if 2 ≤ k ∧ k ≤ 1000 ∧ xs.length ≤ 1000 ∧ 1 ≤ xs.length then some (.tuple (repD k.toNat xs)) else none
  | _, _ => none
theorem opj_mulL : OpJ Y (binaryOp .Mult) gMulL := by
  refine ⟨fun x y H Q => rRep x y H Q ∨ rRepT Y.K x y H Q, fun j => by rw [← Y.hK j]; exact OpR.or op_rep op_repT, fun c σ ρ T H x y dx dy z Q r e q => ?_⟩
  unfold gMulL at e
  split at e
  · rename_i xs k
    split at e
    · rename_i hC
      cases e
      obtain ⟨F, fp, f⟩ := r
      have hy := f.top
      have hx := f.popV.top
      cases hy
      cases hx with
      | @lst a vs _ ha ra =>
        have la := ra.length
        refine .inl ⟨a, k, vs, rfl, rfl, f.fh _ _ ha, by omega, by omega, sz5 (by rw [la]; exact hC.2.2), fun p hp => q _ _ (f.popV.popV.lstNew hp (rps_rep ra _)).freeze⟩
    · cases e
  · rename_i xs k
    split at e
    · rename_i hC
      cases e
      obtain ⟨F, fp, f⟩ := r
      have hy := f.top
      have hx := f.popV.top
      cases hy
      cases hx with
      | @tup a vs _ ha ra =>
        have la := ra.length
        have hne : vs ≠ [] := by
          intro z
          rw [z] at la
          have := hC.2.2.2
          rw [← la] at this
          cases this
        refine .inr ⟨a, k, vs, rfl, rfl, same_tup f.fh ha, hne, hC.1, hC.2.1, by rw [la]; exact hC.2.2.1, fun p hp => q _ _ (f.popV.popV.tupNew hp (rps_rep ra _))⟩
    · cases e
  · cases e
def isND : PyData → Bool
  | .none => true
  | _ => false
theorem Rp.shape {K : PySem.W.Frag} {F : Hp} {v : V} {d : PyData} (h : Rp K F v d) : (decide (v = .non)) = isND d := by
  cases h <;> rfl
def gEqD : PyData → PyData → Option PyData := fun x y => if SeqAt.shaped x && SeqAt.shaped y then some (.bool (PyData.eqv x y)) else none
def gNeD : PyData → PyData → Option PyData := fun x y => if SeqAt.shaped x && SeqAt.shaped y then some (.bool (!PyData.eqv x y)) else none
def gEqS : PyData → PyData → Option PyData
  | .str x, .str y => some (.bool (decide (x = y)))
  | _, _ => none
def gNeS : PyData → PyData → Option PyData
  | .str x, .str y => some (.bool (!decide (x = y)))
  | _, _ => none
theorem dec_strs {x y : Str} : decide (V.str x = V.str y) = decide (x = y) := by
  by_cases h : x = y
  · rw [decide_eq_true h, decide_eq_true (congrArg V.str h)]
  · rw [decide_eq_false h, decide_eq_false fun z => h (V.str.inj z)]
theorem opj_eqS : OpJ Y (compareOp .Eq) gEqS := by
  refine ⟨rEq, fun j => op_eq, fun c σ ρ T H x y dx dy z Q r e q => ?_⟩
  unfold gEqS at e
  split at e
  · cases e
    obtain ⟨h1, h2⟩ := r.two
    cases h1
    cases h2
    refine ⟨rfl, ?_⟩
    rw [dec_strs]
    exact q _ H (r.pop2.pushB _)
  · cases e
theorem opj_neS : OpJ Y (compareOp .NotEq) gNeS := by
  refine ⟨rNe, fun j => op_ne, fun c σ ρ T H x y dx dy z Q r e q => ?_⟩
  unfold gNeS at e
  split at e
  · cases e
    obtain ⟨h1, h2⟩ := r.two
    cases h1
    cases h2
    refine ⟨rfl, ?_⟩
    rw [dec_strs]
    exact q _ H (r.pop2.pushB _)
  · cases e
theorem opj_eq : OpJ Y (compareOp .Eq) gEqD := by
  refine ⟨rEqD Y.K, fun j => by rw [← Y.hK j]; exact op_eqD (Y.room j).units, fun c σ ρ T H x y dx dy z Q r e q => ?_⟩
  unfold gEqD at e
  split at e
  · rename_i hs
    cases e
    obtain ⟨s1, s2⟩ := Bool.and_eq_true_iff.mp hs
    obtain ⟨h1, h2⟩ := r.two
    exact ⟨dx, dy, h1.dp (SeqAt.canLay_of_shaped s1), h2.dp (SeqAt.canLay_of_shaped s2), s1, s2, q _ H (r.pop2.pushB _)⟩
  · cases e
theorem opj_ne : OpJ Y (compareOp .NotEq) gNeD := by
  refine ⟨rNeD Y.K, fun j => by rw [← Y.hK j]; exact op_neD (Y.room j).units, fun c σ ρ T H x y dx dy z Q r e q => ?_⟩
  unfold gNeD at e
  split at e
  · rename_i hs
    cases e
    obtain ⟨s1, s2⟩ := Bool.and_eq_true_iff.mp hs
    obtain ⟨h1, h2⟩ := r.two
    exact ⟨dx, dy, h1.dp (SeqAt.canLay_of_shaped s1), h2.dp (SeqAt.canLay_of_shaped s2), s1, s2, q _ H (r.pop2.pushB _)⟩
  · cases e
def gIsN : PyData → PyData → Option PyData
  | d, .none => some (.bool (isND d))
  | _, _ => none
def gNotN : PyData → PyData → Option PyData
  | d, .none => some (.bool (!(isND d)))
  | _, _ => none
theorem opj_isN : OpJ Y (compareOp .Is) gIsN := by
  refine ⟨_, fun j => op_isN, fun c σ ρ T H x y dx dy z Q r e q => ?_⟩
  unfold gIsN at e
  split at e
  · cases e
    refine ⟨r.nonTop, ?_⟩
    rw [r.two.1.shape]
    exact q _ H (r.pop2.pushB _)
  · cases e
theorem opj_notN : OpJ Y (compareOp .IsNot) gNotN := by
  refine ⟨_, fun j => op_notN, fun c σ ρ T H x y dx dy z Q r e q => ?_⟩
  unfold gNotN at e
  split at e
  · cases e
    refine ⟨r.nonTop, ?_⟩
    rw [r.two.1.shape]
    exact q _ H (r.pop2.pushB _)
  · cases e
def gIsB : PyData → PyData → Option PyData
  | .bool a, .bool b => some (.bool (decide (a = b)))
  | _, _ => none
def gNotB : PyData → PyData → Option PyData
  | .bool a, .bool b => some (.bool (!decide (a = b)))
  | _, _ => none
theorem opj_isB : OpJ Y (compareOp .Is) gIsB := by
  refine ⟨_, fun j => op_is_bl, fun c σ ρ T H x y dx dy z Q r e q => ?_⟩
  unfold gIsB at e
  split at e
  · cases e
    have hy := r.boolTop
    have hx := r.pop.boolTop
    subst hx hy
    exact ⟨_, _, rfl, rfl, q _ H (r.pop2.pushB _)⟩
  · cases e
theorem opj_notB : OpJ Y (compareOp .IsNot) gNotB := by
  refine ⟨_, fun j => op_isnot_bl, fun c σ ρ T H x y dx dy z Q r e q => ?_⟩
  unfold gNotB at e
  split at e
  · cases e
    have hy := r.boolTop
    have hx := r.pop.boolTop
    subst hx hy
    exact ⟨_, _, rfl, rfl, q _ H (r.pop2.pushB _)⟩
  · cases e
/-- is True, is False of what is no bool -/
def gIsX : PyData → PyData → Option PyData
  | .none, .bool _ => some (.bool false)
  | .int _, .bool _ => some (.bool false)
  | .str _, .bool _ => some (.bool false)
  | .list _, .bool _ => some (.bool false)
  | .tuple _, .bool _ => some (.bool false)
  | _, _ => none
def gNotX : PyData → PyData → Option PyData
  | .none, .bool _ => some (.bool true)
  | .int _, .bool _ => some (.bool true)
  | .str _, .bool _ => some (.bool true)
  | .list _, .bool _ => some (.bool true)
  | .tuple _, .bool _ => some (.bool true)
  | _, _ => none
def noB (x : V) : Prop := x = .non ∨ (∃ i, x = .int i) ∨ (∃ z, x = .str z) ∨ ∃ a, x = .ref a
theorem op_isX {X : Cx} : OpR X (compareOp .Is) (fun x y H Q => ∃ b, y = .bl b ∧ noB x ∧ Q (.bl false) H) := by
  intro pins s σ H x y v u Q I rx ry h
  obtain ⟨b, rfl, hx, q⟩ := h
  cases (show u = Value.bool b from ry)
  rcases hx with rfl | ⟨i, rfl⟩ | ⟨z, rfl⟩ | ⟨a, rfl⟩
  · cases (show v = Value.none from rx)
    exact wpAny_is_other rfl (fun z => by cases z) ⟨.bl false, H, I, rfl, q⟩
  · obtain ⟨t, rfl⟩ := (show ∃ t, v = Value.int i t from rx)
    exact wpAny_is_other rfl (fun z => by cases z) ⟨.bl false, H, I, rfl, q⟩
  · obtain ⟨t, rfl⟩ := (show ∃ t, v = Value.str z t from rx)
    exact wpAny_is_other rfl (fun z => by cases z) ⟨.bl false, H, I, rfl, q⟩
  · cases (show v = Value.ref a from rx)
    exact wpAny_is_other rfl (fun z => by cases z) ⟨.bl false, H, I, rfl, q⟩
theorem op_notX {X : Cx} : OpR X (compareOp .IsNot) (fun x y H Q => ∃ b, y = .bl b ∧ noB x ∧ Q (.bl true) H) := by
  intro pins s σ H x y v u Q I rx ry h
  obtain ⟨b, rfl, hx, q⟩ := h
  cases (show u = Value.bool b from ry)
  rcases hx with rfl | ⟨i, rfl⟩ | ⟨z, rfl⟩ | ⟨a, rfl⟩
  · cases (show v = Value.none from rx)
    exact wpAny_isNot_other rfl (fun z => by cases z) ⟨.bl true, H, I, rfl, q⟩
  · obtain ⟨t, rfl⟩ := (show ∃ t, v = Value.int i t from rx)
    exact wpAny_isNot_other rfl (fun z => by cases z) ⟨.bl true, H, I, rfl, q⟩
  · obtain ⟨t, rfl⟩ := (show ∃ t, v = Value.str z t from rx)
    exact wpAny_isNot_other rfl (fun z => by cases z) ⟨.bl true, H, I, rfl, q⟩
  · cases (show v = Value.ref a from rx)
    exact wpAny_isNot_other rfl (fun z => by cases z) ⟨.bl true, H, I, rfl, q⟩
theorem opj_isX : OpJ Y (compareOp .Is) gIsX := by
  refine ⟨_, fun j => op_isX, fun c σ ρ T H x y dx dy z Q r e q => ?_⟩
  have two := r.two
  unfold gIsX at e
  split at e <;> first | (cases e; done) | skip
  all_goals
    cases e
    have hy := r.boolTop
    subst hy
    refine ⟨_, rfl, ?_, q _ H (r.pop2.pushB _)⟩
    cases two.1 <;> first | exact .inl rfl | exact .inr (.inl ⟨_, rfl⟩) | exact .inr (.inr (.inl ⟨_, rfl⟩)) | exact .inr (.inr (.inr ⟨_, rfl⟩))
theorem opj_notX : OpJ Y (compareOp .IsNot) gNotX := by
  refine ⟨_, fun j => op_notX, fun c σ ρ T H x y dx dy z Q r e q => ?_⟩
  have two := r.two
  unfold gNotX at e
  split at e <;> first | (cases e; done) | skip
  all_goals
    cases e
    have hy := r.boolTop
    subst hy
    refine ⟨_, rfl, ?_, q _ H (r.pop2.pushB _)⟩
    cases two.1 <;> first | exact .inl rfl | exact .inr (.inl ⟨_, rfl⟩) | exact .inr (.inr (.inl ⟨_, rfl⟩)) | exact .inr (.inr (.inr ⟨_, rfl⟩))
/-- the order of tuples of whole numbers -/
def gLtT : PyData → PyData → Option PyData
  | .tuple xs, .tuple ys => match intsD xs, intsD ys with
    | some ns, some ms => some (.bool (HT.lexLt ns ms))
    | _, _ => none
  | _, _ => none
def leL (ns ms : List Int) : Bool := Ob.lexAt (fun j => decide (ns.getD j 0 = ms.getD j 0)) (fun j => decide (ns.getD j 0 ≤ ms.getD j 0)) (decide (ns.length ≤ ms.length)) 0 (min ns.length ms.length)
def gLeT : PyData → PyData → Option PyData
  | .tuple xs, .tuple ys => match intsD xs, intsD ys with
    | some ns, some ms => some (.bool (leL ns ms))
    | _, _ => none
  | _, _ => none
theorem Rp.tupInts {K : PySem.W.Frag} {F : Hp} {v : V} {xs : List PyData} {ns : List Int} (h : Rp K F v (.tuple xs)) (e : intsD xs = some ns) : ∃ a, v = .ref a ∧ SqT K F a (ns.map V.int) := by
  have e2 := intsD_eq e
  subst e2
  cases h with
  | @tup a vs _ h r =>
    have e3 := r.nums
    subst e3
    exact ⟨a, rfl, h⟩
theorem opj_ltT : OpJ Y (compareOp .Lt) gLtT := by
  refine ⟨rLtT Y.K, fun j => by rw [← Y.hK j]; exact op_ltT (Y.room j).units0, fun c σ ρ T H x y dx dy z Q r e q => ?_⟩
  unfold gLtT at e
  split at e
  · split at e
    · rename_i e1 e2
      cases e
      obtain ⟨h1, h2⟩ := r.two
      obtain ⟨a, rfl, ha⟩ := h1.tupInts e1
      obtain ⟨b, rfl, hb⟩ := h2.tupInts e2
      exact ⟨a, b, _, _, rfl, rfl, ha, hb, q _ H (r.pop2.pushB _)⟩
    · cases e
  · cases e
theorem opj_leT : OpJ Y (compareOp .LtE) gLeT := by
  refine ⟨rLeT Y.K, fun j => by rw [← Y.hK j]; exact op_leT (Y.room j).units0, fun c σ ρ T H x y dx dy z Q r e q => ?_⟩
  unfold gLeT at e
  split at e
  · split at e
    · rename_i e1 e2
      cases e
      obtain ⟨h1, h2⟩ := r.two
      obtain ⟨a, rfl, ha⟩ := h1.tupInts e1
      obtain ⟨b, rfl, hb⟩ := h2.tupInts e2
      exact ⟨a, b, _, _, rfl, rfl, ha, hb, q _ H (r.pop2.pushB _)⟩
    · cases e
  · cases e
def gLtS : PyData → PyData → Option PyData
  | .str x, .str y => some (.bool (decide (x.cps.toList < y.cps.toList)))
  | _, _ => none
theorem opj_ltS : OpJ Y (compareOp .Lt) gLtS := by
  refine ⟨_, fun j => op_lt_str, fun c σ ρ T H x y dx dy z Q r e q => ?_⟩
  unfold gLtS at e
  split at e
  · cases e
    have hy := r.strTop
    have hx := r.pop.strTop
    subst hx hy
    exact ⟨_, _, rfl, rfl, q _ H (r.pop2.pushB _)⟩
  · cases e
/-- one sign in a text -/
def gInS : PyData → PyData → Option PyData
  | .str x, .str y => match x.cps.toList with
    | [k] => some (.bool (decide (k ∈ y.cps.toList)))
    | _ => none
  | _, _ => none
theorem opj_inS : OpJ Y (compareOp .In) gInS := by
  refine ⟨_, fun j => op_in_sign, fun c σ ρ T H x y dx dy z Q r e q => ?_⟩
  unfold gInS at e
  split at e
  · rename_i x0 y0
    split at e
    · rename_i k hk
      cases e
      have hy := r.strTop
      have hx := r.pop.strTop
      subst hx hy
      refine ⟨k, _, ?_, rfl, q _ H (r.pop2.pushB _)⟩
      obtain ⟨⟨l⟩⟩ := x0
      simp only at hk
      subst hk
      rfl
    · cases e
  · cases e
/-- in a row of data -/
def gInD : PyData → PyData → Option PyData
  | d, .list ds => if SeqAt.shaped d && SeqAt.shaped (.list ds) then some (.bool (ds.any fun z => PyData.eqv z d)) else none
  | d, .tuple ds => if SeqAt.shaped d && SeqAt.shaped (.tuple ds) then some (.bool (ds.any fun z => PyData.eqv z d)) else none
  | _, _ => none
def gNotInD : PyData → PyData → Option PyData
  | d, .list ds => if SeqAt.shaped d && SeqAt.shaped (.list ds) then some (.bool (!ds.any fun z => PyData.eqv z d)) else none
  | d, .tuple ds => if SeqAt.shaped d && SeqAt.shaped (.tuple ds) then some (.bool (!ds.any fun z => PyData.eqv z d)) else none
  | _, _ => none
def rInTup (K : PySem.W.Frag) (neg : Bool) : R2 := fun x y H Q => ∃ d ds, Dp K H x d ∧ Dp K H y (.tuple ds) ∧ SeqAt.shaped d = true ∧ SeqAt.shaped (.tuple ds) = true ∧ Q (.bl (if neg = true then !ds.any fun z => PyData.eqv z d else ds.any fun z => PyData.eqv z d)) H
theorem or_inTup {X : Cx} (hu : X.A.units + 65 < cLine) : OpR X (compareOp .In) (rInTup X.K false) := fun pins s σ H x y v u Q I rx ry h => by
  obtain ⟨d, ds, h1, h2, s1, s2, q⟩ := h
  obtain ⟨_, g1⟩ := Dp.reads I d x v h1 rx
  obtain ⟨_, g2⟩ := Dp.reads I (.tuple ds) y u h2 ry
  refine SeqAt.in_tuple_reads g2 g1 ?_ (SeqAt.canLay_of_shaped s1) (room_in_shaped s1 hu) ⟨.bl _, H, I, rfl, q⟩
  simpa only [PyData.canLay0] using SeqAt.canLay_of_shaped s2
theorem or_notInTup {X : Cx} (hu : X.A.units + 65 < cLine) : OpR X (compareOp .NotIn) (rInTup X.K true) := fun pins s σ H x y v u Q I rx ry h => by
  obtain ⟨d, ds, h1, h2, s1, s2, q⟩ := h
  obtain ⟨_, g1⟩ := Dp.reads I d x v h1 rx
  obtain ⟨_, g2⟩ := Dp.reads I (.tuple ds) y u h2 ry
  refine SeqAt.notIn_tuple_reads g2 g1 ?_ (SeqAt.canLay_of_shaped s1) (room_in_shaped s1 hu) ⟨.bl _, H, I, rfl, q⟩
  simpa only [PyData.canLay0] using SeqAt.canLay_of_shaped s2
theorem units65 {k : Nat} {A : Around} (r : Room k A) : A.units + 65 < cLine := by
  have := r.un
  omega
theorem opj_inD : OpJ Y (compareOp .In) gInD := by
  refine ⟨_, fun j => OpR.or (r := rInD Y.K) (r' := rInTup Y.K false) (by rw [← Y.hK j]; exact op_inD (units65 (Y.room j))) (by rw [← Y.hK j]; exact or_inTup (units65 (Y.room j))), fun c σ ρ T H x y dx dy z Q r e q => ?_⟩
  unfold gInD at e
  obtain ⟨h1, h2⟩ := r.two
  split at e
  · split at e
    · rename_i hs
      cases e
      obtain ⟨s1, s2⟩ := Bool.and_eq_true_iff.mp hs
      exact .inl ⟨_, _, h1.dp (SeqAt.canLay_of_shaped s1), h2.dp (SeqAt.canLay_of_shaped s2), s1, s2, q _ H (r.pop2.pushB _)⟩
    · cases e
  · split at e
    · rename_i hs
      cases e
      obtain ⟨s1, s2⟩ := Bool.and_eq_true_iff.mp hs
      exact .inr ⟨_, _, h1.dp (SeqAt.canLay_of_shaped s1), h2.dp (SeqAt.canLay_of_shaped s2), s1, s2, q _ H (r.pop2.pushB _)⟩
    · cases e
  · cases e
theorem opj_notInD : OpJ Y (compareOp .NotIn) gNotInD := by
  refine ⟨_, fun j => OpR.or (r := rNotInD Y.K) (r' := rInTup Y.K true) (by rw [← Y.hK j]; exact op_notInD (units65 (Y.room j))) (by rw [← Y.hK j]; exact or_notInTup (units65 (Y.room j))), fun c σ ρ T H x y dx dy z Q r e q => ?_⟩
  unfold gNotInD at e
  obtain ⟨h1, h2⟩ := r.two
  split at e
  · split at e
    · rename_i hs
      cases e
      obtain ⟨s1, s2⟩ := Bool.and_eq_true_iff.mp hs
      exact .inl ⟨_, _, h1.dp (SeqAt.canLay_of_shaped s1), h2.dp (SeqAt.canLay_of_shaped s2), s1, s2, q _ H (r.pop2.pushB _)⟩
    · cases e
  · split at e
    · rename_i hs
      cases e
      obtain ⟨s1, s2⟩ := Bool.and_eq_true_iff.mp hs
      exact .inr ⟨_, _, h1.dp (SeqAt.canLay_of_shaped s1), h2.dp (SeqAt.canLay_of_shaped s2), s1, s2, q _ H (r.pop2.pushB _)⟩
    · cases e
  · cases e
/-! ### the operators of the programs, each with all the kinds it takes -/
def gEq (x y : PyData) : Option PyData := (gEqS x y).or (gEqD x y)
def gNe (x y : PyData) : Option PyData := (gNeS x y).or (gNeD x y)
def gMulC (i j : Int) : Bool := decide (i.natAbs.log2 + j.natAbs.log2 < 1000000)
def gDivC (_ j : Int) : Bool := decide (0 < j) && decide (j.natAbs.log2 < 9000)
def gModC (_ j : Int) : Bool := decide (0 < j)
def gPowC (i j : Int) : Bool := decide (0 ≤ j) && decide (j ≤ 1000000) && decide (i.natAbs < 2 ^ 64)
def gAdd (x y : PyData) : Option PyData := (gI (fun _ _ => true) (fun i j => i + j) x y).or ((gAddS x y).or ((gAddT x y).or (gAddL x y)))
def gSub := gI (fun _ _ => true) (fun i j => i - j)
def gMulI := gI gMulC (fun i j => i * j)
def gMul (x y : PyData) : Option PyData := (gMulI x y).or (gMulL x y)
def gDiv := gI gDivC (fun i j => i / j)
def gMod := gI gModC (fun i j => i % j)
def gPow := gI gPowC (fun i j => i ^ j.toNat)
def gLt (x y : PyData) : Option PyData := (gB (fun i j => decide (i < j)) x y).or ((gLtS x y).or (gLtT x y))
def gLe (x y : PyData) : Option PyData := (gB (fun i j => decide (i ≤ j)) x y).or (gLeT x y)
def gGt := gB (fun i j => decide (j < i))
def gGe := gB (fun i j => decide (j ≤ i))
def gIn (x y : PyData) : Option PyData := (gInD x y).or (gInS x y)
def gIs (x y : PyData) : Option PyData := (gIsN x y).or ((gIsB x y).or (gIsX x y))
def gNot (x y : PyData) : Option PyData := (gNotN x y).or ((gNotB x y).or (gNotX x y))
theorem o_add : OpJ Y (binaryOp .Add) gAdd := (opj_I0 fun _ => op_add).or (opj_addS.or (opj_addT.or opj_addL))
theorem o_sub : OpJ Y (binaryOp .Sub) gSub := opj_I0 fun _ => op_sub
theorem o_mul : OpJ Y (binaryOp .Mult) gMul := OpJ.or (opj_I (fun _ => op_mulW) fun i j h => (of_decide_eq_true h : i.natAbs.log2 + j.natAbs.log2 < 1000000)) opj_mulL
theorem o_div : OpJ Y (binaryOp .FloorDiv) gDiv := opj_I (fun _ => op_fdivW) fun i j h => by
  obtain ⟨a, b⟩ := Bool.and_eq_true_iff.mp h
  exact ⟨of_decide_eq_true a, of_decide_eq_true b⟩
theorem o_mod : OpJ Y (binaryOp .Mod) gMod := opj_I (fun _ => op_mod) fun i j h => of_decide_eq_true h
theorem o_pow : OpJ Y (binaryOp .Pow) gPow := opj_I (fun _ => op_pow) fun i j h => by
  obtain ⟨ab, c⟩ := Bool.and_eq_true_iff.mp h
  obtain ⟨a, b⟩ := Bool.and_eq_true_iff.mp ab
  exact ⟨of_decide_eq_true a, of_decide_eq_true b, of_decide_eq_true c⟩
theorem o_lt : OpJ Y (compareOp .Lt) gLt := (opj_B fun _ => op_lt).or (opj_ltS.or opj_ltT)
theorem o_le : OpJ Y (compareOp .LtE) gLe := (opj_B fun _ => op_le).or opj_leT
theorem o_gt : OpJ Y (compareOp .Gt) gGt := opj_B fun _ => op_gt
theorem o_ge : OpJ Y (compareOp .GtE) gGe := opj_B fun _ => op_ge
theorem o_eq : OpJ Y (compareOp .Eq) gEq := opj_eqS.or opj_eq
theorem o_ne : OpJ Y (compareOp .NotEq) gNe := opj_neS.or opj_ne
theorem o_in : OpJ Y (compareOp .In) gIn := opj_inD.or opj_inS
theorem o_notIn : OpJ Y (compareOp .NotIn) gNotInD := opj_notInD
theorem o_is : OpJ Y (compareOp .Is) gIs := opj_isN.or (opj_isB.or opj_isX)
theorem o_isNot : OpJ Y (compareOp .IsNot) gNot := opj_notN.or (opj_notB.or opj_notX)
end
end Fj

set_option Elab.async false
set_option linter.all false
set_option maxRecDepth 100000
set_option maxHeartbeats 4000000
set_option autoImplicit false
/-! Rows of arguments, displays, places, parts, built-ins. -/
namespace Fj
open PySem PySem.Spec PyProof.Rows L2

def tms : List V → List PyData → Tm
  | v :: vs, d :: ds => tms vs ds ++ [(v, .val d)]
  | _, _ => []
abbrev MA := En → Option (List PyData × En)
def PostA (K : PySem.W.Frag) (c : Ct) (σ : L2.St) (T : Tm) (r : Option (List PyData × En)) (Q : List V → Hp → Prop) : Prop := match r with
  | none => False
  | some (ds, ρ) => ∀ vs H, vs.length = ds.length → Rel K c σ ρ (tms vs ds ++ T) H → Q vs H
def SemA (K : PySem.W.Frag) (t : TA) (m : MA) : Prop := ∀ (c : Ct) (σ : L2.St) (ρ : En) (T : Tm) (H : Hp) (Q : List V → Hp → Prop), Rel K c σ ρ T H → PostA K c σ T (m ρ) Q → t σ H Q
def JA (Y : Fam) (es : List Expr) (m : MA) : Prop := ∃ t, (∀ i, PA (Y.X i) es t) ∧ SemA Y.K t m
def mNil : MA := fun ρ => some ([], ρ)
def mCons (m : MV) (n : MA) : MA := fun ρ => match m ρ with
  | none => none
  | some (d, ρ) => match n ρ with
    | none => none
    | some (ds, ρ) => some (d :: ds, ρ)
section
variable {K : PySem.W.Frag} {c : Ct} {σ : L2.St} {ρ : En} {T : Tm} {H F : Hp} {fp : List Addr}
theorem RelF.tms {vs : List V} {ds : List PyData} (r : RelF K c σ ρ (Fj.tms vs ds ++ T) H F fp) (h : vs.length = ds.length) : Rps K F vs ds ∧ RelF K c σ ρ T H F fp := by
  induction ds generalizing vs T with
  | nil =>
    have : vs = [] := List.eq_nil_of_length_eq_zero h
    subst this
    exact ⟨.nil, r⟩
  | cons d ds ih =>
    cases vs with
    | nil => cases h
    | cons v vs =>
      have r' : RelF K c σ ρ (Fj.tms vs ds ++ ((v, .val d) :: T)) H F fp := by
        have e : Fj.tms (v :: vs) (d :: ds) ++ T = Fj.tms vs ds ++ ((v, .val d) :: T) := by
          show (Fj.tms vs ds ++ [(v, .val d)]) ++ T = _
          rw [List.append_assoc]
          rfl
        rw [← e]
        exact r
      obtain ⟨a, b⟩ := ih r' (Nat.succ.inj h)
      exact ⟨.cons b.top a, b.popV⟩
theorem Rel.tms {vs : List V} {ds : List PyData} (r : Rel K c σ ρ (Fj.tms vs ds ++ T) H) (h : vs.length = ds.length) : Rps K H vs ds ∧ Rel K c σ ρ T H := by
  obtain ⟨F, fp, f⟩ := r
  obtain ⟨a, b⟩ := f.tms h
  exact ⟨a.mono b.fh, F, fp, b⟩
end
section
variable {Y : Fam} {e a b : Expr} {es : List Expr} {pos : Pos}
theorem a_nil : JA Y [] mNil := ⟨tNil, fun _ => pa_nil, fun _ _ _ _ H _ r q => q [] H rfl r⟩
theorem a_cons {m : MV} {n : MA} (h : JV Y e m) (g : JA Y es n) (hs : ∀ j, starEach (e :: es) (Y.X j).env = (false, eval e (Y.X j).env) :: starEach es (Y.X j).env := by intro _; rfl) : JA Y (e :: es) (mCons m n) := by
  obtain ⟨t, p, s⟩ := h
  obtain ⟨u, p', s'⟩ := g
  refine ⟨tCons t u, fun j => pa_cons (p j) (p' j) (hs j), fun c σ ρ T H Q r q => s c σ ρ T H _ r ?_⟩
  unfold mCons at q
  cases hm : m ρ with
  | none =>
    rw [hm] at q
    exact q
  | some z =>
    obtain ⟨d, ρ1⟩ := z
    rw [hm] at q
    simp only at q
    intro v H1 r1
    refine s' c σ ρ1 _ H1 _ r1 ?_
    cases hn : n ρ1 with
    | none =>
      rw [hn] at q
      exact q
    | some z =>
      obtain ⟨ds, ρ2⟩ := z
      rw [hn] at q
      intro vs H2 hl r2
      refine q (v :: vs) H2 (congrArg Nat.succ hl) ?_
      show Rel Y.K c σ ρ2 ((tms vs ds ++ [(v, .val d)]) ++ T) H2
      rw [List.append_assoc]
      exact r2
/-! ### displays -/
def mTup (n : MA) : MV := fun ρ => match n ρ with
  | none => none
  | some (ds, ρ) => if ds.length ≤ 100000 then some (.tuple ds, ρ) else none
def mLst (n : MA) : MO := fun ρ => match n ρ with
  | none => none
  | some (ds, ρ) => if ds.length ≤ 100000 then some (.own true (.lst ds), ρ) else none
theorem j_tup {n : MA} {x1 : Nat} (h : JA Y es n) : JV Y (.Tuple es x1 pos) (mTup n) := by
  obtain ⟨t, p, s⟩ := h
  refine ⟨tTup t, fun j => pe_tup (p j), fun c σ ρ T H Q r q => s c σ ρ T H _ r ?_⟩
  unfold mTup at q
  cases hn : n ρ with
  | none =>
    rw [hn] at q
    exact q
  | some z =>
    obtain ⟨ds, ρ1⟩ := z
    rw [hn] at q
    simp only at q
    split at q
    · rename_i hl
      intro vs H1 hv r1
      refine ⟨sz5 (by omega), fun p hp => q _ _ ?_⟩
      obtain ⟨F, fp, f⟩ := r1
      obtain ⟨x, y⟩ := f.tms hv
      exact y.tupNew hp x
    · exact q.elim
theorem j_lst {n : MA} (h : JA Y es n) : JO Y (.List es pos) (mLst n) := by
  obtain ⟨t, p, s⟩ := h
  refine ⟨tLst t, fun j => pe_lst (p j), fun c σ ρ T H Q r q => s c σ ρ T H _ r ?_⟩
  unfold mLst at q
  cases hn : n ρ with
  | none =>
    rw [hn] at q
    exact q
  | some z =>
    obtain ⟨ds, ρ1⟩ := z
    rw [hn] at q
    simp only at q
    split at q
    · rename_i hl
      intro vs H1 hv r1
      refine ⟨sz5 (by omega), fun p hp => q _ _ ?_⟩
      obtain ⟨F, fp, f⟩ := r1
      obtain ⟨x, y⟩ := f.tms hv
      exact y.lstNew hp x
    · exact q.elim
/-- lists together: a new list -/
def mCat (ma mb : MV) : MO := fun ρ => match ma ρ with
  | none => none
  | some (x, ρ) => match mb ρ with
    | none => none
    | some (y, ρ) => match x, y with
      | .list xs, .list ys => if xs.length + ys.length ≤ 100000 then some (.own true (.lst (xs ++ ys)), ρ) else none
      | _, _ => none
theorem Rp.lstAt {K : PySem.W.Frag} {F : Hp} {v : V} {xs : List PyData} (h : Rp K F v (.list xs)) : ∃ a vs, v = .ref a ∧ F a = some (.lst vs) ∧ Rps K F vs xs := by
  cases h with
  | lst h r => exact ⟨_, _, rfl, h, r⟩
theorem Rp.tupAt {K : PySem.W.Frag} {F : Hp} {v : V} {xs : List PyData} (h : Rp K F v (.tuple xs)) : ∃ a vs, v = .ref a ∧ SqT K F a vs ∧ Rps K F vs xs := by
  cases h with
  | tup h r => exact ⟨_, _, rfl, h, r⟩
theorem j_cat {ma mb : MV} (ha : JV Y a ma) (hb : JV Y b mb) : JO Y (.BinOp a .Add b pos) (mCat ma mb) := by
  obtain ⟨ta, pa, sa⟩ := ha
  obtain ⟨tb, pb, sb⟩ := hb
  refine ⟨tOp rCat ta tb, fun j => pe_op op_cat (pa j) (pb j), fun c σ ρ T H Q re q => ?_⟩
  unfold mCat at q
  split at q
  · exact q.elim
  · rename_i x ρ1 e1
    split at q
    · exact q.elim
    · rename_i y ρ2 e2
      split at q
      · rename_i xs ys
        split at q
        · rename_i hl
          refine sem_bin sa sb re ⟨_, ρ1, _, ρ2, e1, e2, fun vx vy H2 r2 => ?_⟩
          obtain ⟨F, fp, f⟩ := r2
          obtain ⟨b', ws, rfl, hb', rb⟩ := f.top.lstAt
          obtain ⟨a', us, rfl, ha', ra⟩ := f.popV.top.lstAt
          have la := ra.length
          have lb := rb.length
          exact ⟨a', b', us, ws, rfl, rfl, f.fh _ _ ha', f.fh _ _ hb', sz5 (by omega), fun p hp => q _ _ (f.popV.popV.lstNew hp (ra.app rb))⟩
        · exact q.elim
      · exact q.elim
/-! ### places -/
theorem Rps.atI {K : PySem.W.Frag} {F : Hp} {vs : List V} {ds : List PyData} {i : Int} {d : PyData} (h : Rps K F vs ds) (e : L2.atI ds i = some d) : ∃ v, L2.atI vs i = some v ∧ Rp K F v d := by
  unfold L2.atI at e ⊢
  rw [h.length]
  cases hn : ixN ds.length i with
  | none =>
    rw [hn] at e
    cases e
  | some j =>
    rw [hn] at e
    exact h.get (i := j) e
def gIx : PyData → PyData → Option PyData
  | .list ds, .int i => L2.atI ds i
  | .tuple ds, .int i => L2.atI ds i
  | .str z, .int i => if z.length ≤ 100000 then (L2.atI z.cps.toList i).map fun k => .str ⟨#[k]⟩ else none
  | _, _ => none
theorem j_ix {ma mb : MV} (ha : JV Y a ma) (hb : JV Y b mb) (hs : PlainIx b := by intro _ _; rfl) : JV Y (.Subscript a b pos) (mBin gIx ma mb) := by
  obtain ⟨ta, pa, sa⟩ := ha
  obtain ⟨tb, pb, sb⟩ := hb
  refine ⟨tOp (rIx Y.K) ta tb, fun j => by rw [← Y.hK j]; exact pe_ix ix_seq (pa j) (pb j) hs, fun c σ ρ T H Q re q => ?_⟩
  obtain ⟨x, ρ1, y, ρ2, z, e1, e2, hg, q⟩ := bin_inv q
  refine sem_bin sa sb re ⟨x, ρ1, y, ρ2, e1, e2, fun vx vy H2 r2 => ?_⟩
  unfold gIx at hg
  split at hg
  · rename_i ds i
    have hy := r2.intTop
    obtain ⟨F, fp, f⟩ := r2
    obtain ⟨p, us, rfl, h1, h2⟩ := f.popV.top.lstAt
    obtain ⟨v, hv, rv⟩ := h2.atI hg
    subst hy
    exact .inl ⟨p, us, i, v, rfl, rfl, .inl (.inl (f.fh _ _ h1)), hv, q _ _ ⟨F, fp, f.popV.popV.push rv⟩⟩
  · rename_i ds i
    have hy := r2.intTop
    obtain ⟨F, fp, f⟩ := r2
    obtain ⟨p, us, rfl, h1, h2⟩ := f.popV.top.tupAt
    obtain ⟨v, hv, rv⟩ := h2.atI hg
    subst hy
    exact .inr (.inl ⟨p, us, i, v, rfl, rfl, same_tup f.fh h1, hv, q _ _ ⟨F, fp, f.popV.popV.push rv⟩⟩)
  · rename_i s i
    split at hg
    · rename_i hl
      have hy := r2.intTop
      have hx := r2.pop.strTop
      subst hx hy
      obtain ⟨k, hk, rfl⟩ := Option.map_eq_some_iff.mp hg
      exact .inr (.inr ⟨s, i, k, rfl, rfl, sz5 hl, hk, q _ _ (r2.pop2.pushS _)⟩)
    · cases hg
  · cases hg
/-! ### parts -/
abbrev MP := En → Option (Option Int × En)
def PostP (K : PySem.W.Frag) (c : Ct) (σ : L2.St) (T : Tm) (r : Option (Option Int × En)) (Q : Option Int → Hp → Prop) : Prop := match r with
  | none => False
  | some (o, ρ) => ∀ H', Rel K c σ ρ T H' → Q o H'
def SemP (K : PySem.W.Frag) (t : TO) (m : MP) : Prop := ∀ (c : Ct) (σ : L2.St) (ρ : En) (T : Tm) (H : Hp) (Q : Option Int → Hp → Prop), Rel K c σ ρ T H → PostP K c σ T (m ρ) Q → t σ H Q
def JP (Y : Fam) (e : Option Expr) (m : MP) : Prop := ∃ t, (∀ i, PO (Y.X i) e t) ∧ SemP Y.K t m
def mP0 : MP := fun ρ => some (none, ρ)
def mP1 (m : MV) : MP := fun ρ => match m ρ with
  | some (.int i, ρ) => some (some i, ρ)
  | _ => none
theorem p_none : JP Y none mP0 := ⟨tNoPart, fun _ => po_none, fun _ _ _ _ H _ r q => q H r⟩
theorem p_some {m : MV} (h : JV Y e m) : JP Y (some e) (mP1 m) := by
  obtain ⟨t, p, s⟩ := h
  refine ⟨tPart t, fun j => po_some (p j), fun c σ ρ T H Q r q => s c σ ρ T H _ r ?_⟩
  unfold mP1 at q
  split at q
  · rename_i i ρ1 e
    rw [e]
    intro v H1 r1
    have r1 : Rel Y.K c σ ρ1 ((v, .val (.int i)) :: T) H1 := r1
    exact ⟨i, r1.intTop, q H1 r1.pop⟩
  · exact q.elim
def cutD (xs : List PyData) (lo hi : Option Int) : List PyData := (xs.drop (HT.sIx xs.length 0 lo)).take (HT.sIx xs.length xs.length hi - HT.sIx xs.length 0 lo)
theorem Rps.cut {K : PySem.W.Frag} {F : Hp} {vs : List V} {ds : List PyData} (lo hi : Option Int) (h : Rps K F vs ds) : Rps K F (cutV vs lo hi) (cutD ds lo hi) := by
  unfold cutV cutD
  rw [h.length]
  exact (h.dropN _).takeN _
def gSl (d : PyData) (lo hi : Option Int) : Option Ent := match d with
  | .list ds => some (.own true (.lst (cutD ds lo hi)))
  | .tuple ds => some (.val (.tuple (cutD ds lo hi)))
  | .str z => if z.length ≤ 100000 then some (.val (.str (cutS z lo hi))) else none
  | _ => none
def mSl (m : MV) (l h : MP) : MO := fun ρ => match m ρ with
  | none => none
  | some (d, ρ) => match l ρ with
    | none => none
    | some (lo, ρ) => match h ρ with
      | none => none
      | some (hi, ρ) => (gSl d lo hi).map fun z => (z, ρ)
theorem cut_whole {ds : List PyData} {lo hi : Option Int} (h : HT.sIx ds.length 0 lo = 0 ∧ HT.sIx ds.length ds.length hi = ds.length) : cutD ds lo hi = ds := by
  unfold cutD
  rw [h.1, h.2]
  simp
theorem j_sl {m : MV} {l h : MP} {o1 o2 : Option Expr} {p2 : Pos} (he : JV Y e m) (hl : JP Y o1 l) (hh : JP Y o2 h) : JO Y (.Subscript e (.Slice o1 o2 none p2) pos) (mSl m l h) := by
  obtain ⟨t, p, s⟩ := he
  obtain ⟨tl, pl, s1⟩ := hl
  obtain ⟨th, ph, s2⟩ := hh
  refine ⟨tSl (fun x lo hi H Q => (rSlL Y.K x lo hi H Q ∨ rSlA Y.K x lo hi H Q) ∨ rSlS x lo hi H Q) t tl th, fun j => by rw [← Y.hK j]; exact pe_slice (SlR.or (SlR.or sl_list sl_tupA) sl_str) (p j) (pl j) (ph j), fun c σ ρ T H Q re q => s c σ ρ T H _ re ?_⟩
  unfold mSl at q
  cases hm : m ρ with
  | none =>
    rw [hm] at q
    exact q
  | some z =>
    obtain ⟨d, ρ1⟩ := z
    rw [hm] at q
    simp only at q
    intro v H1 r1
    refine s1 c σ ρ1 _ H1 _ r1 ?_
    cases hl1 : l ρ1 with
    | none =>
      rw [hl1] at q
      exact q
    | some z =>
      obtain ⟨lo, ρ2⟩ := z
      rw [hl1] at q
      simp only at q
      intro H2 r2
      refine s2 c σ ρ2 _ H2 _ r2 ?_
      cases hh1 : h ρ2 with
      | none =>
        rw [hh1] at q
        exact q
      | some z =>
        obtain ⟨hi, ρ3⟩ := z
        rw [hh1] at q
        simp only at q
        intro H3 r3
        unfold gSl at q
        split at q
        · obtain ⟨F, fp, f⟩ := r3
          obtain ⟨p, us, rfl, h1, h2⟩ := f.top.lstAt
          exact .inl (.inl ⟨p, us, rfl, .inl (.inl (f.fh _ _ h1)), fun p' hp => q _ _ (f.popV.lstNew hp (h2.cut lo hi))⟩)
        · rename_i ds
          obtain ⟨F, fp, f⟩ := r3
          obtain ⟨p, us, rfl, h1, h2⟩ := f.top.tupAt
          refine .inl (.inr ⟨p, us, rfl, same_tup f.fh h1, fun hw => ?_, fun hw p' hp => q _ _ (f.popV.tupNew hp (h2.cut lo hi))⟩)
          rw [h2.length] at hw
          rw [cut_whole hw] at q
          exact q _ _ ⟨F, fp, f⟩
        · rename_i z
          split at q
          · rename_i hz
            have hx := r3.strTop
            subst hx
            exact .inr ⟨z, rfl, sz5 hz, q _ _ (r3.pop.pushS _)⟩
          · exact q.elim
        · exact q.elim
/-- xs[::-1] -/
def mRev (m : MV) : MO := fun ρ => match m ρ with
  | some (.list ds, ρ) => some (.own true (.lst ds.reverse), ρ)
  | _ => none
theorem j_rev {m : MV} {k : Nat} {p1 p2 p3 : Pos} (he : JV Y e m) : JO Y (.Subscript e (.Slice none none (some (.UnaryOp .USub (.Constant (.int 1) k p1) p2)) p3) pos) (mRev m) := by
  obtain ⟨t, p, s⟩ := he
  refine ⟨tRevL Y.K t, fun j => by rw [← Y.hK j]; exact pe_revL (p j), fun c σ ρ T H Q re q => s c σ ρ T H _ re ?_⟩
  unfold mRev at q
  split at q
  · rename_i ds ρ1 e
    rw [e]
    intro v H1 r1
    obtain ⟨F, fp, f⟩ := r1
    obtain ⟨p, us, rfl, h1, h2⟩ := f.top.lstAt
    exact ⟨p, us, rfl, .inl (.inl (f.fh _ _ h1)), fun p' hp => q _ _ (f.popV.lstNew hp h2.rev)⟩
  · exact q.elim
/-- -i -/
def mNeg (m : MV) : MV := fun ρ => match m ρ with
  | some (.int i, ρ) => some (.int (-i), ρ)
  | _ => none
theorem j_neg {m : MV} (he : JV Y e m) : JV Y (.UnaryOp .USub e pos) (mNeg m) := by
  obtain ⟨t, p, s⟩ := he
  refine ⟨_, fun j => pe_un un_neg (p j), fun c σ ρ T H Q re q => s c σ ρ T H _ re ?_⟩
  unfold mNeg at q
  split at q
  · rename_i i ρ1 e
    rw [e]
    intro v H1 r1
    have r1 : Rel Y.K c σ ρ1 ((v, .val (.int i)) :: T) H1 := r1
    exact ⟨i, r1.intTop, q _ _ (r1.pop.pushI _)⟩
  · exact q.elim
/-- a part of the script -/
def mScrSl (i : Nat) (l h : MP) : MO := fun ρ => match ρ[i]? with
  | some (.scr ns) => match l ρ with
    | none => none
    | some (lo, ρ) => match h ρ with
      | none => none
      | some (hi, ρ) => some (.own true (.lst (cutD (ns.map .int) lo hi)), ρ)
  | _ => none
theorem Rel.scrAt {K : PySem.W.Frag} {c : Ct} {σ : L2.St} {ρ : En} {T : Tm} {H : Hp} {i : Nat} {ns : List Int} (r : Rel K c σ ρ T H) (he : ρ[i]? = some (.scr ns)) : ∃ a, σ[i]? = some (some (.ref a)) ∧ SqL K c.H0 a (ns.map V.int) ∧ ¬ c.W a := by
  obtain ⟨F, fp, r⟩ := r
  have hi : i < σ.length := by
    rw [r.len]
    exact (List.getElem?_eq_some_iff.mp he).1
  obtain ⟨f1, fc, f2, e2, f3, f4⟩ := Slots.place (i := T.length + i) r.sl (x := (σ[i], .scr ns)) (by
    rw [List.getElem?_append_right (by simp [tmp])]
    simp only [tmp, List.length_map, Nat.add_sub_cancel_left]
    exact zip_at (List.getElem?_eq_getElem hi) he)
  generalize hs : σ[i] = s at f3
  cases f3 with
  | @scr a _ q w => exact ⟨a, by rw [List.getElem?_eq_getElem hi, hs], q, w⟩
theorem Rel.scrSq {K : PySem.W.Frag} {c : Ct} {σ : L2.St} {ρ : En} {T : Tm} {H : Hp} {a : Addr} {xs : List V} (r : Rel K c σ ρ T H) (h : SqL K c.H0 a xs) (w : ¬ c.W a) : SqL K H a xs := by
  obtain ⟨F, fp, r⟩ := r
  rcases h with (h | ⟨o, h⟩) | h
  · exact .inl (.inl (r.keep _ _ h w))
  · exact .inl (.inr ⟨o, r.keep _ _ h w⟩)
  · exact .inr h
theorem j_scrSl (i : Nat) {x : Str} {l h : MP} {o1 o2 : Option Expr} {p2 p3 : Pos} (hl : JP Y o1 l) (hh : JP Y o2 h) (hN : ∀ j, (Y.X j).N[i]? = some x := by intro _; rfl) (hv : ∀ j, Vis (Y.X j).env.scope x := by first | exact fun _ => Or.inl rfl | exact fun _ => Or.inr (Or.inl rfl) | exact fun _ => Or.inr (Or.inr rfl)) (hd : (x == ("__debug__" : Str)) = false := by decide)
    (hcd : (x == ("__classdict__" : Str)) = false := by decide) : JO Y (.Subscript (.Name x p3) (.Slice o1 o2 none p2) pos) (mScrSl i l h) := by
  obtain ⟨tl, pl, s1⟩ := hl
  obtain ⟨th, ph, s2⟩ := hh
  refine ⟨tSl (rSlL Y.K) (tVar i) tl th, fun j => by rw [← Y.hK j]; exact pe_slice sl_list (pe_var (hN j) (hv j) hd hcd) (pl j) (ph j), fun c σ ρ T H Q re q => ?_⟩
  unfold mScrSl at q
  split at q
  · rename_i ns he
    obtain ⟨a, hv, hq, w⟩ := re.scrAt he
    refine ⟨_, hv, s1 c σ ρ T H _ re ?_⟩
    cases hl1 : l ρ with
    | none =>
      rw [hl1] at q
      exact q
    | some z =>
      obtain ⟨lo, ρ2⟩ := z
      rw [hl1] at q
      simp only at q
      intro H2 r2
      refine s2 c σ ρ2 _ H2 _ r2 ?_
      cases hh1 : h ρ2 with
      | none =>
        rw [hh1] at q
        exact q
      | some z =>
        obtain ⟨hi, ρ3⟩ := z
        rw [hh1] at q
        simp only at q
        intro H3 r3
        refine ⟨a, _, rfl, r3.scrSq hq w, fun p hp => q _ _ ?_⟩
        obtain ⟨F, fp, f⟩ := r3
        exact f.lstNew hp (Rps.ofInts.cut lo hi)
  · exact q.elim
/-! ### calls of built-ins -/
def CallJ (Y : Fam) (f : Value) (g : List PyData → Option Ent) : Prop := ∃ r : List V → Hp → VK → Prop, (∀ j, CallR (Y.X j) f r) ∧
  ∀ (c : Ct) (σ : L2.St) (ρ : En) (T : Tm) (H : Hp) (vs : List V) (ds : List PyData) (z : Ent) (Q : VK), vs.length = ds.length → Rel Y.K c σ ρ (tms vs ds ++ T) H → g ds = some z → (∀ v H', Rel Y.K c σ ρ ((v, z) :: T) H' → Q v H') → r vs H Q
def mCB (g : List PyData → Option Ent) (n : MA) : MO := fun ρ => match n ρ with
  | none => none
  | some (ds, ρ) => (g ds).map fun z => (z, ρ)
theorem sem_cb {f : Value} {g : List PyData → Option Ent} {n : MA} {r : List V → Hp → VK → Prop} {t : TA} (s : SemA Y.K t n) (hs : ∀ (c : Ct) (σ : L2.St) (ρ : En) (T : Tm) (H : Hp) (vs : List V) (ds : List PyData) (z : Ent) (Q : VK), vs.length = ds.length → Rel Y.K c σ ρ (tms vs ds ++ T) H → g ds = some z → (∀ v H', Rel Y.K c σ ρ ((v, z) :: T) H' → Q v H') → r vs H Q) :
    SemO Y.K (tCB r t) (mCB g n) := fun c σ ρ T H Q re q => by
  refine s c σ ρ T H _ re ?_
  unfold mCB at q
  cases hn : n ρ with
  | none =>
    rw [hn] at q
    exact q
  | some z =>
    obtain ⟨ds, ρ1⟩ := z
    rw [hn] at q
    simp only at q
    intro vs H1 hl r1
    cases hg : g ds with
    | none =>
      rw [hg] at q
      exact q.elim
    | some w =>
      rw [hg] at q
      exact hs c σ ρ1 T H1 vs ds w Q hl r1 hg q
theorem j_callB {x : Str} {id : String} {g : List PyData → Option Ent} {n : MA} {p : Pos} (hc : CallJ Y (.builtin id) g) (hm : Y.mg x = none) (ha : JA Y (e :: es) n) (hv : bootBuiltins x = some (.builtin id) := by decide +kernel) (hg : ∀ j, Gl (Y.X j) x := by intro _; rfl) (hn : x ≠ "__name__" := by decide) (hdb : (x == ("__debug__" : Str)) = false := by decide)
    (he : ∀ j, starEach (e :: es) (Y.X j).env = (false, eval e (Y.X j).env) :: starEach es (Y.X j).env := by intro _; rfl) (hpl : ∀ j, (backTo pos (starEach es (Y.X j).env)).any (·.1) = false := by intro _; rfl) : JO Y (.Call (.Name x p) (e :: es) [] pos) (mCB g n) := by
  obtain ⟨r, o, hs⟩ := hc
  obtain ⟨t, pa, s⟩ := ha
  exact ⟨tCB r t, fun j => pe_callB (o j) (hg j) (by rw [Y.hmg j]; exact hm) hv (pa j) hn hdb (he j) (hpl j), sem_cb (f := .builtin id) s hs⟩
theorem j_callT {x : Str} {id : String} {g : List PyData → Option Ent} {n : MA} {p : Pos} (hc : CallJ Y (.type id) g) (hm : Y.mg x = none) (ha : JA Y (e :: es) n) (hv : bootBuiltins x = some (.type id) := by decide +kernel) (hg : ∀ j, Gl (Y.X j) x := by intro _; rfl) (hn : x ≠ "__name__" := by decide) (hdb : (x == ("__debug__" : Str)) = false := by decide)
    (he : ∀ j, starEach (e :: es) (Y.X j).env = (false, eval e (Y.X j).env) :: starEach es (Y.X j).env := by intro _; rfl) (hpl : ∀ j, (backTo pos (starEach es (Y.X j).env)).any (·.1) = false := by intro _; rfl) : JO Y (.Call (.Name x p) (e :: es) [] pos) (mCB g n) := by
  obtain ⟨r, o, hs⟩ := hc
  obtain ⟨t, pa, s⟩ := ha
  exact ⟨tCB r t, fun j => pe_callTy (o j) (hg j) (by rw [Y.hmg j]; exact hm) hv (pa j) hn hdb (he j) (hpl j), sem_cb (f := .type id) s hs⟩
theorem len1 {vs : List V} {d : PyData} (h : vs.length = [d].length) : ∃ v, vs = [v] := by
  cases vs with
  | nil => cases h
  | cons v vs =>
    cases vs with
    | nil => exact ⟨v, rfl⟩
    | cons w vs => cases h
theorem len2 {vs : List V} {d d' : PyData} (h : vs.length = [d, d'].length) : ∃ v w, vs = [v, w] := by
  cases vs with
  | nil => cases h
  | cons v vs =>
    cases vs with
    | nil => cases h
    | cons w vs =>
      cases vs with
      | nil => exact ⟨v, w, rfl⟩
      | cons u vs => cases h
def gLen : List PyData → Option Ent
  | [.list ds] => some (.val (.int ds.length))
  | [.tuple ds] => some (.val (.int ds.length))
  | [.str z] => if z.length ≤ 100000 then some (.val (.int z.length)) else none
  | _ => none
theorem c_len : CallJ Y (.builtin "len") gLen := by
  refine ⟨fun xs H Q => (∃ p ys, xs = [.ref p] ∧ (SqL Y.K H p ys ∨ SqT Y.K H p ys) ∧ Q (.int ys.length) H) ∨ (∃ z, xs = [.str z] ∧ z.length ≤ sizeLine ∧ Q (.int z.length) H), fun j => by rw [← Y.hK j]; exact CallR.or call_len_seq call_len_str, fun c σ ρ T H vs ds z Q hl r e q => ?_⟩
  · unfold gLen at e
    split at e
    · cases e
      obtain ⟨v, rfl⟩ := len1 hl
      obtain ⟨F, fp, f⟩ := r
      have f : RelF Y.K c σ ρ ((v, .val (.list _)) :: T) H F fp := f
      obtain ⟨p, us, rfl, h1, h2⟩ := f.top.lstAt
      refine .inl ⟨p, us, rfl, .inl (.inl (.inl (f.fh _ _ h1))), ?_⟩
      rw [h2.length]
      exact q _ _ (Rel.pushI ⟨F, fp, f.popV⟩ _)
    · cases e
      obtain ⟨v, rfl⟩ := len1 hl
      obtain ⟨F, fp, f⟩ := r
      have f : RelF Y.K c σ ρ ((v, .val (.tuple _)) :: T) H F fp := f
      obtain ⟨p, us, rfl, h1, h2⟩ := f.top.tupAt
      refine .inl ⟨p, us, rfl, .inr (same_tup f.fh h1), ?_⟩
      rw [h2.length]
      exact q _ _ (Rel.pushI ⟨F, fp, f.popV⟩ _)
    · split at e
      · rename_i hz
        cases e
        obtain ⟨v, rfl⟩ := len1 hl
        have r : Rel Y.K c σ ρ ((v, .val (.str _)) :: T) H := r
        have hx := r.strTop
        subst hx
        exact .inr ⟨_, rfl, sz5 hz, q _ _ (r.pop.pushI _)⟩
      · cases e
    · cases e
def gInt : List PyData → Option Ent
  | [.int i] => some (.val (.int i))
  | [.bool k] => some (.val (.int (if k then 1 else 0)))
  | _ => none
theorem c_int : CallJ Y (.type "int") gInt := by
  refine ⟨_, fun j => call_int1, fun c σ ρ T H vs ds z Q hl r e q => ?_⟩
  unfold gInt at e
  split at e
  · cases e
    obtain ⟨v, rfl⟩ := len1 hl
    have r : Rel Y.K c σ ρ ((v, .val (.int _)) :: T) H := r
    have hx := r.intTop
    subst hx
    exact .inl ⟨_, rfl, q _ _ r⟩
  · cases e
    obtain ⟨v, rfl⟩ := len1 hl
    have r : Rel Y.K c σ ρ ((v, .val (.bool _)) :: T) H := r
    have hx := r.boolTop
    subst hx
    exact .inr ⟨_, rfl, q _ _ (r.pop.pushI _)⟩
  · cases e
def gMax2 : List PyData → Option Ent
  | [.int i, .int j] => some (.val (.int (if j > i then j else i)))
  | _ => none
theorem c_max2 : CallJ Y (.builtin "max") gMax2 := by
  refine ⟨_, fun j => call_max2 (Y.calm j), fun c σ ρ T H vs ds z Q hl r e q => ?_⟩
  unfold gMax2 at e
  split at e
  · cases e
    obtain ⟨v, w, rfl⟩ := len2 hl
    have r : Rel Y.K c σ ρ ((w, .val (.int _)) :: (v, .val (.int _)) :: T) H := r
    have hx := r.intTop
    have hy := r.pop.intTop
    subst hx hy
    exact ⟨_, _, rfl, q _ _ (r.pop2.pushI _)⟩
  · cases e
def gMin2 : List PyData → Option Ent
  | [.int i, .int j] => some (.val (.int (if j < i then j else i)))
  | _ => none
theorem c_min2 : CallJ Y (.builtin "min") gMin2 := by
  refine ⟨_, fun j => call_min2 (Y.calm j), fun c σ ρ T H vs ds z Q hl r e q => ?_⟩
  unfold gMin2 at e
  split at e
  · cases e
    obtain ⟨v, w, rfl⟩ := len2 hl
    have r : Rel Y.K c σ ρ ((w, .val (.int _)) :: (v, .val (.int _)) :: T) H := r
    have hx := r.intTop
    have hy := r.pop.intTop
    subst hx hy
    exact ⟨_, _, rfl, q _ _ (r.pop2.pushI _)⟩
  · cases e
def gAll : List PyData → Option Ent
  | [.list ds] => (boolsD ds).map fun bs => .val (.bool (bs.all id))
  | _ => none
def gAny : List PyData → Option Ent
  | [.list ds] => (boolsD ds).map fun bs => .val (.bool (bs.any id))
  | _ => none
def gSum : List PyData → Option Ent
  | [.list ds] => (intsD ds).map fun bs => .val (.int bs.sum)
  | _ => none
theorem c_all : CallJ Y (.builtin "all") gAll := by
  refine ⟨rAll Y.K, fun j => by rw [← Y.hK j]; exact cr_all (Y.calm j), fun c σ ρ T H vs ds z Q hl r e q => ?_⟩
  unfold gAll at e
  split at e
  · obtain ⟨bs, hb, rfl⟩ := Option.map_eq_some_iff.mp e
    have := boolsD_eq hb
    subst this
    obtain ⟨v, rfl⟩ := len1 hl
    obtain ⟨F, fp, f⟩ := r
    have f : RelF Y.K c σ ρ ((v, .val (.list _)) :: T) H F fp := f
    obtain ⟨p, us, rfl, h1, h2⟩ := f.top.lstAt
    have := h2.bools
    subst this
    exact ⟨p, bs, rfl, .inl (.inl (f.fh _ _ h1)), q _ _ (Rel.pushB ⟨F, fp, f.popV⟩ _)⟩
  · cases e
theorem c_any : CallJ Y (.builtin "any") gAny := by
  refine ⟨rAny Y.K, fun j => by rw [← Y.hK j]; exact cr_any (Y.calm j), fun c σ ρ T H vs ds z Q hl r e q => ?_⟩
  unfold gAny at e
  split at e
  · obtain ⟨bs, hb, rfl⟩ := Option.map_eq_some_iff.mp e
    have := boolsD_eq hb
    subst this
    obtain ⟨v, rfl⟩ := len1 hl
    obtain ⟨F, fp, f⟩ := r
    have f : RelF Y.K c σ ρ ((v, .val (.list _)) :: T) H F fp := f
    obtain ⟨p, us, rfl, h1, h2⟩ := f.top.lstAt
    have := h2.bools
    subst this
    exact ⟨p, bs, rfl, .inl (.inl (f.fh _ _ h1)), q _ _ (Rel.pushB ⟨F, fp, f.popV⟩ _)⟩
  · cases e
theorem c_sum : CallJ Y (.builtin "sum") gSum := by
  refine ⟨rSum Y.K, fun j => by rw [← Y.hK j]; exact cr_sum (Y.calm j), fun c σ ρ T H vs ds z Q hl r e q => ?_⟩
  unfold gSum at e
  split at e
  · obtain ⟨bs, hb, rfl⟩ := Option.map_eq_some_iff.mp e
    have := intsD_eq hb
    subst this
    obtain ⟨v, rfl⟩ := len1 hl
    obtain ⟨F, fp, f⟩ := r
    have f : RelF Y.K c σ ρ ((v, .val (.list _)) :: T) H F fp := f
    obtain ⟨p, us, rfl, h1, h2⟩ := f.top.lstAt
    have := h2.nums
    subst this
    exact ⟨p, bs, rfl, .inl (.inl (f.fh _ _ h1)), q _ _ (Rel.pushI ⟨F, fp, f.popV⟩ _)⟩
  · cases e
def gList : List PyData → Option Ent
  | [.list ds] => some (.own true (.lst ds))
  | [.tuple ds] => some (.own true (.lst ds))
  | _ => none
def gTuple : List PyData → Option Ent
  | [.list ds] => some (.val (.tuple ds))
  | [.tuple ds] => some (.val (.tuple ds))
  | _ => none
theorem c_list : CallJ Y (.type "list") gList := by
  refine ⟨fun xs H Q => ∃ p ys, xs = [.ref p] ∧ (SqL Y.K H p ys ∨ SqT Y.K H p ys) ∧ ∀ l, H l = none → Q (.ref l) (upd H l (.lst ys)), fun j => by rw [← Y.hK j]; exact call_list_of, fun c σ ρ T H vs ds z Q hl r e q => ?_⟩
  unfold gList at e
  split at e
  · cases e
    obtain ⟨v, rfl⟩ := len1 hl
    obtain ⟨F, fp, f⟩ := r
    have f : RelF Y.K c σ ρ ((v, .val (.list _)) :: T) H F fp := f
    obtain ⟨p, us, rfl, h1, h2⟩ := f.top.lstAt
    exact ⟨p, us, rfl, .inl (.inl (.inl (f.fh _ _ h1))), fun l hl => q _ _ (f.popV.lstNew hl h2)⟩
  · cases e
    obtain ⟨v, rfl⟩ := len1 hl
    obtain ⟨F, fp, f⟩ := r
    have f : RelF Y.K c σ ρ ((v, .val (.tuple _)) :: T) H F fp := f
    obtain ⟨p, us, rfl, h1, h2⟩ := f.top.tupAt
    exact ⟨p, us, rfl, .inr (same_tup f.fh h1), fun l hl => q _ _ (f.popV.lstNew hl h2)⟩
  · cases e
theorem c_tuple : CallJ Y (.type "tuple") gTuple := by
  refine ⟨fun xs H Q => ∃ p ys, xs = [.ref p] ∧ ((SqL Y.K H p ys ∧ ∀ l, H l = none → Q (.ref l) (upd H l (.tup ys))) ∨ (SqT Y.K H p ys ∧ Q (.ref p) H)), fun j => by rw [← Y.hK j]; exact call_tuple_of, fun c σ ρ T H vs ds z Q hl r e q => ?_⟩
  unfold gTuple at e
  split at e
  · cases e
    obtain ⟨v, rfl⟩ := len1 hl
    obtain ⟨F, fp, f⟩ := r
    have f : RelF Y.K c σ ρ ((v, .val (.list _)) :: T) H F fp := f
    obtain ⟨p, us, rfl, h1, h2⟩ := f.top.lstAt
    exact ⟨p, us, rfl, .inl ⟨.inl (.inl (f.fh _ _ h1)), fun l hl => q _ _ (f.popV.tupNew hl h2)⟩⟩
  · cases e
    obtain ⟨v, rfl⟩ := len1 hl
    obtain ⟨F, fp, f⟩ := r
    have f : RelF Y.K c σ ρ ((v, .val (.tuple _)) :: T) H F fp := f
    obtain ⟨p, us, rfl, h1, h2⟩ := f.top.tupAt
    exact ⟨p, us, rfl, .inr ⟨same_tup f.fh h1, q _ _ ⟨F, fp, f⟩⟩⟩
  · cases e
/-- repr of data -/
def gRepr : List PyData → Option Ent
  | [d] => if d.showable && SeqAt.shaped d && decide (d.shown.length ≤ 100000) then some (.val (.str d.shown)) else none
  | _ => none
def rReprD (K : PySem.W.Frag) : List V → Hp → VK → Prop := fun xs H Q => ∃ x d, xs = [x] ∧ Dp K H x d ∧ d.showable = true ∧ SeqAt.shaped d = true ∧ d.shown.length ≤ sizeLine ∧ Q (.str d.shown) H
end
end Fj

set_option Elab.async false
set_option linter.all false
set_option maxRecDepth 100000
set_option maxHeartbeats 4000000
set_option autoImplicit false
/-! repr, isinstance; what is walked; targets; statements, loops, comprehensions; lists that a def owns. -/
namespace Fj
open PySem PySem.Spec PyProof.Rows L2

/-! ### repr -/
theorem cr_reprD {X : Cx} {k : Nat} (gd : X.A.guards = some []) (hr : Room k X.A) : CallR X (.builtin "repr") (rReprD X.K) := fun pins s σ H xs us Q I r h => by
  obtain ⟨x, d, rfl, hd, h1, h2, h3, q⟩ := h
  obtain ⟨u, rfl, ru⟩ := vals1 r
  obtain ⟨as, rd⟩ := Dp.reads I d x u hd ru
  have hu := units65 hr
  have hdep : d.depth ≤ 64 := of_decide_eq_true (Bool.and_eq_true_iff.mp h2).2
  cases d with
  | none =>
    cases hd
    cases (show u = Value.none from ru)
    exact PySem.P.repr_of_none ⟨.str _, H, I.tok _, ⟨_, rfl⟩, by simpa only [PyData.shown] using q⟩
  | bool b =>
    cases hd
    cases (show u = Value.bool b from ru)
    exact PySem.P.repr_of_bool ⟨.str _, H, I.tok _, ⟨_, rfl⟩, by simpa only [PyData.shown] using q⟩
  | int i =>
    cases hd
    obtain ⟨t, rfl⟩ := (show ∃ t, u = Value.int i t from ru)
    exact PySem.P.repr_of_int (by simpa only [PyData.showable, decide_eq_true_eq] using h1) ⟨.str _, H, I.tok _, ⟨_, rfl⟩, by simpa only [PyData.shown] using q⟩
  | str z =>
    cases hd
    obtain ⟨t, rfl⟩ := (show ∃ t, u = Value.str z t from ru)
    exact PySem.P.repr_of_str ⟨.str _, H, I.tok _, ⟨_, rfl⟩, by simpa only [PyData.shown] using q⟩ (by simpa only [PyData.shown] using h3)
  | list ds =>
    cases hd with
    | lst hs ha =>
      cases (show u = Value.ref _ from ru)
      exact repr_of_reads' rd h1 (PyData.noDict_hsm (PyData.hasDict_of_canLay _ (SeqAt.canLay_of_shaped h2))) gd (by omega) (fun _ _ z => z) (fun h' u tk hk => ⟨.str _, H, I.kept (h' := h') (t' := tk) hk, ⟨_, rfl⟩, q⟩) h3
  | tuple ds =>
    cases hd with
    | tup hs ha =>
      cases (show u = Value.ref _ from ru)
      exact repr_of_reads' rd h1 (PyData.noDict_hsm (PyData.hasDict_of_canLay _ (SeqAt.canLay_of_shaped h2))) gd (by omega) (fun _ _ z => z) (fun h' u tk hk => ⟨.str _, H, I.kept (h' := h') (t' := tk) hk, ⟨_, rfl⟩, q⟩) h3
  | dict _ => cases hd
section
variable {Y : Fam} {e a b : Expr} {es : List Expr} {pos : Pos}
theorem c_repr : CallJ Y (.builtin "repr") gRepr := by
  refine ⟨rReprD Y.K, fun j => by rw [← Y.hK j]; exact cr_reprD (Y.gd j) (Y.room j), fun c σ ρ T H vs ds z Q hl r e q => ?_⟩
  unfold gRepr at e
  split at e
  · rename_i d
    split at e
    · rename_i hs
      cases e
      obtain ⟨h12, h3⟩ := Bool.and_eq_true_iff.mp hs
      obtain ⟨h1, h2⟩ := Bool.and_eq_true_iff.mp h12
      obtain ⟨v, rfl⟩ := len1 hl
      have r : Rel Y.K c σ ρ ((v, .val d) :: T) H := r
      exact ⟨v, d, rfl, r.top.dp (SeqAt.canLay_of_shaped h2), h1, h2, sz5 (of_decide_eq_true h3), q _ _ (r.pop.pushS _)⟩
    · cases e
  · cases e
/-! ### isinstance(x, T), T a built-in type -/
def tyN : PyData → String
  | .none => "NoneType"
  | .bool _ => "bool"
  | .int _ => "int"
  | .str _ => "str"
  | .list _ => "list"
  | .tuple _ => "tuple"
  | .dict _ => "dict"
theorem Rp.ty {K : PySem.W.Frag} {H : Hp} {v : V} {d : PyData} (h : Rp K H v d) : TyX K H v (.type (tyN d)) := by
  cases h with
  | non => exact .base .non
  | bl b => exact .base (.bl b)
  | int i => exact .base (.int i)
  | str x => exact .base (.str x)
  | lst h r => exact .base (.lst h)
  | dct h => exact .base (.dK h)
  | tup h r =>
    rcases h with (h | ⟨o, h⟩) | ⟨o, its, n, h1, h2, _⟩
    · exact .base (.tup h)
    · exact .fTuple h
    · exact .kTuple h1 h2
def mIsi (T : String) (m : MV) : MV := fun ρ => match m ρ with
  | none => none
  | some (d, ρ) => (kitB (tyN d) T).map fun b => (.bool b, ρ)
theorem j_isi {m : MV} {x : Str} {T : String} {p p2 : Pos} (h : JV Y e m) (hi : Y.mg "isinstance" = none) (hm : Y.mg x = none) (hv : bootBuiltins x = some (.type T) := by decide +kernel) (hg : ∀ j, Gl (Y.X j) "isinstance" := by intro _; rfl) (hg2 : ∀ j, Gl (Y.X j) x := by intro _; rfl)
    (hn : x ≠ "__name__" := by decide) (hdb : (x == ("__debug__" : Str)) = false := by decide) (hs1 : ∀ j, starEach [e, .Name x p2] (Y.X j).env = (false, eval e (Y.X j).env) :: starEach [.Name x p2] (Y.X j).env := by intro _; rfl)
    (hs2 : ∀ j, starEach [.Name x p2] (Y.X j).env = (false, eval (.Name x p2) (Y.X j).env) :: starEach [] (Y.X j).env := by intro _; rfl) (hpl : ∀ j, (backTo pos (starEach [.Name x p2] (Y.X j).env)).any (·.1) = false := by intro _; rfl) : JV Y (.Call (.Name "isinstance" p) [e, .Name x p2] [] pos) (mIsi T m) := by
  obtain ⟨t, pa, s⟩ := h
  refine ⟨tCB (rIsi Y.K) (tCons t (tCons (tC (.ty T)) tNil)), fun j => by
    rw [← Y.hK j]
    exact pe_callB call_isi (hg j) (by rw [Y.hmg j]; exact hi) (by decide +kernel) (pa_cons (pa j) (pa_cons (pe_bltn (hg2 j) (by rw [Y.hmg j]; exact hm) hv rfl hn hdb) pa_nil (hs2 j)) (hs1 j)) (by decide) (by decide) (hs1 j) (hpl j), fun c σ ρ T' H Q re q => s c σ ρ T' H _ re ?_⟩
  unfold mIsi at q
  cases hm : m ρ with
  | none =>
    rw [hm] at q
    exact q
  | some z =>
    obtain ⟨d, ρ1⟩ := z
    rw [hm] at q
    simp only at q
    intro v H1 r1
    cases hk : kitB (tyN d) T with
    | none =>
      rw [hk] at q
      exact q.elim
    | some b =>
      rw [hk] at q
      exact ⟨v, .ty T, _, .type T, b, rfl, .ty T, r1.top.ty, kit_ty hk, q _ _ (r1.pop.pushB b)⟩
end

/-! ### what is walked -/
def Walk (K : PySem.W.Frag) (c : Ct) (J : It) (Tk : Tm) (ds : List PyData) : Prop := ∀ (σ : L2.St) (ρ : En) (T : Tm) (H : Hp), Rel K c σ ρ (Tk ++ T) H → ∀ i : Nat,
  (∀ d, ds[i]? = some d → J.go i H ∧ ∀ x H', J.yld i H x H' → Rel K c σ ρ ((x, .val d) :: (Tk ++ T)) H') ∧ (ds.length ≤ i → J.stop i H)
abbrev MI := En → Option (List PyData × En)
def PostI (K : PySem.W.Frag) (c : Ct) (σ : L2.St) (T : Tm) (r : Option (List PyData × En)) (R : It → Hp → Prop) : Prop := match r with
  | none => False
  | some (ds, ρ) => ∀ J Tk H, Walk K c J Tk ds → Rel K c σ ρ (Tk ++ T) H → R J H
def SemI (K : PySem.W.Frag) (wi : TI) (m : MI) : Prop := ∀ (c : Ct) (σ : L2.St) (ρ : En) (T : Tm) (H : Hp) (R : It → Hp → Prop), Rel K c σ ρ T H → PostI K c σ T (m ρ) R → wi σ H R
def JI (Y : Fam) (tg e : Expr) (m : MI) : Prop := ∃ wi, (∀ i, PI (Y.X i) tg e wi) ∧ SemI Y.K wi m
theorem pi_or {X : Cx} {tg e : Expr} {w1 w2 : TI} (h : PI X tg e w1) (g : PI X tg e w2) : PI X tg e (fun σ H R => w1 σ H R ∨ w2 σ H R) := ⟨fun pins s σ H R I z => z.elim (h.run pins s σ H R I) (g.run pins s σ H R I)⟩
section
variable {K : PySem.W.Frag} {c : Ct}
theorem walk_lst {a : Addr} {ds : List PyData} : Walk K c (Itl K a) [(.ref a, .val (.list ds))] ds := fun σ ρ T H r i => by
  obtain ⟨F, fp, f⟩ := r
  have f : RelF K c σ ρ ((.ref a, .val (.list ds)) :: T) H F fp := f
  obtain ⟨p, us, e, h1, h2⟩ := f.top.lstAt
  cases e
  have hq : SqL K H a us := .inl (.inl (f.fh _ _ h1))
  refine ⟨fun d hd => ?_, fun hl => ⟨us, hq, by rw [h2.length]; exact hl⟩⟩
  obtain ⟨v, hv, rv⟩ := h2.get hd
  refine ⟨⟨us, v, hq, hv⟩, fun x H' y => ?_⟩
  obtain ⟨rfl, y⟩ := y
  have := y us hq
  rw [hv] at this
  cases this
  exact ⟨F, fp, f.push rv⟩
theorem walk_tup {a : Addr} {ds : List PyData} : Walk K c (Itt K a) [(.ref a, .val (.tuple ds))] ds := fun σ ρ T H r i => by
  obtain ⟨F, fp, f⟩ := r
  have f : RelF K c σ ρ ((.ref a, .val (.tuple ds)) :: T) H F fp := f
  obtain ⟨p, us, e, h1, h2⟩ := f.top.tupAt
  cases e
  have hq : SqT K H a us := same_tup f.fh h1
  refine ⟨fun d hd => ?_, fun hl => ⟨us, hq, by rw [h2.length]; exact hl⟩⟩
  obtain ⟨v, hv, rv⟩ := h2.get hd
  refine ⟨⟨us, v, hq, hv⟩, fun x H' y => ?_⟩
  obtain ⟨rfl, y⟩ := y
  have := y us hq
  rw [hv] at this
  cases this
  exact ⟨F, fp, f.push rv⟩
def signsD (x : Str) : List PyData := x.cps.toList.map fun k => .str ⟨#[k]⟩
theorem walk_str {x : Str} : Walk K c (Its x) [] (signsD x) := fun σ ρ T H r i => by
  refine ⟨fun d hd => ?_, fun hl => ?_⟩
  · unfold signsD at hd
    rw [List.getElem?_map] at hd
    obtain ⟨k, hk, rfl⟩ := Option.map_eq_some_iff.mp hd
    have hk' : x.cps[i]? = some k := by
      rw [← Array.getElem?_toList]
      exact hk
    refine ⟨(Array.getElem?_eq_some_iff.mp hk').1, fun v H' y => ?_⟩
    obtain ⟨rfl, k2, h2, rfl⟩ := y
    rw [hk'] at h2
    cases h2
    exact r.pushS _
  · unfold signsD at hl
    rw [List.length_map, Array.length_toList] at hl
    exact hl
def rngD (lo : Int) (n : Nat) : List PyData := (List.range n).map fun i => .int (lo + (i : Nat))
theorem walk_rng {lo : Int} {n : Nat} : Walk K c (Itr lo n) [] (rngD lo n) := fun σ ρ T H r i => by
  refine ⟨fun d hd => ?_, fun hl => ?_⟩
  · unfold rngD at hd
    rw [List.getElem?_map] at hd
    obtain ⟨k, hk, rfl⟩ := Option.map_eq_some_iff.mp hd
    have hi : i < n := by
      have := (List.getElem?_eq_some_iff.mp hk).1
      simpa using this
    have : k = i := by
      rw [List.getElem?_range hi] at hk
      cases hk
      rfl
    subst this
    refine ⟨hi, fun v H' y => ?_⟩
    obtain ⟨rfl, rfl⟩ := y
    exact r.pushI _
  · unfold rngD at hl
    rw [List.length_map, List.length_range] at hl
    exact hl
def rngCD (lo st : Int) (n : Nat) : List PyData := (List.range n).map fun i => .int (lo + (i : Nat) * st)
theorem walk_rngC {lo st : Int} {n : Nat} : Walk K c (Itc lo st n) [] (rngCD lo st n) := fun σ ρ T H r i => by
  refine ⟨fun d hd => ?_, fun hl => ?_⟩
  · unfold rngCD at hd
    rw [List.getElem?_map] at hd
    obtain ⟨k, hk, rfl⟩ := Option.map_eq_some_iff.mp hd
    have hi : i < n := by
      have := (List.getElem?_eq_some_iff.mp hk).1
      simpa using this
    have : k = i := by
      rw [List.getElem?_range hi] at hk
      cases hk
      rfl
    subst this
    refine ⟨hi, fun v H' y => ?_⟩
    obtain ⟨rfl, rfl⟩ := y
    exact r.pushI _
  · unfold rngCD at hl
    rw [List.length_map, List.length_range] at hl
    exact hl
def enumD : Nat → List PyData → List PyData
  | _, [] => []
  | n, d :: ds => .tuple [.int (n : Nat), d] :: enumD (n + 1) ds
theorem enumD_get : ∀ (ds : List PyData) (n i : Nat), (enumD n ds)[i]? = (ds[i]?).map fun d => .tuple [.int ((n + i : Nat) : Int), d]
  | [], n, i => by simp [enumD]
  | d :: ds, n, 0 => by simp [enumD]
  | d :: ds, n, i + 1 => by
    show (enumD (n + 1) ds)[i]? = _
    rw [enumD_get ds (n + 1) i, List.getElem?_cons_succ]
    have : n + 1 + i = n + (i + 1) := by omega
    rw [this]
theorem enumD_length : ∀ (ds : List PyData) (n : Nat), (enumD n ds).length = ds.length
  | [], n => rfl
  | d :: ds, n => congrArg Nat.succ (enumD_length ds (n + 1))
theorem walk_enum {a : Addr} {ds : List PyData} : Walk K c (Ite K a) [(.ref a, .val (.list ds))] (enumD 0 ds) := fun σ ρ T H r i => by
  obtain ⟨F, fp, f⟩ := r
  have f : RelF K c σ ρ ((.ref a, .val (.list ds)) :: T) H F fp := f
  obtain ⟨p, us, e, h1, h2⟩ := f.top.lstAt
  cases e
  have hq : SqL K H a us := .inl (.inl (f.fh _ _ h1))
  refine ⟨fun d hd => ?_, fun hl => ⟨us, hq, by rw [h2.length, ← enumD_length ds 0]; exact hl⟩⟩
  rw [enumD_get, Nat.zero_add] at hd
  obtain ⟨d0, hd0, rfl⟩ := Option.map_eq_some_iff.mp hd
  obtain ⟨v, hv, rv⟩ := h2.get hd0
  refine ⟨⟨us, v, hq, hv⟩, fun x H' y => ?_⟩
  obtain ⟨tt, x', rfl, ht, rfl, y⟩ := y
  have := y us hq
  rw [hv] at this
  cases this
  exact f.tupNew ht (.cons (.int _) (.cons rv .nil))
def zipD (xs ys : List PyData) : List PyData := (xs.zip ys).map fun p => .tuple [p.1, p.2]
theorem walk_zip {a b : Addr} {xs ys : List PyData} : Walk K c (Itz K a b) [(.ref b, .val (.list ys)), (.ref a, .val (.list xs))] (zipD xs ys) := fun σ ρ T H r i => by
  obtain ⟨F, fp, f⟩ := r
  have f : RelF K c σ ρ ((.ref b, .val (.list ys)) :: (.ref a, .val (.list xs)) :: T) H F fp := f
  obtain ⟨p, us, e, h1, h2⟩ := f.top.lstAt
  cases e
  obtain ⟨p, ws, e, g1, g2⟩ := f.popV.top.lstAt
  cases e
  have hq : SqL K H b us := .inl (.inl (f.fh _ _ h1))
  have gq : SqL K H a ws := .inl (.inl (f.fh _ _ g1))
  refine ⟨fun d hd => ?_, fun hl => ⟨ws, us, gq, hq, ?_⟩⟩
  · unfold zipD at hd
    rw [List.getElem?_map] at hd
    obtain ⟨⟨d1, d2⟩, hp, rfl⟩ := Option.map_eq_some_iff.mp hd
    obtain ⟨e1, e2⟩ := List.getElem?_zip_eq_some.mp hp
    obtain ⟨v2, hv2, rv2⟩ := h2.get e2
    obtain ⟨v1, hv1, rv1⟩ := g2.get e1
    refine ⟨⟨ws, us, v1, v2, gq, hq, hv1, hv2⟩, fun x H' y => ?_⟩
    obtain ⟨tt, x1, x2, rfl, ht, rfl, y1, y2⟩ := y
    have z1 := y1 ws gq
    have z2 := y2 us hq
    rw [hv1] at z1
    rw [hv2] at z2
    cases z1
    cases z2
    exact f.tupNew ht (.cons rv1 (.cons rv2 .nil))
  · unfold zipD at hl
    rw [List.length_map, List.length_zip] at hl
    rw [h2.length, g2.length]
    omega
theorem walk_zipT {a b : Addr} {xs ys : List PyData} : Walk K c (RZ.ItzT K a b) [(.ref b, .val (.tuple ys)), (.ref a, .val (.tuple xs))] (zipD xs ys) := fun σ ρ T H r i => by
  obtain ⟨F, fp, f⟩ := r
  have f : RelF K c σ ρ ((.ref b, .val (.tuple ys)) :: (.ref a, .val (.tuple xs)) :: T) H F fp := f
  obtain ⟨p, us, e, h1, h2⟩ := f.top.tupAt
  cases e
  obtain ⟨p, ws, e, g1, g2⟩ := f.popV.top.tupAt
  cases e
  have hq : SqT K H b us := same_tup f.fh h1
  have gq : SqT K H a ws := same_tup f.fh g1
  refine ⟨fun d hd => ?_, fun hl => ⟨ws, us, gq, hq, ?_⟩⟩
  · unfold zipD at hd
    rw [List.getElem?_map] at hd
    obtain ⟨⟨d1, d2⟩, hp, rfl⟩ := Option.map_eq_some_iff.mp hd
    obtain ⟨e1, e2⟩ := List.getElem?_zip_eq_some.mp hp
    obtain ⟨v2, hv2, rv2⟩ := h2.get e2
    obtain ⟨v1, hv1, rv1⟩ := g2.get e1
    refine ⟨⟨ws, us, v1, v2, gq, hq, hv1, hv2⟩, fun x H' y => ?_⟩
    obtain ⟨tt, x1, x2, rfl, ht, rfl, y1, y2⟩ := y
    have z1 := y1 ws gq
    have z2 := y2 us hq
    rw [hv1] at z1
    rw [hv2] at z2
    cases z1
    cases z2
    exact f.tupNew ht (.cons rv1 (.cons rv2 .nil))
  · unfold zipD at hl
    rw [List.length_map, List.length_zip] at hl
    rw [h2.length, g2.length]
    omega
end
section
variable {Y : Fam} {tg e e2 a b d0 : Expr} {p pos tpos : Pos}
/-- a list, a tuple, a text -/
def mIt (m : MV) : MI := fun ρ => match m ρ with
  | some (.list ds, ρ) => some (ds, ρ)
  | some (.tuple ds, ρ) => some (ds, ρ)
  | some (.str x, ρ) => some (signsD x, ρ)
  | _ => none
theorem i_any {m : MV} (h : JV Y e m) : JI Y tg e (mIt m) := by
  obtain ⟨t, p, s⟩ := h
  refine ⟨fun σ H R => (iList Y.K t σ H R ∨ iTup Y.K t σ H R) ∨ iStr t σ H R, fun j => by rw [← Y.hK j]; exact pi_or (pi_or (pi_list (p j)) (pi_tup (p j))) (pi_str (p j)), fun c σ ρ T H R re q => ?_⟩
  unfold mIt at q
  split at q
  · rename_i ds ρ1 hm
    refine .inl (.inl (s c σ ρ T H _ re ?_))
    rw [hm]
    intro v H1 r1
    obtain ⟨F, fp, f⟩ := r1
    obtain ⟨p, us, rfl, h1, h2⟩ := f.top.lstAt
    exact ⟨p, rfl, ⟨us, .inl (.inl (f.fh _ _ h1))⟩, q _ _ _ walk_lst ⟨F, fp, f⟩⟩
  · rename_i ds ρ1 hm
    refine .inl (.inr (s c σ ρ T H _ re ?_))
    rw [hm]
    intro v H1 r1
    obtain ⟨F, fp, f⟩ := r1
    obtain ⟨p, us, rfl, h1, h2⟩ := f.top.tupAt
    exact ⟨p, rfl, ⟨us, same_tup f.fh h1⟩, q _ _ _ walk_tup ⟨F, fp, f⟩⟩
  · rename_i x ρ1 hm
    refine .inr (s c σ ρ T H _ re ?_)
    rw [hm]
    intro v H1 r1
    have r1 : Rel Y.K c σ ρ1 ((v, .val (.str x)) :: T) H1 := r1
    exact ⟨x, r1.strTop, q _ [] _ walk_str r1.pop⟩
  · exact q.elim
def R1ok (j : Int) : Prop := -(2 ^ 62) ≤ j ∧ j < 2 ^ 62
noncomputable instance (j : Int) : Decidable (R1ok j) := Classical.propDecidable _
def R2ok (i j : Int) : Prop := -(2 ^ 62) ≤ i ∧ i < 2 ^ 62 ∧ -(2 ^ 62) ≤ j ∧ j < 2 ^ 62
noncomputable instance (i j : Int) : Decidable (R2ok i j) := Classical.propDecidable _
noncomputable def mR1 (n : MA) : MI := fun ρ => match n ρ with
  | some ([.int j], ρ) => if R1ok j then some (rngD 0 j.toNat, ρ) else none
  | _ => none
noncomputable def mR2 (n : MA) : MI := fun ρ => match n ρ with
  | some ([.int i, .int j], ρ) => if R2ok i j then some (rngD i (j - i).toNat, ρ) else none
  | _ => none
theorem i_range1 {n : MA} (ha : JA Y [a] n) (hm : Y.mg "range" = none) (hg : ∀ j, Gl (Y.X j) "range" := by intro _; rfl) (hs : ∀ j, starEach [a] (Y.X j).env = [(false, eval a (Y.X j).env)] := by intro _; rfl) : JI Y tg (.Call (.Name "range" p) [a] [] pos) (mR1 n) := by
  obtain ⟨t, pa, s⟩ := ha
  refine ⟨iRng1 t, fun j => pi_range1 (hg j) (by rw [Y.hmg j]; exact hm) (pa j) (hs j), fun c σ ρ T H R re q => s c σ ρ T H _ re ?_⟩
  unfold mR1 at q
  split at q
  · rename_i j ρ1 hn
    rw [hn]
    split at q
    · rename_i hb
      intro vs H1 hl r1
      obtain ⟨v, rfl⟩ := len1 hl
      have r1 : Rel Y.K c σ ρ1 ((v, .val (.int j)) :: T) H1 := r1
      have hv := r1.intTop
      subst hv
      exact ⟨j, rfl, hb.1, hb.2, q _ [] _ walk_rng r1.pop⟩
    · exact q.elim
  · exact q.elim
theorem i_range2 {n : MA} (ha : JA Y [a, b] n) (hm : Y.mg "range" = none) (hg : ∀ j, Gl (Y.X j) "range" := by intro _; rfl) (hs : ∀ j, starEach [a, b] (Y.X j).env = [(false, eval a (Y.X j).env), (false, eval b (Y.X j).env)] := by intro _; rfl)
    (hs2 : ∀ j, starEach [b] (Y.X j).env = [(false, eval b (Y.X j).env)] := by intro _; rfl) : JI Y tg (.Call (.Name "range" p) [a, b] [] pos) (mR2 n) := by
  obtain ⟨t, pa, s⟩ := ha
  refine ⟨iRng2 t, fun j => pi_range2 (hg j) (by rw [Y.hmg j]; exact hm) (pa j) (hs j) (hs2 j), fun c σ ρ T H R re q => s c σ ρ T H _ re ?_⟩
  unfold mR2 at q
  split at q
  · rename_i i j ρ1 hn
    rw [hn]
    split at q
    · rename_i hb
      intro vs H1 hl r1
      obtain ⟨v, w, rfl⟩ := len2 hl
      have r1 : Rel Y.K c σ ρ1 ((w, .val (.int j)) :: (v, .val (.int i)) :: T) H1 := r1
      have hw := r1.intTop
      have hv := r1.pop.intTop
      subst hv hw
      exact ⟨i, j, rfl, hb, q _ [] _ walk_rng r1.pop2⟩
    · exact q.elim
  · exact q.elim
/-- what range asks of three numbers -/
def R3ok (i j k : Int) : Prop := k ≠ 0 ∧ k.natAbs < 1073741824 ∧ Builtin.Range.small i j k = true ∧ 0 ≤ Builtin.Range.rangeSize i j k
noncomputable instance (i j k : Int) : Decidable (R3ok i j k) := Classical.propDecidable _
noncomputable def mR3 (n : MA) : MI := fun ρ => match n ρ with
  | some ([.int i, .int j, .int k], ρ) => if R3ok i j k then some (rngCD i k (Builtin.Range.rangeSize i j k).toNat, ρ) else none
  | _ => none
theorem i_range3 {n : MA} (ha : JA Y [a, b, d0] n) (hm : Y.mg "range" = none) (hg : ∀ j, Gl (Y.X j) "range" := by intro _; rfl) (hs : ∀ j, starEach [a, b, d0] (Y.X j).env = (false, eval a (Y.X j).env) :: starEach [b, d0] (Y.X j).env := by intro _; rfl)
    (hpl : ∀ j, (backTo pos (starEach [b, d0] (Y.X j).env)).any (·.1) = false := by intro _; rfl) : JI Y tg (.Call (.Name "range" p) [a, b, d0] [] pos) (mR3 n) := by
  obtain ⟨t, pa, s⟩ := ha
  refine ⟨iRng3 t, fun j => pi_range3 (hg j) (by rw [Y.hmg j]; exact hm) (pa j) (hs j) (hpl j), fun c σ ρ T H R re q => s c σ ρ T H _ re ?_⟩
  unfold mR3 at q
  split at q
  · rename_i i j k ρ1 hn
    rw [hn]
    split at q
    · rename_i hb
      intro vs H1 hl r1
      obtain ⟨h1, r0⟩ := r1.tms hl
      cases h1 with
      | cons x1 t1 =>
        cases t1 with
        | cons x2 t2 =>
          cases t2 with
          | cons x3 t3 =>
            cases t3
            cases x1
            cases x2
            cases x3
            exact ⟨i, j, k, _, rfl, ⟨hb.1, hb.2.1, hb.2.2.1, by rw [Int.toNat_of_nonneg hb.2.2.2]⟩, q _ [] _ walk_rngC r0⟩
    · exact q.elim
  · exact q.elim
def mEnum (n : MA) : MI := fun ρ => match n ρ with
  | some ([.list ds], ρ) => some (enumD 0 ds, ρ)
  | _ => none
theorem i_enum {n : MA} {elts : List Expr} {kk : Nat} (ha : JA Y [e] n) (hm : Y.mg "enumerate" = none) (hg : ∀ j, Gl (Y.X j) "enumerate" := by intro _; rfl) (hs : ∀ j, starEach [e] (Y.X j).env = [(false, eval e (Y.X j).env)] := by intro _; rfl) : JI Y (.Tuple elts kk tpos) (.Call (.Name "enumerate" p) [e] [] pos) (mEnum n) := by
  obtain ⟨t, pa, s⟩ := ha
  refine ⟨iEnum Y.K t, fun j => by rw [← Y.hK j]; exact pi_enum (hg j) (by rw [Y.hmg j]; exact hm) (pa j) (hs j), fun c σ ρ T H R re q => s c σ ρ T H _ re ?_⟩
  unfold mEnum at q
  split at q
  · rename_i ds ρ1 hn
    rw [hn]
    intro vs H1 hl r1
    obtain ⟨v, rfl⟩ := len1 hl
    obtain ⟨F, fp, f⟩ := r1
    have f : RelF Y.K c σ ρ1 ((v, .val (.list ds)) :: T) H1 F fp := f
    obtain ⟨p, us, rfl, h1, h2⟩ := f.top.lstAt
    exact ⟨p, us, rfl, .inl (.inl (f.fh _ _ h1)), q _ _ _ walk_enum ⟨F, fp, f⟩⟩
  · exact q.elim
def mZip (n : MA) : MI := fun ρ => match n ρ with
  | some ([.list xs, .list ys], ρ) => some (zipD xs ys, ρ)
  | some ([.tuple xs, .tuple ys], ρ) => some (zipD xs ys, ρ)
  | _ => none
theorem i_zip {n : MA} {elts : List Expr} {kk : Nat} (ha : JA Y [e, e2] n) (hm : Y.mg "zip" = none) (hg : ∀ j, Gl (Y.X j) "zip" := by intro _; rfl) (hs : ∀ j, starEach [e, e2] (Y.X j).env = (false, eval e (Y.X j).env) :: starEach [e2] (Y.X j).env := by intro _; rfl)
    (hpl : ∀ j, (backTo pos (starEach [e2] (Y.X j).env)).any (·.1) = false := by intro _; rfl) : JI Y (.Tuple elts kk tpos) (.Call (.Name "zip" p) [e, e2] [] pos) (mZip n) := by
  obtain ⟨t, pa, s⟩ := ha
  refine ⟨RZ.iZipA Y.K t, fun j => by rw [← Y.hK j]; exact RZ.pi_zipA (hg j) (by rw [Y.hmg j]; exact hm) (pa j) (hs j) (hpl j), fun c σ ρ T H R re q => s c σ ρ T H _ re ?_⟩
  unfold mZip at q
  split at q
  · rename_i xs ys ρ1 hn
    rw [hn]
    intro vs H1 hl r1
    obtain ⟨v, w, rfl⟩ := len2 hl
    obtain ⟨F, fp, f⟩ := r1
    have f : RelF Y.K c σ ρ1 ((w, .val (.list ys)) :: (v, .val (.list xs)) :: T) H1 F fp := f
    obtain ⟨p, us, rfl, h1, h2⟩ := f.top.lstAt
    obtain ⟨p', us', rfl, g1, g2⟩ := f.popV.top.lstAt
    exact ⟨p', p, us', us, rfl, .inl ⟨.inl (.inl (f.fh _ _ g1)), .inl (.inl (f.fh _ _ h1)), q _ _ _ walk_zip ⟨F, fp, f⟩⟩⟩
  · rename_i xs ys ρ1 hn
    rw [hn]
    intro vs H1 hl r1
    obtain ⟨v, w, rfl⟩ := len2 hl
    obtain ⟨F, fp, f⟩ := r1
    have f : RelF Y.K c σ ρ1 ((w, .val (.tuple ys)) :: (v, .val (.tuple xs)) :: T) H1 F fp := f
    obtain ⟨p, us, rfl, h1, h2⟩ := f.top.tupAt
    obtain ⟨p', us', rfl, g1, g2⟩ := f.popV.top.tupAt
    exact ⟨p', p, us', us, rfl, .inr ⟨same_tup f.fh g1, same_tup f.fh h1, q _ _ _ walk_zipT ⟨F, fp, f⟩⟩⟩
  · exact q.elim
end
end Fj

set_option Elab.async false
set_option linter.all false
set_option maxRecDepth 100000
set_option maxHeartbeats 4000000
set_option autoImplicit false
/-! Targets, statements, loops, comprehensions, cells. -/
namespace Fj
open PySem PySem.Spec PyProof.Rows L2

/-! ### targets -/
theorem wipe_get (σ : L2.St) : ∀ (vs : List Nat) (j : Nat), (L2.wipe σ vs)[j]? = if j ∈ vs then (σ[j]?).map (fun _ => none) else σ[j]?
  | [], j => by simp [L2.wipe]
  | v :: vs, j => by
    unfold L2.wipe
    by_cases h : v = j
    · subst h
      rw [if_pos (List.mem_cons_self ..)]
      by_cases hl : v < (L2.wipe σ vs).length
      · rw [List.getElem?_set_self hl]
        rw [wipe_length] at hl
        rw [List.getElem?_eq_getElem hl]
        rfl
      · rw [List.getElem?_eq_none (by rw [List.length_set]; omega)]
        rw [wipe_length] at hl
        rw [List.getElem?_eq_none (by omega)]
        rfl
    · rw [List.getElem?_set_ne h, wipe_get σ vs j]
      have e : (j ∈ v :: vs) ↔ j ∈ vs := by
        rw [List.mem_cons]
        exact ⟨fun z => z.elim (fun z => absurd z.symm h) id, .inr⟩
      by_cases hj : j ∈ vs
      · rw [if_pos hj, if_pos (e.mpr hj)]
      · rw [if_neg hj, if_neg fun z => hj (e.mp z)]
theorem wipe_set {σ : L2.St} {vs : List Nat} {i : Nat} {x : Option V} (h : i ∈ vs) : L2.wipe (σ.set i x) vs = L2.wipe σ vs := by
  refine List.ext_getElem? fun j => ?_
  rw [wipe_get, wipe_get]
  by_cases hj : j ∈ vs
  · rw [if_pos hj, if_pos hj]
    by_cases e : i = j
    · subst e
      by_cases hl : i < σ.length
      · rw [List.getElem?_set_self hl, List.getElem?_eq_getElem hl]
        rfl
      · rw [List.set_eq_of_length_le (by omega)]
    · rw [List.getElem?_set_ne e]
  · rw [if_neg hj, if_neg hj]
    rw [List.getElem?_set_ne fun e => hj (by rw [← e]; exact h)]
abbrev MG := PyData → En → Option En
def PostG (K : PySem.W.Frag) (c : Ct) (σ : L2.St) (T : Tm) (sl : List Nat) (r : Option En) (Q : L2.St → Hp → Prop) : Prop := match r with
  | none => False
  | some ρ => ∀ σ' H, Rel K c σ' ρ T H → (∀ vs : List Nat, (∀ i ∈ sl, i ∈ vs) → L2.wipe σ' vs = L2.wipe σ vs) → Q σ' H
def SemG (K : PySem.W.Frag) (g : TG) (m : MG) (sl : List Nat) : Prop := ∀ (c : Ct) (σ : L2.St) (ρ : En) (T : Tm) (H : Hp) (x : V) (d : PyData) (Q : L2.St → Hp → Prop), Rel K c σ ρ ((x, .val d) :: T) H → PostG K c σ T sl (m d ρ) Q → g x σ H Q
def JG (Y : Fam) (tg : Expr) (m : MG) (sl : List Nat) : Prop := ∃ g, (∀ i, PG (Y.X i) tg g) ∧ SemG Y.K g m sl
def mN (i : Nat) : MG := fun d ρ => if freeE ρ i = true then some (ρ.set i (.val d)) else none
def tmf (vs : List V) (ds : List PyData) : Tm := vs.zip (ds.map Ent.val)
def SemGs (K : PySem.W.Frag) (g : TGs) (m : List PyData → En → Option En) (sl : List Nat) : Prop := ∀ (c : Ct) (σ : L2.St) (ρ : En) (T : Tm) (H : Hp) (xs : List V) (ds : List PyData) (Q : L2.St → Hp → Prop), xs.length = ds.length → Rel K c σ ρ (tmf xs ds ++ T) H → PostG K c σ T sl (m ds ρ) Q → g xs σ H Q
def JGs (Y : Fam) (ts : List Expr) (m : List PyData → En → Option En) (sl : List Nat) : Prop := ∃ g, (∀ i, PGs (Y.X i) ts g) ∧ SemGs Y.K g m sl
def mN0 : List PyData → En → Option En := fun ds ρ => match ds with
  | [] => some ρ
  | _ => none
def mN1 (m : MG) (n : List PyData → En → Option En) : List PyData → En → Option En := fun ds ρ => match ds with
  | d :: ds => (m d ρ).bind fun ρ => n ds ρ
  | [] => none
def mTupG (k : Nat) (n : List PyData → En → Option En) : MG := fun d ρ => match d with
  | .tuple ds => if ds.length = k then n ds ρ else none
  | .list ds => if ds.length = k then n ds ρ else none
  | _ => none
section
variable {Y : Fam} {pos : Pos}
theorem g_name (i : Nat) {x : Str} (hi : ∀ j, (Y.X j).N[i]? = some x := by intro _; rfl) (hN : ∀ j, (Y.X j).N.Nodup := by assumption) (hx : ∀ j, Loc (Y.X j).env.scope x := by first | exact fun _ => Or.inl rfl | exact fun _ => Or.inr rfl)
    (hf : ∀ j, (Y.X j).fn x = true ∨ (Y.X j).env.scope.names.lookup x = some .local := by first | exact fun _ => .inl rfl | exact fun _ => .inr rfl) : JG Y (.Name x pos) (mN i) [i] := by
  refine ⟨gName i, fun j => pg_name (hN j) (hi j) (hx j) (hf j), fun c σ ρ T H x d Q r q => ?_⟩
  unfold mN at q
  split at q
  · rename_i h
    exact q _ _ (r.put h) fun vs hv => wipe_set (hv i (List.mem_singleton.mpr rfl))
  · exact q.elim
theorem gs_nil : JGs Y [] mN0 [] := by
  refine ⟨gNil, fun j => pgs_nil, fun c σ ρ T H xs ds Q hl r q => ?_⟩
  unfold mN0 at q
  split at q
  · have : xs = [] := List.eq_nil_of_length_eq_zero hl
    subst this
    exact ⟨rfl, q _ _ r fun _ _ => rfl⟩
  · exact q.elim
theorem gs_cons {t : Expr} {ts : List Expr} {m : MG} {n : List PyData → En → Option En} {s1 s2 : List Nat} (h : JG Y t m s1) (g : JGs Y ts n s2) (hq : ∀ j, (assignEach (t :: ts) (Y.X j).env).map (·.2) = assign t (Y.X j).env :: (assignEach ts (Y.X j).env).map (·.2) := by intro _; rfl) : JGs Y (t :: ts) (mN1 m n) (s1 ++ s2) := by
  obtain ⟨u, p, s⟩ := h
  obtain ⟨u', p', s'⟩ := g
  refine ⟨gCons u u', fun j => pgs_cons (p j) (p' j) (hq j), fun c σ ρ T H xs ds Q hl r q => ?_⟩
  unfold mN1 at q
  split at q
  · rename_i d ds
    cases xs with
    | nil => cases hl
    | cons x xs =>
      refine ⟨x, xs, rfl, s c σ ρ (tmf xs ds ++ T) H x d _ r ?_⟩
      cases hm : m d ρ with
      | none =>
        rw [hm] at q
        exact q
      | some ρ1 =>
        rw [hm] at q
        intro σ1 H1 r1 w1
        refine s' c σ1 ρ1 T H1 xs ds Q (Nat.succ.inj hl) r1 ?_
        have q : PostG Y.K c σ T (s1 ++ s2) (n ds ρ1) Q := q
        cases hn : n ds ρ1 with
        | none =>
          rw [hn] at q
          exact q
        | some ρ2 =>
          rw [hn] at q
          exact fun σ2 H2 r2 w2 => q σ2 H2 r2 fun vs hv => (w2 vs fun i hi => hv i (List.mem_append_right _ hi)).trans (w1 vs fun i hi => hv i (List.mem_append_left _ hi))
  · exact q.elim
theorem RelF.pushAll {K : PySem.W.Frag} {c : Ct} {σ : L2.St} {ρ : En} {T : Tm} {H F : Hp} {fp : List Addr} (r : RelF K c σ ρ T H F fp) : ∀ {vs : List V} {ds : List PyData}, Rps K F vs ds → RelF K c σ ρ (tmf vs ds ++ T) H F fp
  | [], [], .nil => r
  | v :: vs, d :: ds, .cons h t => (RelF.pushAll r t).push h
theorem pg_or {X : Cx} {t : Expr} {g g' : TG} (h : PG X t g) (k : PG X t g') : PG X t (fun v σ H Q => g v σ H Q ∨ g' v σ H Q) := ⟨fun pins s σ H v u Q I r z => z.elim (h.run pins s σ H v u Q I r) (k.run pins s σ H v u Q I r)⟩
theorem g_tup {es : List Expr} {k k0 : Nat} {n : List PyData → En → Option En} {sl : List Nat} (h : JGs Y es n sl) (hn : ∀ j, (assignEach es (Y.X j).env).length = k := by intro _; rfl) (hst : ∀ j, (assignEach es (Y.X j).env).findIdx? (·.1) = none := by intro _; rfl) : JG Y (.Tuple es k0 pos) (mTupG k n) sl := by
  obtain ⟨u, p, s⟩ := h
  refine ⟨fun v σ H Q => gTup Y.K k u v σ H Q ∨ gUnl Y.K k u v σ H Q, fun j => by rw [← Y.hK j]; exact pg_or (pg_tup (Y.calm j) (p j) (hn j) (hst j)) (pg_unl (Y.calm j) (p j) (hn j) (hst j)), fun c σ ρ T H x d Q r q => ?_⟩
  unfold mTupG at q
  split at q
  · split at q
    · rename_i hk
      obtain ⟨F, fp, f⟩ := r
      obtain ⟨a, us, rfl, h1, h2⟩ := f.top.tupAt
      exact .inl ⟨a, us, rfl, same_tup f.fh h1, by rw [h2.length]; exact hk, s c σ ρ T H us _ Q h2.length ⟨F, fp, f.popV.pushAll h2⟩ q⟩
    · exact q.elim
  · split at q
    · rename_i hk
      obtain ⟨F, fp, f⟩ := r
      obtain ⟨a, us, rfl, h1, h2⟩ := f.top.lstAt
      exact .inr ⟨a, us, rfl, .inl (.inl (f.fh _ _ h1)), by rw [h2.length]; exact hk, s c σ ρ T H us _ Q h2.length ⟨F, fp, f.popV.pushAll h2⟩ q⟩
    · exact q.elim
  · exact q.elim
end

/-! ### statements -/
inductive Fl where
  | nx (ρ : En)
  | rt (e : Ent) (ρ : En)
  | bk (ρ : En)
  | ct (ρ : En)
abbrev MS := En → Option Fl
def PostS (K : PySem.W.Frag) (c : Ct) (T : Tm) (D : Ends) (r : Option Fl) : Prop := match r with
  | none => False
  | some (.nx ρ) => ∀ σ H, Rel K c σ ρ T H → D.nx σ H
  | some (.rt e ρ) => ∀ σ v H, Rel K c σ ρ ((v, e) :: T) H → D.rt v H
  | some (.bk ρ) => ∀ σ H, Rel K c σ ρ T H → D.bk σ H
  | some (.ct ρ) => ∀ σ H, Rel K c σ ρ T H → D.ct σ H
def SemS (K : PySem.W.Frag) (t : TS) (m : MS) : Prop := ∀ (c : Ct) (σ : L2.St) (ρ : En) (T : Tm) (H : Hp) (D : Ends), Rel K c σ ρ T H → PostS K c T D (m ρ) → t D σ H
def JS (Y : Fam) (st : Stmt) (m : MS) : Prop := ∃ t, (∀ i, PS (Y.X i) st t) ∧ SemS Y.K t m
def JB (Y : Fam) (sts : List Stmt) (m : MS) : Prop := ∃ t, (∀ i, PSs (Y.X i) sts t) ∧ SemS Y.K t m
def mNx : MS := fun ρ => some (.nx ρ)
def mSeq (m n : MS) : MS := fun ρ => match m ρ with
  | some (.nx ρ) => n ρ
  | r => r
section
variable {Y : Fam} {pos : Pos} {e : Expr} {st : Stmt} {sts : List Stmt}
theorem b_nil : JB Y [] mNx := ⟨tNext, fun _ => pss_nil, fun _ σ _ _ H _ r q => q σ H r⟩
theorem b_cons {m n : MS} (h : JS Y st m) (g : JB Y sts n) : JB Y (st :: sts) (mSeq m n) := by
  obtain ⟨t, p, s⟩ := h
  obtain ⟨u, p', s'⟩ := g
  refine ⟨tSeq t u, fun j => pss_cons (p j) (p' j), fun c σ ρ T H D r q => s c σ ρ T H _ r ?_⟩
  unfold mSeq at q
  cases hm : m ρ with
  | none =>
    rw [hm] at q
    exact q
  | some f =>
    rw [hm] at q
    cases f with
    | nx ρ1 => exact fun σ1 H1 r1 => s' c σ1 ρ1 T H1 D r1 q
    | rt e ρ1 => exact q
    | bk ρ1 => exact q
    | ct ρ1 => exact q
theorem b_one {m : MS} (h : JS Y st m) : JB Y [st] m := by
  obtain ⟨t, p, s⟩ := h
  exact ⟨t, fun j => pss_one (p j), s⟩
/-- from here on a slot's list is data -/
def frz (i : Nat) (ρ : En) : En := match ρ[i]? with
  | some (.own true (.lst ds)) => ρ.set i (.val (.list ds))
  | _ => ρ
def mFrz (i : Nat) (m : MS) : MS := fun ρ => m (frz i ρ)
theorem Rel.frz {K : PySem.W.Frag} {c : Ct} {σ : L2.St} {ρ : En} {T : Tm} {H : Hp} {i : Nat} (r : Rel K c σ ρ T H) : Rel K c σ (Fj.frz i ρ) T H := by
  unfold Fj.frz
  split
  · rename_i ds he
    obtain ⟨v, hv⟩ := r.ownv he
    have r1 := (r.take hv he).freeze
    have r2 := r1.back hv fun w z => by
      have := r.pinned z he
      cases this
    rw [List.set_set] at r2
    exact r2
  · exact r
theorem b_frz (i : Nat) {m : MS} (h : JB Y sts m) : JB Y sts (mFrz i m) := by
  obtain ⟨t, p, s⟩ := h
  exact ⟨t, p, fun c σ ρ T H D r q => s c σ _ T H D r.frz q⟩
def mAsg (m : MV) (g : MG) : MS := fun ρ => match m ρ with
  | none => none
  | some (d, ρ) => (g d ρ).map .nx
theorem s_asg {tg : Expr} {m : MV} {g : MG} {sl : List Nat} (h : JV Y e m) (k : JG Y tg g sl) (hs : ∀ j, swapsWithSole [tg] e pos.line (Y.X j).env = pure false := by intro _; rfl) (hw : ∀ j, swappedStores [tg] e (Y.X j).env = pure none := by intro _; rfl) (h1 : ∀ j, (assignEach [tg] (Y.X j).env).map (·.2) = [assign tg (Y.X j).env] := by intro _; rfl) : JS Y (.Assign [tg] e pos) (mAsg m g) := by
  obtain ⟨t, p, s⟩ := h
  obtain ⟨u, p', s'⟩ := k
  refine ⟨tAsg t u, fun j => ps_asg (p j) (p' j) (hs j) (hw j) (h1 j), fun c σ ρ T H D r q => s c σ ρ T H _ r ?_⟩
  unfold mAsg at q
  cases hm : m ρ with
  | none =>
    rw [hm] at q
    exact q
  | some z =>
    obtain ⟨d, ρ1⟩ := z
    rw [hm] at q
    intro v H1 r1
    refine s' c σ ρ1 T H1 v d _ r1 ?_
    simp only at q
    cases hg : g d ρ1 with
    | none =>
      rw [hg] at q
      exact q
    | some ρ2 =>
      rw [hg] at q
      exact fun σ2 H2 r2 _ => q σ2 H2 r2
/-- a name becomes an owned cell -/
def mOwn (m : MO) (i : Nat) : MS := fun ρ => match m ρ with
  | none => none
  | some (e, ρ) => if freeE ρ i = true then some (.nx (ρ.set i e)) else none
theorem sem_own {K : PySem.W.Frag} {t : TE} {m : MO} {i : Nat} (s : SemO K t m) : SemS K (tAsg t (gName i)) (mOwn m i) := fun c σ ρ T H D r q => by
  refine s c σ ρ T H _ r ?_
  unfold mOwn at q
  cases hm : m ρ with
  | none =>
    rw [hm] at q
    exact q
  | some z =>
    obtain ⟨d, ρ1⟩ := z
    rw [hm] at q
    intro v H1 r1
    simp only at q
    split at q
    · rename_i hf
      exact q _ _ (r1.put hf)
    · exact q.elim
theorem s_own (i : Nat) {x : Str} {m : MO} {pos' : Pos} (h : JO Y e m) (hi : ∀ j, (Y.X j).N[i]? = some x := by intro _; rfl) (hN : ∀ j, (Y.X j).N.Nodup := by assumption) (hx : ∀ j, Loc (Y.X j).env.scope x := by first | exact fun _ => Or.inl rfl | exact fun _ => Or.inr rfl)
    (hf : ∀ j, (Y.X j).fn x = true ∨ (Y.X j).env.scope.names.lookup x = some .local := by first | exact fun _ => .inl rfl | exact fun _ => .inr rfl) (hs : ∀ j, swapsWith e (some (.Name x pos')) pos.line (Y.X j).env = pure false := by intro _; rfl) : JS Y (.Assign [.Name x pos'] e pos) (mOwn m i) := by
  obtain ⟨t, p, s⟩ := h
  exact ⟨_, fun j => ps_set (hN j) (hi j) (hx j) (p j) (hs j) (hf j), sem_own s⟩
def mRet (m : MO) : MS := fun ρ => (m ρ).map fun p => .rt p.1 p.2
theorem s_ret {m : MO} (h : JO Y e m) : JS Y (.Return (some e) pos) (mRet m) := by
  obtain ⟨t, p, s⟩ := h
  refine ⟨tRet t, fun j => ps_ret (p j), fun c σ ρ T H D r q => s c σ ρ T H _ r ?_⟩
  unfold mRet at q
  cases hm : m ρ with
  | none =>
    rw [hm] at q
    exact q
  | some z =>
    rw [hm] at q
    exact fun v H1 r1 => q σ v H1 r1
/-- a name given up: its cell is handed on -/
def mMove (i : Nat) : MO := fun ρ => match ρ[i]? with
  | some (.val d) => some (.val d, ρ)
  | some (.own true ce) => some (.own true ce, ρ.set i .lent)
  | _ => none
theorem j_move (i : Nat) {x : Str} (hN : ∀ j, (Y.X j).N[i]? = some x := by intro _; rfl) (hv : ∀ j, Vis (Y.X j).env.scope x := by first | exact fun _ => Or.inl rfl | exact fun _ => Or.inr (Or.inl rfl) | exact fun _ => Or.inr (Or.inr rfl)) (hd : (x == ("__debug__" : Str)) = false := by decide)
    (hcd : (x == ("__classdict__" : Str)) = false := by decide) : JO Y (.Name x pos) (mMove i) := by
  refine ⟨tVar i, fun j => pe_var (hN j) (hv j) hd hcd, fun c σ ρ T H Q r q => ?_⟩
  unfold mMove at q
  split at q
  · rename_i d he
    obtain ⟨v, hv, r1⟩ := r.slot he
    exact ⟨v, hv, q v H r1⟩
  · rename_i ce he
    obtain ⟨v, hv⟩ := r.ownv he
    exact ⟨v, hv, q v H (r.take hv he)⟩
  · exact q.elim
def mDrop (m : MO) : MS := fun ρ => (m ρ).map fun p => .nx p.2
theorem s_expr {m : MO} (h : JO Y e m) (hs : ∀ j, swapsWith e none pos.line (Y.X j).env = pure false := by intro _; rfl) : JS Y (.Expr e pos) (mDrop m) := by
  obtain ⟨t, p, s⟩ := h
  refine ⟨tDrop t, fun j => ps_expr (p j) (hs j), fun c σ ρ T H D r q => s c σ ρ T H _ r ?_⟩
  unfold mDrop at q
  cases hm : m ρ with
  | none =>
    rw [hm] at q
    exact q
  | some z =>
    rw [hm] at q
    exact fun v H1 r1 => q σ H1 r1.pop
theorem s_if {c0 : Expr} {t : MT} {m n : MS} {s1 s2 : List Stmt} (hc : JT Y c0 t) (ha : JB Y s1 m) (hb : JB Y s2 n) : JS Y (.If c0 s1 s2 pos) (mIf t m n) := by
  obtain ⟨tt, p, s⟩ := hc
  obtain ⟨ta, pa, sa⟩ := ha
  obtain ⟨tb, pb, sb⟩ := hb
  refine ⟨tIfS tt ta tb, fun i => ps_if (p i) (pa i) (pb i), fun c σ ρ T H D re q => s c σ ρ T H _ re ?_⟩
  unfold mIf at q
  cases hm : t ρ with
  | none =>
    rw [hm] at q
    exact q
  | some z =>
    obtain ⟨k, ρ1⟩ := z
    rw [hm] at q
    cases k with
    | true =>
      intro H1 r1
      rw [if_pos rfl]
      exact sa c σ ρ1 T H1 D r1 q
    | false =>
      intro H1 r1
      rw [if_neg Bool.false_ne_true]
      exact sb c σ ρ1 T H1 D r1 q
def mBad : MS := fun _ => none
theorem s_never : JS Y st mBad := ⟨tNever, fun _ => ps_never, fun _ _ _ _ _ _ _ q => q⟩
theorem b_never : JB Y sts mBad := ⟨tNever, fun _ => pss_never, fun _ _ _ _ _ _ _ q => q⟩
theorem s_pass : JS Y (.Pass pos) mNx := ⟨tNext, fun _ => ps_pass, fun _ σ _ _ H _ r q => q σ H r⟩
theorem s_brk : JS Y (.Break pos) (fun ρ => some (.bk ρ)) := ⟨tBreak, fun _ => ps_break, fun _ σ _ _ H _ r q => q σ H r⟩
theorem s_cont : JS Y (.Continue pos) (fun ρ => some (.ct ρ)) := ⟨tCont, fun _ => ps_continue, fun _ σ _ _ H _ r q => q σ H r⟩
/-! ### loops -/
def forL (g : MG) (m : MS) : List PyData → MS
  | [], ρ => some (.nx ρ)
  | d :: ds, ρ => match g d ρ with
    | none => none
    | some ρ => match m ρ with
      | some (.nx ρ) => forL g m ds ρ
      | some (.ct ρ) => forL g m ds ρ
      | some (.bk ρ) => some (.nx ρ)
      | some (.rt e ρ) => some (.rt e ρ)
      | none => none
def mFor (n : MI) (g : MG) (m : MS) : MS := fun ρ => match n ρ with
  | none => none
  | some (ds, ρ) => forL g m ds ρ
theorem PostS.drop {K : PySem.W.Frag} {c : Ct} {S T : Tm} {D : Ends} {r : Option Fl} (q : PostS K c T D r) (h : ∀ e ρ σ v H, r = some (.rt e ρ) → Rel K c σ ρ ((v, e) :: (S ++ T)) H → Rel K c σ ρ ((v, e) :: T) H) : PostS K c (S ++ T) D r := by
  cases r with
  | none => exact q
  | some f =>
    cases f with
    | nx ρ => exact fun σ H r => q σ H r.drop
    | rt e ρ => exact fun σ v H r => q σ v H (h e ρ σ v H rfl r)
    | bk ρ => exact fun σ H r => q σ H r.drop
    | ct ρ => exact fun σ H r => q σ H r.drop
theorem Rel.dropUnder {K : PySem.W.Frag} {c : Ct} {σ : L2.St} {ρ : En} {S T : Tm} {H : Hp} {p : V × Ent} (r : Rel K c σ ρ (p :: (S ++ T)) H) : Rel K c σ ρ (p :: T) H := by
  have q : Rel K c σ ρ (S ++ (p :: T)) H := r.perm List.perm_middle.symm
  exact q.drop
theorem sem_for {K : PySem.W.Frag} {wi : TI} {g : TG} {t : TS} {n : MI} {mg : MG} {m : MS} {sl : List Nat} (sI : SemI K wi n) (sG : SemG K g mg sl) (sB : SemS K t m) : SemS K (tFor wi g t) (mFor n mg m) := fun c σ ρ T H D r q => by
  refine sI c σ ρ T H _ r ?_
  unfold mFor at q
  cases hn : n ρ with
  | none =>
    rw [hn] at q
    exact q
  | some z =>
    obtain ⟨ds, ρ1⟩ := z
    rw [hn] at q
    simp only at q
    intro J Tk H1 W r1
    refine ⟨fun i k σ' H' => k = ds.length - i ∧ i ≤ ds.length ∧ ∃ ρ' : En, Rel K c σ' ρ' (Tk ++ T) H' ∧ PostS K c T D (forL mg m (ds.drop i) ρ'), ⟨ds.length, by simp, Nat.zero_le _, ρ1, r1, by simpa using q⟩, ?_⟩
    rintro i k σ' H' ⟨rfl, hi, ρ', r', q'⟩
    by_cases hlt : i < ds.length
    · obtain ⟨hgo, hy⟩ := (W σ' ρ' T H' r' i).1 ds[i] (List.getElem?_eq_getElem hlt)
      refine .inr ⟨hgo, fun σ2 H2 => ∃ ρ2 : En, Rel K c σ2 ρ2 (Tk ++ T) H2 ∧ PostS K c T D (forL mg m (ds.drop (i + 1)) ρ2), fun σ2 H2 ⟨ρ2, r2, q2⟩ => ⟨ds.length - (i + 1), by omega, rfl, hlt, ρ2, r2, q2⟩, fun x H2 y => ?_⟩
      have r2 := hy x H2 y
      refine sG c σ' ρ' (Tk ++ T) H2 x ds[i] _ r2 ?_
      rw [List.drop_eq_getElem_cons hlt] at q'
      unfold forL at q'
      cases hg : mg ds[i] ρ' with
      | none =>
        rw [hg] at q'
        exact q'
      | some ρ3 =>
        rw [hg] at q'
        simp only at q'
        intro σ3 H3 r3 _
        refine sB c σ3 ρ3 (Tk ++ T) H3 _ r3 ?_
        cases hm : m ρ3 with
        | none =>
          rw [hm] at q'
          exact q'
        | some f =>
          rw [hm] at q'
          cases f with
          | nx ρ4 => exact fun σ4 H4 r4 => ⟨ρ4, r4, q'⟩
          | ct ρ4 => exact fun σ4 H4 r4 => ⟨ρ4, r4, q'⟩
          | bk ρ4 => exact fun σ4 H4 r4 => q' σ4 H4 r4.drop
          | rt e ρ4 => exact fun σ4 v H4 r4 => q' σ4 v H4 r4.dropUnder
    · have e : i = ds.length := by omega
      subst e
      rw [List.drop_length] at q'
      exact .inl ⟨(W σ' ρ' T H' r' ds.length).2 (Nat.le_refl _), q' σ' H' r'.drop⟩
theorem s_for {tg iter : Expr} {body : List Stmt} {n : MI} {g : MG} {m : MS} {sl : List Nat} (hi : JI Y tg iter n) (hg : JG Y tg g sl) (hb : JB Y body m) (hp : ∀ j, PassesOwn (model (Y.X j).prog (Y.X j).w) (Y.X j).A (Y.X j).env (Y.X j).xe := by exact fun _ => PassesOwn.never) (hfs : ∀ j x, foldedSetIterable iter (Y.X j).env x = pure x := by intro _ _; rfl) : JS Y (.For tg iter body [] pos) (mFor n g m) := by
  obtain ⟨wi, p1, s1⟩ := hi
  obtain ⟨u, p2, s2⟩ := hg
  obtain ⟨t, p3, s3⟩ := hb
  exact ⟨tFor wi u t, fun j => ps_for (hp j) (Y.calm j) (p1 j) (p2 j) (p3 j) (hfs j), sem_for s1 s2 s3⟩
def whileL (t : MT) (m : MS) : Nat → MS
  | 0, _ => none
  | k + 1, ρ => match t ρ with
    | none => none
    | some (false, ρ) => some (.nx ρ)
    | some (true, ρ) => match m ρ with
      | some (.nx ρ) => whileL t m k ρ
      | some (.ct ρ) => whileL t m k ρ
      | some (.bk ρ) => some (.nx ρ)
      | some (.rt e ρ) => some (.rt e ρ)
      | none => none
theorem s_while (N : Nat) {c0 : Expr} {body : List Stmt} {t : MT} {m : MS} (hc : JT Y c0 t) (hb : JB Y body m) (hp : ∀ j, PassesOwn (model (Y.X j).prog (Y.X j).w) (Y.X j).A (Y.X j).env (Y.X j).xe := by exact fun _ => PassesOwn.never) : JS Y (.While c0 body [] pos) (whileL t m N) := by
  obtain ⟨tc, p1, s1⟩ := hc
  obtain ⟨tb, p2, s2⟩ := hb
  refine ⟨tWhile tc tb, fun j => ps_while (hp j) (p1 j) (p2 j), fun c σ ρ T H D r q => ?_⟩
  refine ⟨fun k σ' H' => ∃ ρ' : En, Rel Y.K c σ' ρ' T H' ∧ PostS Y.K c T D (whileL t m k ρ'), ⟨N, ρ, r, q⟩, ?_⟩
  rintro k σ' H' ⟨ρ', r', q'⟩
  cases k with
  | zero => exact q'.elim
  | succ k =>
    refine s1 c σ' ρ' T H' _ r' ?_
    unfold whileL at q'
    cases hm : t ρ' with
    | none =>
      rw [hm] at q'
      exact q'
    | some z =>
      obtain ⟨b, ρ1⟩ := z
      rw [hm] at q'
      cases b with
      | false =>
        intro H1 r1
        rw [if_neg Bool.false_ne_true]
        exact q' σ' H1 r1
      | true =>
        intro H1 r1
        rw [if_pos rfl]
        refine ⟨fun σ2 H2 => ∃ ρ2 : En, Rel Y.K c σ2 ρ2 T H2 ∧ PostS Y.K c T D (whileL t m k ρ2), fun σ2 H2 ⟨ρ2, r2, q2⟩ => ⟨k, by omega, ρ2, r2, q2⟩, ?_⟩
        refine s2 c σ' ρ1 T H1 _ r1 ?_
        simp only at q'
        cases hb : m ρ1 with
        | none =>
          rw [hb] at q'
          exact q'
        | some f =>
          rw [hb] at q'
          cases f with
          | nx ρ4 => exact fun σ4 H4 r4 => ⟨ρ4, r4, q'⟩
          | ct ρ4 => exact fun σ4 H4 r4 => ⟨ρ4, r4, q'⟩
          | bk ρ4 => exact fun σ4 H4 r4 => q' σ4 H4 r4
          | rt e ρ4 => exact fun σ4 v H4 r4 => q' σ4 v H4 r4
end
end Fj

set_option Elab.async false
set_option linter.all false
set_option maxRecDepth 100000
set_option maxHeartbeats 4000000
set_option autoImplicit false
/-! Comprehensions; lists and decks that a def owns; stores of several names. -/
namespace Fj
open PySem PySem.Spec PyProof.Rows L2

def wipeE (ρ : En) : List Nat → En
  | [] => ρ
  | v :: vs => (wipeE ρ vs).set v .no
theorem wipeE_get (ρ : En) : ∀ (vs : List Nat) (j : Nat), (wipeE ρ vs)[j]? = if j ∈ vs then (ρ[j]?).map (fun _ => .no) else ρ[j]?
  | [], j => by simp [wipeE]
  | v :: vs, j => by
    have hlen : ∀ vs : List Nat, (wipeE ρ vs).length = ρ.length := fun vs => by
      induction vs with
      | nil => rfl
      | cons v vs ih => rw [wipeE, List.length_set, ih]
    unfold wipeE
    by_cases h : v = j
    · subst h
      rw [if_pos (List.mem_cons_self ..)]
      by_cases hl : v < (wipeE ρ vs).length
      · rw [List.getElem?_set_self hl]
        rw [hlen] at hl
        rw [List.getElem?_eq_getElem hl]
        rfl
      · rw [List.getElem?_eq_none (by rw [List.length_set]; omega)]
        rw [hlen] at hl
        rw [List.getElem?_eq_none (by omega)]
        rfl
    · rw [List.getElem?_set_ne h, wipeE_get ρ vs j]
      have e : (j ∈ v :: vs) ↔ j ∈ vs := by
        rw [List.mem_cons]
        exact ⟨fun z => z.elim (fun z => absurd z.symm h) id, .inr⟩
      by_cases hj : j ∈ vs
      · rw [if_pos hj, if_pos (e.mpr hj)]
      · rw [if_neg hj, if_neg fun z => hj (e.mp z)]
section
variable {K : PySem.W.Frag} {c : Ct} {σ : L2.St} {ρ : En} {T : Tm} {H : Hp}
theorem Rel.clear {i : Nat} (r : Rel K c σ ρ T H) (hf : freeE ρ i = true) : Rel K c (σ.set i none) (ρ.set i .no) T H := by
  obtain ⟨F, fp, r⟩ := r
  have hpin : ∀ (j : Nat) (w : V), c.pins[j]? = some (some w) → (σ.set i none)[j]? = some (some w) ∧ ∃ e0 : Ent, (ρ.set i .no)[j]? = some e0 ∧ pinE e0 = true := fun j w z => by
    obtain ⟨z1, e0, z2, z3⟩ := r.pin j w z
    by_cases hj : i = j
    · subst hj
      unfold freeE at hf
      rw [z2] at hf
      simp only [z3, Bool.not_true] at hf
      cases hf
    · rw [List.getElem?_set_ne hj, List.getElem?_set_ne hj]
      exact ⟨z1, e0, z2, z3⟩
  by_cases hi : i < σ.length
  · obtain ⟨f1, fo, f2, e2, f3, f4⟩ := Slots.place (i := T.length + i) r.sl (x := (σ[i], ρ[i]'(r.len ▸ hi))) (by
      rw [List.getElem?_append_right (by simp [tmp])]
      simp only [tmp, List.length_map, Nat.add_sub_cancel_left]
      exact zip_at (List.getElem?_eq_getElem hi) (List.getElem?_eq_getElem _))
    subst e2
    have z := f4 F H (none, .no) [] (fun _ _ z => z) (fun _ _ => rfl) (.no _)
    rw [List.set_append_right _ _ (by simp [tmp])] at z
    simp only [tmp, List.length_map, Nat.add_sub_cancel_left, ← zip_set', List.nil_append] at z
    have sub : (f1 ++ f2).Sublist (f1 ++ (fo ++ f2)) := List.Sublist.append_left (List.sublist_append_right _ _) _
    exact ⟨F, f1 ++ f2, r.f0, r.fh, r.new, r.keep, r.trk, z, r.nd.sublist sub, fun a ha => r.own a (sub.mem ha), by rw [List.length_set, List.length_set]; exact r.len, hpin⟩
  · have hρ : ¬ i < ρ.length := by rw [← r.len]; exact hi
    rw [List.set_eq_of_length_le (by omega), List.set_eq_of_length_le (by omega)]
    exact ⟨F, fp, r⟩
theorem freeE_wipe {vs : List Nat} {i : Nat} (hf : freeE ρ i = true) : freeE (wipeE ρ vs) i = true := by
  unfold freeE at hf ⊢
  rw [wipeE_get]
  by_cases h : i ∈ vs
  · rw [if_pos h]
    cases ρ[i]? <;> rfl
  · rw [if_neg h]
    exact hf
theorem Rel.wiped (r : Rel K c σ ρ T H) : ∀ {vs : List Nat}, (∀ i ∈ vs, freeE ρ i = true) → Rel K c (L2.wipe σ vs) (wipeE ρ vs) T H
  | [], _ => r
  | v :: vs, h => (Rel.wiped r fun i hi => h i (List.mem_cons_of_mem _ hi)).clear (freeE_wipe (h v (List.mem_cons_self ..)))
theorem Slots.resig {F : Hp} : ∀ {σ1 σ2 : L2.St} {ρ : En} {fp : List Addr}, σ2.length = σ1.length → (∀ j : Nat, σ2[j]? = σ1[j]? ∨ ρ[j]? = some .no) → Slots K c F H (σ1.zip ρ) fp → Slots K c F H (σ2.zip ρ) fp
  | [], σ2, ρ, fp, hl, _, h => by
    have : σ2 = [] := List.eq_nil_of_length_eq_zero hl
    subst this
    exact h
  | s :: σ1, [], ρ, fp, hl, _, h => by cases hl
  | s :: σ1, u :: σ2, [], fp, hl, hj, h => h
  | s :: σ1, u :: σ2, e :: ρ, fp, hl, hj, h => by
    have h0 : Slots K c F H ((s, e) :: σ1.zip ρ) fp := h
    clear h
    cases h0 with
    | @cons _ fc fq _ h1 t1 =>
      have t' := Slots.resig (Nat.succ.inj hl) (fun j => hj (j + 1)) t1
      refine Slots.cons (fc := fc) ?_ t'
      rcases hj 0 with z | z
      · have z' : some u = some s := z
        cases z'
        exact h1
      · have z' : some e = some Ent.no := z
        cases z'
        generalize hs : ((s, Ent.no) : Option V × Ent) = y at h1
        cases h1 with
        | no x => exact .no _
        | val r => cases hs
        | own r h => cases hs
        | scr h w => cases hs
        | lent x => cases hs
theorem Rel.resig {σ2 : L2.St} (r : Rel K c σ ρ T H) (hl : σ2.length = σ.length) (hj : ∀ j : Nat, σ2[j]? = σ[j]? ∨ ρ[j]? = some .no) : Rel K c σ2 ρ T H := by
  obtain ⟨F, fp, r⟩ := r
  obtain ⟨f1, f2, e, s1, s2⟩ := Slots.split r.sl
  subst e
  refine ⟨F, f1 ++ f2, r.f0, r.fh, r.new, r.keep, r.trk, s1.app (s2.resig hl hj), r.nd, r.own, hl.trans r.len, fun j w z => ?_⟩
  obtain ⟨z1, e0, z2, z3⟩ := r.pin j w z
  rcases hj j with y | y
  · exact ⟨y.trans z1, e0, z2, z3⟩
  · rw [y] at z2
    cases z2
    cases z3
theorem Rel.unwipe {vs : List Nat} (r : Rel K c (L2.wipe σ vs) (wipeE ρ vs) T H) : Rel K c σ (wipeE ρ vs) T H := by
  refine r.resig (wipe_length σ vs).symm fun j => ?_
  rw [wipe_get, wipeE_get]
  by_cases h : j ∈ vs
  · rw [if_pos h, if_pos h]
    obtain ⟨F, fp, f⟩ := r
    have hl := f.len
    have hlen : ∀ vs : List Nat, (wipeE ρ vs).length = ρ.length := fun vs => by
      induction vs with
      | nil => rfl
      | cons v vs ih => rw [wipeE, List.length_set, ih]
    rw [wipe_length, hlen] at hl
    by_cases hj : j < σ.length
    · right
      rw [List.getElem?_eq_getElem (by omega)]
      rfl
    · left
      rw [List.getElem?_eq_none (by omega)]
      rfl
  · rw [if_neg h]
    exact .inl rfl
end

/-! ### [e for x in xs if t] -/
def lcL (g : MG) (t : MT) (m : MV) (vs : List Nat) : List PyData → List PyData → En → Option (List PyData × En)
  | [], acc, ρ => some (acc, ρ)
  | d :: ds, acc, ρ => match g d ρ with
    | none => none
    | some ρ => match t ρ with
      | none => none
      | some (false, ρ) => if vs.all (freeE ρ) = true then lcL g t m vs ds acc (wipeE ρ vs) else none
      | some (true, ρ) => match m ρ with
        | none => none
        | some (y, ρ) => if acc.length < 100000 ∧ vs.all (freeE ρ) = true then lcL g t m vs ds (acc ++ [y]) (wipeE ρ vs) else none
def mLc (n : MI) (g : MG) (t : MT) (m : MV) (vs : List Nat) : MO := fun ρ => match n ρ with
  | none => none
  | some (ds, ρ) => if vs.all (freeE ρ) = true then (lcL g t m vs ds [] (wipeE ρ vs)).map fun p => (.own true (.lst p.1), p.2) else none
def mYes : MT := fun ρ => some (true, ρ)
def JTs (Y : Fam) (ifs : List Expr) (m : MT) : Prop := ∃ t, (∀ i, PTs (Y.X i) ifs t) ∧ SemT Y.K t m
theorem ts_nil {Y : Fam} : JTs Y [] mYes := ⟨tYes, fun _ => pts_nil, fun _ _ _ _ H _ r q => q H r⟩
theorem ts_one {Y : Fam} {e : Expr} {m : MT} (h : JT Y e m) : JTs Y [e] m := by
  obtain ⟨t, p, s⟩ := h
  exact ⟨t, fun i => pts_one (p i), s⟩
theorem sem_lc {K : PySem.W.Frag} {wi : TI} {g : TG} {tt : TT} {te : TE} {n : MI} {mg : MG} {mt : MT} {m : MV} {sl vs : List Nat} (sI : SemI K wi n) (sG : SemG K g mg sl) (sT : SemT K tt mt) (sE : SemV K te m) (hsl : ∀ i ∈ sl, i ∈ vs) :
    SemO K (tLc wi g tt te vs) (mLc n mg mt m vs) := fun c σ ρ T H Q r q => by
  refine sI c σ ρ T H _ r ?_
  unfold mLc at q
  cases hn : n ρ with
  | none =>
    rw [hn] at q
    exact q
  | some z =>
    obtain ⟨ds, ρ1⟩ := z
    rw [hn] at q
    simp only at q
    split at q
    · rename_i hfree
      have hfree : ∀ i ∈ vs, freeE ρ1 i = true := List.all_eq_true.mp hfree
      intro J Tk H1 W r1 D hD
      obtain ⟨F, fp, f⟩ := r1.wiped hfree
      have r2 : Rel K c (L2.wipe σ vs) (wipeE ρ1 vs) (Tk ++ ((.ref D, .own true (.lst [])) :: T)) (upd H1 D (.lst [])) := (f.lstNew hD .nil).perm List.perm_middle.symm
      refine ⟨fun i k H' => k = ds.length - i ∧ i ≤ ds.length ∧ ∃ (ρ' : En) (acc : List PyData), Rel K c (L2.wipe σ vs) (wipeE ρ' vs) (Tk ++ ((.ref D, .own true (.lst acc)) :: T)) H' ∧
        PostO K c σ T ((lcL mg mt m vs (ds.drop i) acc (wipeE ρ' vs)).map fun p => (.own true (.lst p.1), p.2)) Q, ⟨ds.length, by simp, Nat.zero_le _, ρ1, [], r2, by simpa using q⟩, ?_⟩
      rintro i k H' ⟨rfl, hi, ρ', acc, r', q'⟩
      by_cases hlt : i < ds.length
      · obtain ⟨hgo, hy⟩ := (W _ _ _ H' r' i).1 ds[i] (List.getElem?_eq_getElem hlt)
        rw [List.drop_eq_getElem_cons hlt] at q'
        unfold lcL at q'
        refine .inr ⟨hgo, fun H2 => ∃ (ρ2 : En) (acc2 : List PyData), Rel K c (L2.wipe σ vs) (wipeE ρ2 vs) (Tk ++ ((.ref D, .own true (.lst acc2)) :: T)) H2 ∧
          PostO K c σ T ((lcL mg mt m vs (ds.drop (i + 1)) acc2 (wipeE ρ2 vs)).map fun p => (.own true (.lst p.1), p.2)) Q, fun H2 ⟨ρ2, acc2, r2, q2⟩ => ⟨ds.length - (i + 1), by omega, rfl, hlt, ρ2, acc2, r2, q2⟩, fun x H2 y => ?_⟩
        have r2 := hy x H2 y
        refine sG c _ _ _ H2 x ds[i] _ r2 ?_
        cases hg : mg ds[i] (wipeE ρ' vs) with
        | none =>
          rw [hg] at q'
          exact q'
        | some ρ3 =>
          rw [hg] at q'
          simp only at q'
          intro σ3 H3 r3 w3
          have w3 : L2.wipe σ3 vs = L2.wipe σ vs := (w3 vs hsl).trans (by
            refine List.ext_getElem? fun j => ?_
            rw [wipe_get, wipe_get]
            by_cases hj : j ∈ vs
            · rw [if_pos hj, if_pos hj]
              cases σ[j]? <;> rfl
            · rw [if_neg hj])
          refine ⟨w3, sT c σ3 ρ3 _ H3 _ r3 ?_⟩
          cases ht : mt ρ3 with
          | none =>
            rw [ht] at q'
            exact q'
          | some z =>
            obtain ⟨b, ρ4⟩ := z
            rw [ht] at q'
            cases b with
            | false =>
              simp only at q'
              intro H4 r4
              rw [if_neg Bool.false_ne_true]
              split at q'
              · rename_i hf4
                have r5 := r4.wiped (List.all_eq_true.mp hf4)
                rw [w3] at r5
                exact ⟨ρ4, acc, r5, q'⟩
              · exact q'.elim
            | true =>
              simp only at q'
              intro H4 r4
              rw [if_pos rfl]
              refine sE c σ3 ρ4 _ H4 _ r4 ?_
              cases hm : m ρ4 with
              | none =>
                rw [hm] at q'
                exact q'
              | some z =>
                obtain ⟨y, ρ5⟩ := z
                rw [hm] at q'
                simp only at q'
                intro vy H5 r5
                split at q'
                · rename_i hf5
                  have r6 : Rel K c σ3 ρ5 ((.ref D, .own true (.lst acc)) :: (vy, .val y) :: (Tk ++ T)) H5 := r5.perm (by
                    have p1 : ((vy, Ent.val y) :: (Tk ++ (V.ref D, Ent.own true (Cell.lst acc)) :: T)).Perm ((vy, Ent.val y) :: (V.ref D, Ent.own true (Cell.lst acc)) :: (Tk ++ T)) := List.Perm.cons _ List.perm_middle
                    exact p1.trans (List.Perm.swap _ _ _))
                  obtain ⟨a, us, e, hH, hlen, r7⟩ := r6.write (fun us => us ++ [vy]) (ds' := acc ++ [y]) fun F fp us f rs => rs.app (.one f.top)
                  cases e
                  have r8 : Rel K c σ3 ρ5 (Tk ++ ((.ref D, .own true (.lst (acc ++ [y]))) :: T)) (upd H5 D (.lst (us ++ [vy]))) := ((r7.swap).pop).perm List.perm_middle.symm
                  have r9 := r8.wiped (List.all_eq_true.mp hf5.2)
                  rw [w3] at r9
                  exact ⟨us, hH, sz5l (by omega), ρ5, _, r9, q'⟩
                · exact q'.elim
      · have e : i = ds.length := by omega
        subst e
        rw [List.drop_length] at q'
        refine .inl ⟨(W _ _ _ H' r' ds.length).2 (Nat.le_refl _), ?_⟩
        have q' : ∀ v H, Rel K c σ (wipeE ρ' vs) ((v, .own true (.lst acc)) :: T) H → Q v H := q'
        exact q' _ _ (Rel.unwipe r'.drop)
    · exact q.elim
theorem sem_fz {K : PySem.W.Frag} {t : TE} {m : MO} (s : SemO K t m) : SemV K t (mFz m) := fun c σ ρ T H Q r q => by
  refine s c σ ρ T H Q r ?_
  unfold mFz at q
  cases hm : m ρ with
  | none =>
    rw [hm] at q
    exact q
  | some z =>
    obtain ⟨e0, ρ1⟩ := z
    rw [hm] at q
    simp only at q
    cases hf : fz e0 with
    | none =>
      rw [hf] at q
      exact False.elim q
    | some d =>
      rw [hf] at q
      exact fun v H1 r1 => q v H1 (r1.fz hf)
section
variable {Y : Fam} {pos : Pos} {elt tg iter : Expr} {ifs : List Expr} {scope : Scope} {own : List (Str × Nat)} {n : MI} {g : MG} {t : MT} {m : MV} {sl : List Nat}
theorem j_lc (own : List (Str × Nat)) (hi : JI Y tg iter n) (hg : JG (Y.blk scope) tg g sl) (ht : JTs (Y.blk scope) ifs t) (he : JV (Y.blk scope) elt m) (ok : ∀ j, BlkOk (Y.X j).N (Y.X j).env.scope scope own) (hsl : ∀ i ∈ sl, i ∈ own.map (·.2) := by decide) (hN : ∀ j, (Y.X j).N.Nodup := by assumption)
    (hs : ∀ j x, foldedSetIterable iter (Y.X j).env x = pure x := by intro _ _; rfl) : JO Y (.ListComp elt [⟨tg, iter, ifs, 0⟩] scope pos) (mLc n g t m (own.map (·.2))) := by
  obtain ⟨wi, p1, s1⟩ := hi
  obtain ⟨u, p2, s2⟩ := hg
  obtain ⟨tt, p3, s3⟩ := ht
  obtain ⟨te, p4, s4⟩ := he
  exact ⟨_, fun j => pe_lc (Y.calm j) (hN j) (p1 j) (ok j) (fun s H C cl fp => p2 (j, s, H, C, cl, fp)) (fun s H C cl fp => p3 (j, s, H, C, cl, fp)) (fun s H C cl fp => p4 (j, s, H, C, cl, fp)) (hs j), sem_lc s1 s2 s3 s4 hsl⟩
theorem s_lcO (i : Nat) {y : Str} {py spos : Pos} (own : List (Str × Nat)) (hi : JI Y tg iter n) (hg : JG (Y.blk scope) tg g sl) (ht : JTs (Y.blk scope) ifs t) (he : JV (Y.blk scope) elt m) (ok : ∀ j, BlkOk (Y.X j).N (Y.X j).env.scope scope own) (hsl : ∀ i ∈ sl, i ∈ own.map (·.2) := by decide) (hN : ∀ j, (Y.X j).N.Nodup := by assumption)
    (hy : ∀ j, (Y.X j).N[i]? = some y := by intro _; rfl) (hyl : ∀ j, (Y.X j).env.scope.names.lookup y = some .local := by intro _; rfl) (hsw : ∀ j, swapsWith (.ListComp elt [⟨tg, iter, ifs, 0⟩] scope pos) (some (.Name y py)) spos.line (Y.X j).env = pure true := by exact fun _ => sw_true rfl rfl rfl (by decide +kernel))
    (hs : ∀ j x, foldedSetIterable iter (Y.X j).env x = pure x := by intro _ _; rfl) : JS Y (.Assign [.Name y py] (.ListComp elt [⟨tg, iter, ifs, 0⟩] scope pos) spos) (mOwn (mLc n g t m (own.map (·.2))) i) := by
  obtain ⟨wi, p1, s1⟩ := hi
  obtain ⟨u, p2, s2⟩ := hg
  obtain ⟨tt, p3, s3⟩ := ht
  obtain ⟨te, p4, s4⟩ := he
  exact ⟨_, fun j => ps_setLc (Y.calm j) (hN j) (hy j) (hyl j) (hsw j) (p1 j) (ok j) (fun s H C cl fp => p2 (j, s, H, C, cl, fp)) (fun s H C cl fp => p3 (j, s, H, C, cl, fp)) (fun s H C cl fp => p4 (j, s, H, C, cl, fp)) (hs j), sem_own (sem_lc s1 s2 s3 s4 hsl)⟩
/-- the same, the list as data -/
def mOwnV (m : MV) (i : Nat) : MS := mOwn (mVal m) i
theorem sem_val {K : PySem.W.Frag} {t : TE} {m : MV} (s : SemV K t m) : SemO K t (mVal m) := fun c σ ρ T H Q r q => by
  refine s c σ ρ T H Q r ?_
  unfold mVal at q
  cases hm : m ρ with
  | none =>
    rw [hm] at q
    exact q
  | some z =>
    rw [hm] at q
    exact q
theorem s_lcV (i : Nat) {y : Str} {py spos : Pos} (own : List (Str × Nat)) (hi : JI Y tg iter n) (hg : JG (Y.blk scope) tg g sl) (ht : JTs (Y.blk scope) ifs t) (he : JV (Y.blk scope) elt m) (ok : ∀ j, BlkOk (Y.X j).N (Y.X j).env.scope scope own) (hsl : ∀ i ∈ sl, i ∈ own.map (·.2) := by decide) (hN : ∀ j, (Y.X j).N.Nodup := by assumption)
    (hy : ∀ j, (Y.X j).N[i]? = some y := by intro _; rfl) (hyl : ∀ j, (Y.X j).env.scope.names.lookup y = some .local := by intro _; rfl) (hsw : ∀ j, swapsWith (.ListComp elt [⟨tg, iter, ifs, 0⟩] scope pos) (some (.Name y py)) spos.line (Y.X j).env = pure true := by exact fun _ => sw_true rfl rfl rfl (by decide +kernel))
    (hs : ∀ j x, foldedSetIterable iter (Y.X j).env x = pure x := by intro _ _; rfl) : JS Y (.Assign [.Name y py] (.ListComp elt [⟨tg, iter, ifs, 0⟩] scope pos) spos) (mOwnV (mFz (mLc n g t m (own.map (·.2)))) i) := by
  obtain ⟨wi, p1, s1⟩ := hi
  obtain ⟨u, p2, s2⟩ := hg
  obtain ⟨tt, p3, s3⟩ := ht
  obtain ⟨te, p4, s4⟩ := he
  exact ⟨_, fun j => ps_setLc (Y.calm j) (hN j) (hy j) (hyl j) (hsw j) (p1 j) (ok j) (fun s H C cl fp => p2 (j, s, H, C, cl, fp)) (fun s H C cl fp => p3 (j, s, H, C, cl, fp)) (fun s H C cl fp => p4 (j, s, H, C, cl, fp)) (hs j), sem_own (sem_val (sem_fz (sem_lc s1 s2 s3 s4 hsl)))⟩
end
/-! ### lists that a def owns -/
def mApp (j : Nat) (m : MV) : MO := fun ρ => match ρ[j]? with
  | some (.own _ (.lst _)) => match m ρ with
    | none => none
    | some (d, ρ) => match ρ[j]? with
      | some (.own fr (.lst ds)) => if ds.length < 100000 then some (.val .none, ρ.set j (.own fr (.lst (ds ++ [d])))) else none
      | _ => none
  | _ => none
theorem Rel.lstOwn {K : PySem.W.Frag} {c : Ct} {σ : L2.St} {ρ : En} {T : Tm} {H : Hp} {j : Nat} {fr : Bool} {ds : List PyData} (r : Rel K c σ ρ T H) (he : ρ[j]? = some (.own fr (.lst ds))) : ∃ a vs, σ[j]? = some (some (.ref a)) ∧ H a = some (.lst vs) ∧ vs.length = ds.length := by
  obtain ⟨v, hv⟩ := r.ownv he
  obtain ⟨F, fp, f⟩ := r.take hv he
  obtain ⟨a, vs, rfl, h1, h2⟩ := f.lstTop
  exact ⟨a, vs, hv, h1, h2.length⟩
theorem Rel.put_back {K : PySem.W.Frag} {c : Ct} {σ : L2.St} {ρ : En} {T : Tm} {H H' : Hp} {j : Nat} {fr : Bool} {ce ce' : Cell} {v : V} (r0 : Rel K c σ ρ T H) (he : ρ[j]? = some (.own fr ce)) (hv : σ[j]? = some (some v)) {S : Tm} (r : Rel K c σ (ρ.set j .lent) ((v, .own fr ce') :: S) H') : Rel K c σ (ρ.set j (.own fr ce')) S H' := by
  have q := r.back hv fun w z => by
    have y := r0.pinned z he
    cases fr with
    | false => rfl
    | true => cases y
  rw [List.set_set] at q
  exact q
section
variable {Y : Fam} {e : Expr} {apos cpos : Pos}
theorem j_app (j : Nat) {x : Str} {p : Pos} {m : MV} (h : JV Y e m) (hN : ∀ i, (Y.X i).N[j]? = some x := by intro _; rfl) (hv : ∀ i, Vis (Y.X i).env.scope x := by first | exact fun _ => Or.inl rfl | exact fun _ => Or.inr (Or.inl rfl) | exact fun _ => Or.inr (Or.inr rfl)) (hd : (x == ("__debug__" : Str)) = false := by decide) (hcd : (x == ("__classdict__" : Str)) = false := by decide)
    (hbase : ∀ i, attributeBase (.Name x p) "append" (Y.X i).env (eval (.Name x p) (Y.X i).env) = eval (.Name x p) (Y.X i).env := by intro _; rfl)
    (hfew : ∀ i, ((backTo cpos (starEach [e] (Y.X i).env)).all (fun x => !x.1) && (backToKw cpos (keywordEach [] (Y.X i).env)).all (fun x => x.1.isSome) && decide ([e].length + ([] : List Keyword).length + (if ([] : List Keyword).isEmpty then 0 else 1) < 30)) = true := by intro _; rfl)
    (hline : (apos.endLine == cpos.line) = true := by rfl) (hs : ∀ i, starEach [e] (Y.X i).env = (false, eval e (Y.X i).env) :: starEach [] (Y.X i).env := by intro _; rfl) (hplain : ∀ i, (backTo cpos (starEach [] (Y.X i).env)).any (·.1) = false := by intro _; rfl) : JO Y (.Call (.Attribute (.Name x p) "append" apos) [e] [] cpos) (mApp j m) := by
  obtain ⟨t, pa, s⟩ := h
  refine ⟨tBM Y.K "list" rAppend (tVar j) (tCons t tNil), fun i => by rw [← Y.hK i]; exact pe_bm PySem.F.plainAttrs_list PySem.F.slot_list_append PySem.F.type_list_append mt_append (pe_var (hN i) (hv i) hd hcd) (pa_cons (pa i) pa_nil (hs i)) (hbase i) (hfew i) hline (hs i) (hplain i), fun c σ ρ T H Q r q => ?_⟩
  unfold mApp at q
  split at q
  · rename_i fr0 ds0 he0
    obtain ⟨a0, vs0, hv0, hH0, _⟩ := r.lstOwn he0
    refine ⟨_, hv0, .inl ⟨rfl, vs0, .inl (.inl hH0)⟩, s c σ ρ T H _ r ?_⟩
    cases hm : m ρ with
    | none =>
      rw [hm] at q
      exact q
    | some z =>
      obtain ⟨d, ρ1⟩ := z
      rw [hm] at q
      simp only at q
      intro vd H1 r1
      split at q
      · rename_i fr ds he
        split at q
        · rename_i hl
          obtain ⟨v, hv'⟩ := r1.ownv he
          have : v = .ref a0 := by
            rw [hv0] at hv'
            cases hv'
            rfl
          subst this
          obtain ⟨a, us, e, hH, hlen, r2⟩ := (r1.take hv' he).write (fun us => us ++ [vd]) (ds' := ds ++ [d]) fun F fp us f rs => rs.app (.one f.top)
          cases e
          refine ⟨a0, us, vd, rfl, rfl, hH, sz5l (by omega), q _ _ ?_⟩
          exact Rel.pushN (r1.put_back he hv' (r2.swap.pop))
        · exact q.elim
      · exact q.elim
  · exact q.elim
def mExt (j : Nat) (m : MV) : MO := fun ρ => match ρ[j]? with
  | some (.own _ (.lst _)) => match m ρ with
    | some (.list es, ρ) => match ρ[j]? with
      | some (.own fr (.lst ds)) => if ds.length + es.length ≤ 100000 then some (.val .none, ρ.set j (.own fr (.lst (ds ++ es)))) else none
      | _ => none
    | _ => none
  | _ => none
theorem j_ext (j : Nat) {x : Str} {p : Pos} {m : MV} (h : JV Y e m) (hN : ∀ i, (Y.X i).N[j]? = some x := by intro _; rfl) (hv : ∀ i, Vis (Y.X i).env.scope x := by first | exact fun _ => Or.inl rfl | exact fun _ => Or.inr (Or.inl rfl) | exact fun _ => Or.inr (Or.inr rfl)) (hd : (x == ("__debug__" : Str)) = false := by decide) (hcd : (x == ("__classdict__" : Str)) = false := by decide)
    (hbase : ∀ i, attributeBase (.Name x p) "extend" (Y.X i).env (eval (.Name x p) (Y.X i).env) = eval (.Name x p) (Y.X i).env := by intro _; rfl)
    (hfew : ∀ i, ((backTo cpos (starEach [e] (Y.X i).env)).all (fun x => !x.1) && (backToKw cpos (keywordEach [] (Y.X i).env)).all (fun x => x.1.isSome) && decide ([e].length + ([] : List Keyword).length + (if ([] : List Keyword).isEmpty then 0 else 1) < 30)) = true := by intro _; rfl)
    (hline : (apos.endLine == cpos.line) = true := by rfl) (hs : ∀ i, starEach [e] (Y.X i).env = (false, eval e (Y.X i).env) :: starEach [] (Y.X i).env := by intro _; rfl) (hplain : ∀ i, (backTo cpos (starEach [] (Y.X i).env)).any (·.1) = false := by intro _; rfl) : JO Y (.Call (.Attribute (.Name x p) "extend" apos) [e] [] cpos) (mExt j m) := by
  obtain ⟨t, pa, s⟩ := h
  refine ⟨tBM Y.K "list" rExtend (tVar j) (tCons t tNil), fun i => by rw [← Y.hK i]; exact pe_bm PySem.F.plainAttrs_list PySem.F.slot_list_extend PySem.F.type_list_extend mt_extend (pe_var (hN i) (hv i) hd hcd) (pa_cons (pa i) pa_nil (hs i)) (hbase i) (hfew i) hline (hs i) (hplain i), fun c σ ρ T H Q r q => ?_⟩
  unfold mExt at q
  split at q
  · rename_i fr0 ds0 he0
    obtain ⟨a0, vs0, hv0, hH0, _⟩ := r.lstOwn he0
    refine ⟨_, hv0, .inl ⟨rfl, vs0, .inl (.inl hH0)⟩, s c σ ρ T H _ r ?_⟩
    split at q
    · rename_i es ρ1 hm
      rw [hm]
      intro vd H1 r1
      split at q
      · rename_i fr ds he
        split at q
        · rename_i hl
          obtain ⟨v, hv'⟩ := r1.ownv he
          have : v = .ref a0 := by
            rw [hv0] at hv'
            cases hv'
            rfl
          subst this
          have hes := r1.top.lstAt
          obtain ⟨b, ws, rfl, hb, hbr⟩ := hes
          obtain ⟨a, us, e, hH, hlen, r2⟩ := (r1.take hv' he).write (fun us => us ++ ws) (ds' := ds ++ es) fun F fp us f rs => by
            obtain ⟨b', ws', e', hb', hbr'⟩ := f.top.lstAt
            cases e'
            have := f.fh _ _ hb'
            rw [hb] at this
            cases this
            exact rs.app hbr'
          cases e
          have hl2 := hbr.length
          refine ⟨a0, b, us, ws, rfl, rfl, hH, hb, sz5 (by omega), q _ _ ?_⟩
          exact Rel.pushN (r1.put_back he hv' (r2.swap.pop))
        · exact q.elim
      · exact q.elim
    · exact q.elim
  · exact q.elim
end
end Fj

set_option Elab.async false
set_option linter.all false
set_option maxRecDepth 100000
set_option maxHeartbeats 4000000
set_option autoImplicit false
/-! Defs: a mirror's promise, and the rules of calls. -/
namespace Fj
open PySem PySem.Spec PyProof.Rows L2

abbrev MF := List Ent → Option (Ent × List Ent)
def Ct.open (c : Ct) : Ct := { c with pins := [] }
def resE : Ent → Bool
  | .val _ => true
  | .own true _ => true
  | _ => false
def PostF (K : PySem.W.Frag) (c : Ct) (vs : List V) (r : Option (Ent × List Ent)) (Q : VK) : Prop := match r with
  | none => False
  | some (e, outs) => ∀ v H', Rel K c.open (vs.map some) outs [(v, e)] H' → Q v H'
def SpF (K : PySem.W.Frag) (n : Nat) (m : MF) (vs : List V) (H : Hp) (Q : VK) : Prop := ∃ (c : Ct) (ins : List Ent), c.H0 = H ∧ vs.length = n ∧ Rel K c (vs.map some) ins [] H ∧ (∀ (i : Nat) (fr : Bool) (ce : Cell), ins[i]? = some (Ent.own fr ce) → ∃ w, c.pins[i]? = some (some w)) ∧ PostF K c vs (m ins) Q
/-- a def of the text: what a call of it does is what its mirror says -/
structure FnG (P : Program) (w : World) (K : PySem.W.Frag) (mg : Str → Option Value) (base : Heap) (k : Nat) (f : Addr) (fd : FuncData) (ps : List Str) (m : MF) : Prop where
  go : ∀ (A : Around) (outer : List Env) (s : Shared) (H : Hp) (args : Args) (us : List Value) (vs : List V) (Q : VK), Room k A → A.guards = some [] → Env0 P w K mg base A outer s H → BindsTo s fd args (ps.zip us) → Vals vs us → SpF K ps.length m vs H Q →
    codeAny (model P w) A (.call (.ref f) args) (CR CX0 outer P w H s Q E0) s
theorem FnG.mono {P : Program} {w : World} {K : PySem.W.Frag} {mg : Str → Option Value} {base : Heap} {j k : Nat} {f : Addr} {fd : FuncData} {ps : List Str} {m : MF} (F : FnG P w K mg base j f fd ps m) (h : j ≤ k) : FnG P w K mg base k f fd ps m :=
  ⟨fun A outer s H args us vs Q hr => F.go A outer s H args us vs Q (hr.mono h)⟩

/-! ### a body keeps it -/
def bodyFam (P : Program) (w : World) (K : PySem.W.Frag) (mg : Str → Option Value) (base : Heap) (N : List Str) (qual : Str) (scope : Scope) (f : Addr) (cdv : Value) (A : Around) (outer : List Env) (s : Shared) (H : Hp) (k : Nat)
    (hr : Room k (A.deeper (envOfC qual scope s.heap.objs.size f cdv))) (hg : A.guards = some []) : Fam where
  I := Unit
  X := fun _ => (cxOf CX0 P w K mg base N qual scope f cdv A outer s H E0).nox
  P := P
  w := w
  K := K
  mg := mg
  base := base
  k := k
  hP := fun _ => rfl
  hw := fun _ => rfl
  hK := fun _ => rfl
  hmg := fun _ => rfl
  hbase := fun _ => rfl
  calm := fun _ => rfl
  gd := fun _ => hg
  room := fun _ => hr
def outE (a b : Ent) : Ent := match a with
  | .own _ _ => (match b with
    | .own _ _ => b
    | _ => .no)
  | _ => .no
def outsE : List Ent → En → List Ent
  | a :: as, b :: bs => outE a b :: outsE as bs
  | a :: as, [] => .no :: outsE as []
  | [], _ => []
def mFn (n : Nat) (body : MS) : MF := fun ins => match body (ins ++ List.replicate (n - ins.length) Ent.no) with
  | some (.rt e ρ) => some (e, outsE ins ρ)
  | some (.nx ρ) => some (.val .none, outsE ins ρ)
  | _ => none
section
variable {K : PySem.W.Frag} {c : Ct} {H F : Hp}
theorem slots_no : ∀ k : Nat, Slots K c F H ((List.replicate k (none : Option V)).zip (List.replicate k Ent.no)) []
  | 0 => .nil
  | k + 1 => Slots.cons (fc := []) (.no _) (slots_no k)
theorem zip_app {α β : Type} : ∀ {xs : List α} {ys : List β} {xs' : List α} {ys' : List β}, xs.length = ys.length → (xs ++ xs').zip (ys ++ ys') = xs.zip ys ++ xs'.zip ys'
  | [], [], _, _, _ => rfl
  | [], y :: ys, _, _, h => by cases h
  | x :: xs, [], _, _, h => by cases h
  | x :: xs, y :: ys, xs', ys', h => by
    show (x, y) :: (xs ++ xs').zip (ys ++ ys') = (x, y) :: (xs.zip ys ++ xs'.zip ys')
    rw [zip_app (Nat.succ.inj h)]
theorem Rel.pad {σ : L2.St} {ρ : En} {T : Tm} (k : Nat) (r : Rel K c σ ρ T H) : Rel K c (σ ++ List.replicate k none) (ρ ++ List.replicate k Ent.no) T H := by
  obtain ⟨F, fp, r⟩ := r
  have sl : Slots K c F H (tmp T ++ (σ ++ List.replicate k none).zip (ρ ++ List.replicate k Ent.no)) (fp ++ []) := by
    rw [zip_app r.len, ← List.append_assoc]
    exact r.sl.app (slots_no k)
  rw [List.append_nil] at sl
  refine ⟨F, fp, r.f0, r.fh, r.new, r.keep, r.trk, sl, r.nd, r.own, by simp [r.len], fun j w z => ?_⟩
  obtain ⟨z1, e0, z2, z3⟩ := r.pin j w z
  exact ⟨by rw [List.getElem?_append_left (List.getElem?_eq_some_iff.mp z1).1]; exact z1, e0, by rw [List.getElem?_append_left (List.getElem?_eq_some_iff.mp z2).1]; exact z2, z3⟩
theorem slots_outs0 : ∀ (vs : List V) (ins : List Ent), Slots K c F H ((vs.map some).zip (outsE ins [])) []
  | [], ins => .nil
  | v :: vs, [] => .nil
  | v :: vs, a :: ins => Slots.cons (fc := []) (.no _) (slots_outs0 vs ins)
theorem Slots.outs : ∀ {vs : List V} {ins : List Ent} {σ : L2.St} {ρ : En} {fp : List Addr}, vs.length = ins.length → σ.length = ρ.length → (∀ (i : Nat) (fr : Bool) (ce : Cell), ins[i]? = some (Ent.own fr ce) → σ[i]? = (vs[i]?).map some) → Slots K c F H (σ.zip ρ) fp →
    ∃ fq, fq.Sublist fp ∧ Slots K c F H ((vs.map some).zip (outsE ins ρ)) fq
  | [], [], σ, ρ, fp, _, _, _, h => ⟨[], List.nil_sublist _, .nil⟩
  | [], _ :: _, _, _, _, h, _, _, _ => by cases h
  | _ :: _, [], _, _, _, h, _, _, _ => by cases h
  | v :: vs, a :: ins, [], [], fp, _, _, _, _ => ⟨[], List.nil_sublist _, slots_outs0 (v :: vs) (a :: ins)⟩
  | v :: vs, a :: ins, [], b :: ρ, fp, _, hl, _, _ => by cases hl
  | v :: vs, a :: ins, x :: σ, [], fp, _, hl, _, _ => by cases hl
  | v :: vs, a :: ins, x :: σ, b :: ρ, fp, h1, h2, h4, h => by
    have h0 : Slots K c F H ((x, b) :: σ.zip ρ) fp := h
    clear h
    cases h0 with
    | @cons _ fc fr _ h t =>
      obtain ⟨fq, sub, q⟩ := Slots.outs (Nat.succ.inj h1) (Nat.succ.inj h2) (fun i fr ce z => h4 (i + 1) fr ce z) t
      show ∃ fq, fq.Sublist (fc ++ fr) ∧ Slots K c F H ((some v, outE a b) :: (vs.map some).zip (outsE ins ρ)) fq
      by_cases ha : ∃ f1 c1 f2 c2, a = .own f1 c1 ∧ b = .own f2 c2
      · obtain ⟨f1, c1, f2, c2, rfl, rfl⟩ := ha
        have e := h4 0 f1 c1 rfl
        have e : some x = some (some v) := e
        cases e
        exact ⟨fc ++ fq, List.Sublist.append_left sub _, .cons h q⟩
      · have e : outE a b = .no := by
          cases a <;> cases b <;> first | rfl | exact absurd ⟨_, _, _, _, rfl, rfl⟩ ha
        rw [e]
        exact ⟨fq, sub.trans (List.sublist_append_right _ _), Slots.cons (fc := []) (.no _) q⟩
theorem outsE_length : ∀ (ins : List Ent) (ρ : En), (outsE ins ρ).length = ins.length
  | [], _ => rfl
  | a :: as, [] => congrArg Nat.succ (outsE_length as [])
  | a :: as, b :: bs => congrArg Nat.succ (outsE_length as bs)
theorem Rel.outs {σ : L2.St} {ρ : En} {v : V} {e : Ent} {vs : List V} {ins : List Ent} (r : Rel K c σ ρ [(v, e)] H) (hl : vs.length = ins.length) (h4 : ∀ (i : Nat) (fr : Bool) (ce : Cell), ins[i]? = some (Ent.own fr ce) → σ[i]? = (vs[i]?).map some) : Rel K c.open (vs.map some) (outsE ins ρ) [(v, e)] H := by
  obtain ⟨F, fp, r⟩ := r
  obtain ⟨f1, f2, e0, s1, s2⟩ := Slots.split r.sl
  subst e0
  obtain ⟨fq, sub, q⟩ := Slots.outs hl r.len h4 s2
  have sub2 : (f1 ++ fq).Sublist (f1 ++ f2) := List.Sublist.append_left sub _
  have up : ∀ {l : List (Option V × Ent)} {f : List Addr}, Slots K c F H l f → Slots K c.open F H l f := by
    intro l f h
    induction h with
    | nil => exact .nil
    | cons h t ih =>
      refine .cons ?_ ih
      cases h with
      | no x => exact .no x
      | val r => exact .val r
      | own r h => exact .own r h
      | scr h w => exact .scr h w
      | lent x => exact .lent x
  exact ⟨F, f1 ++ fq, r.f0, r.fh, r.new, r.keep, r.trk, (up s1).app (up q), r.nd.sublist sub2, fun a ha => r.own a (sub2.mem ha), by rw [List.length_map, outsE_length]; exact hl, fun i w z => by cases z⟩
end
theorem fnG_of {P : Program} {w : World} {K : PySem.W.Frag} {mg : Str → Option Value} {base : Heap} {k : Nat} {x qual : Str} {params : Arguments} {body : List Stmt} {scope : Scope} {dvs : List V} {kws : List (Str × V)} {f : Addr} {fd : FuncData} {N ps : List Str} {m : MS}
    (F : FunD K x qual params body scope dvs kws f fd) (S : FnScope N ps scope)
    (hb : ∀ (cdv : Value) (A : Around) (outer : List Env) (s : Shared) (H : Hp) (hr : Room k (A.deeper (envOfC qual scope s.heap.objs.size f cdv))) (hg : A.guards = some []), JB (bodyFam P w K mg base N qual scope f cdv A outer s H k hr hg) body m) : FnG P w K mg base (k + 1) f fd ps (mFn N.length m) := by
  obtain ⟨oc, od, dV, kV, doc, pm, an, cdv, ct, osl, rfl, lk, hcd, _, _⟩ := F.ex
  refine ⟨fun A outer s H args us vs Q hr hg e0 hbind rv sp => ?_⟩
  obtain ⟨c, ins, hH, hn, rel, hpin, post⟩ := sp
  have kin : K.In s.heap := e0.mod.kin.keeps fun b o e => (e0.bs b o e).1
  have nolim : s.heap.NoLimit := e0.mod.nolimit.keeps fun b o e => (e0.bs b o e).1
  have hins : vs.length = ins.length := by
    obtain ⟨_, _, r⟩ := rel
    have := r.len
    rwa [List.length_map] at this
  refine codeAny_call_function hr.depth (kin _ _ lk) rfl S.co S.gen rfl (PySem.W.codeRec_of kin hcd) (hbind _ _ _ _ ?_)
  refine wpAny_newFunctionEnv_cells S.kind (fun y hy => (S.par y.1 (List.of_mem_zip hy).1).imp id fun q => ⟨q, PySem.W.cellsFrom_some _ _ _ (.inl q)⟩) fun env he s1 st => ?_
  subst he
  refine ⟨nolim.keeps st.toInCall.keep, codeAny_func ?_⟩
  have hr' := hr.deeper (envOfC qual scope s.heap.objs.size f cdv)
  obtain ⟨t, hp, hs⟩ := hb cdv A outer s H hr' hg
  have inv : Inv (cxOf CX0 P w K mg base N qual scope f cdv A outer s H E0) [] (start N vs) H s1 := inv_start S hr.hd e0 hn rv st
  have hNl : vs.length ≤ N.length := by
    have := congrArg List.length S.pre
    rw [List.length_take] at this
    omega
  have rel1 : Rel K c (start N vs) (ins ++ List.replicate (N.length - ins.length) Ent.no) [] H := by
    have := rel.pad (N.length - vs.length)
    rw [← hins]
    exact this
  have own_ok : ∀ {σ' : L2.St} {ρ' : En} {v : V} {e : Ent} {H' : Hp}, Rel K c σ' ρ' [(v, e)] H' → Rel K c.open (vs.map some) (outsE ins ρ') [(v, e)] H' := fun {σ' ρ' v e H'} r => by
    refine r.outs hins fun i fr ce z => ?_
    obtain ⟨w', hw⟩ := hpin i fr ce z
    obtain ⟨_, _, r1⟩ := r
    obtain ⟨_, _, r2⟩ := rel
    have a1 := (r1.pin i w' hw).1
    have a2 := (r2.pin i w' hw).1
    rw [List.getElem?_map] at a2
    rw [a1, ← a2]
  have wp := (hp ()).nox.run [] s1 (start N vs) H { nx := fun _ H' => Q .non H', rt := Q } inv ?_
  · refine wpAny_mono wp (fun fl s' hq => ?_) fun e s' hq => hq
    cases fl with
    | ret u =>
      obtain ⟨v, σ', H', J, rv', q⟩ := hq
      exact ⟨v, H', J.os, J.bare, J.base, J.hok, rv', q⟩
    | next =>
      obtain ⟨σ', H', J, q⟩ := hq
      exact ⟨V.non, H', J.os, J.bare, J.base, J.hok, rfl, q⟩
    | brk =>
      obtain ⟨_, _, _, q⟩ := hq
      exact q.elim
    | cont =>
      obtain ⟨_, _, _, q⟩ := hq
      exact q.elim
  · refine hs c (start N vs) _ [] H _ rel1 ?_
    unfold mFn at post
    cases hm : m (ins ++ List.replicate (N.length - ins.length) Ent.no) with
    | none =>
      rw [hm] at post
      exact post
    | some fl =>
      rw [hm] at post
      cases fl with
      | nx ρ => exact fun σ' H' r => post _ _ (own_ok r.pushN)
      | rt e ρ => exact fun σ' v H' r => post _ _ (own_ok r)
      | bk ρ => exact post.elim
      | ct ρ => exact post.elim
end Fj

set_option Elab.async false
set_option linter.all false
set_option maxRecDepth 100000
set_option maxHeartbeats 4000000
set_option autoImplicit false
/-! Calls of defs. -/
namespace Fj
open PySem PySem.Spec PyProof.Rows L2

def pick {α : Type} (p : List Nat) (xs : List α) : List α := p.filterMap fun i => xs[i]?
theorem pick_vals {xs : List V} {us : List Value} (r : Vals xs us) : ∀ p : List Nat, Vals (pick p xs) (pick p us)
  | [] => .nil
  | i :: p => by
    unfold pick
    rw [List.filterMap_cons, List.filterMap_cons]
    cases hx : xs[i]? with
    | none =>
      rw [r.none_of hx]
      exact pick_vals r p
    | some x =>
      obtain ⟨u, hu, ru⟩ := r.get hx
      rw [hu]
      exact .cons ru (pick_vals r p)
theorem pick_len {α : Type} {xs : List α} : ∀ p : List Nat, (∀ i ∈ p, i < xs.length) → (pick p xs).length = p.length
  | [], _ => rfl
  | i :: p, h => by
    unfold pick
    rw [List.filterMap_cons, List.getElem?_eq_getElem (h i (List.mem_cons_self ..))]
    exact congrArg Nat.succ (pick_len p fun j hj => h j (List.mem_cons_of_mem _ hj))
theorem pick_rps {K : PySem.W.Frag} {F : Hp} {vs : List V} {ds : List PyData} (r : Rps K F vs ds) : ∀ p : List Nat, Rps K F (pick p vs) (pick p ds)
  | [] => .nil
  | i :: p => by
    unfold pick
    rw [List.filterMap_cons, List.filterMap_cons]
    cases hd : ds[i]? with
    | none =>
      have hv : vs[i]? = none := by
        rw [List.getElem?_eq_none_iff] at hd ⊢
        rw [r.length]
        exact hd
      rw [hv]
      exact pick_rps r p
    | some d =>
      obtain ⟨v, hv, rv⟩ := r.get hd
      rw [hv]
      exact .cons rv (pick_rps r p)
/-! ### what a callee finds and leaves -/
section
variable {K : PySem.W.Frag} {c : Ct} {σ : L2.St} {ρ : En} {T : Tm} {H F : Hp} {fp : List Addr}
theorem slots_vals {vs : List V} {ds : List PyData} (r : Rps K F vs ds) : Slots K c F H ((vs.map some).zip (ds.map Ent.val)) [] := by
  induction ds generalizing vs with
  | nil =>
    cases r
    exact .nil
  | cons d ds ih =>
    cases r with
    | cons h t => exact Slots.cons (fc := []) (.val h) (ih t)
theorem RelF.callIn (f : RelF K c σ ρ T H F fp) {vs : List V} {ds : List PyData} (r : Rps K F vs ds) : Rel K ⟨F, H, fun _ => False, []⟩ (vs.map some) (ds.map Ent.val) [] H :=
  ⟨F, [], fun _ _ z => z, f.fh, fun a z => .inl z, fun a o z _ => z, fun a z => z, slots_vals r, List.nodup_nil, fun a z => (List.not_mem_nil z).elim, (by rw [List.length_map, List.length_map]; exact r.length), fun i v z => by cases z⟩
theorem SlotOk.res {c' : Ct} {e : Ent} {v : V} {fc : List Addr} (h : SlotOk K c' F H (some v, e) fc) (he : resE e = true) (hz : ∀ a ∈ fc, c.H0 a = none) : SlotOk K c F H (some v, e) fc := by
  cases h with
  | no x => cases he
  | val r => exact .val r
  | own r h => exact .own r fun _ => hz
  | scr h w => cases he
  | lent x => cases he
/-- behind a call that was lent nothing -/
theorem RelF.callOut (f : RelF K c σ ρ T H F fp) {σ' : L2.St} {ρ' : En} {v : V} {e : Ent} {H' : Hp} (r : Rel K ⟨F, H, fun _ => False, []⟩ σ' ρ' [(v, e)] H') (he : resE e = true) : Rel K c σ ρ ((v, e) :: T) H' := by
  obtain ⟨F', fp', r⟩ := r
  obtain ⟨fc, fq, e1, h, _⟩ := r.pop
  have own' : ∀ a ∈ fc, F' a = none ∧ H a = none := fun a ha => by
    obtain ⟨x, y⟩ := r.own a (by rw [e1]; exact List.mem_append_left _ ha)
    exact ⟨x, y.elim (fun z => z.elim) id⟩
  have back : ∀ a, H a = none → c.H0 a = none := fun a ha => by
    cases z : c.H0 a with
    | none => rfl
    | some o => exact absurd ha (f.trk a (by rw [z]; exact fun z => nomatch z))
  have kp : ∀ a o, H a = some o → H' a = some o := fun a o z => r.keep a o z fun z => z
  refine ⟨F', fc ++ fp, fun b u z => r.f0 b u (f.f0 b u z), r.fh, fun a z => ?_, fun a o z w => kp a o (f.keep a o z w), fun a z => r.trk a (f.trk a z), .cons (h.res he fun a ha => back a (own' a ha).2) (f.sl.stay r.f0 fun a ha => ?_), ?_, fun a ha => ?_, f.len, f.pin⟩
  · rcases r.new a z with y | y
    · exact f.new a y
    · exact .inr (back a y)
  · cases z : H a with
    | none => exact absurd z (f.sl.there a ha)
    | some o => exact kp a o z
  · refine List.nodup_append.mpr ⟨(List.nodup_append.mp (e1 ▸ r.nd)).1, f.nd, fun a ha b hb z => ?_⟩
    subst z
    exact f.sl.there a hb (own' a ha).2
  · rcases List.mem_append.mp ha with z | z
    · exact ⟨(own' a z).1, .inr (back a (own' a z).2)⟩
    · refine ⟨?_, (f.own a z).2⟩
      cases y : F' a with
      | none => rfl
      | some o =>
        rcases r.new a (by rw [y]; exact fun z => nomatch z) with q | q
        · exact absurd (f.own a z).1 q
        · exact absurd q (f.sl.there a z)
/-- ahead of a call that is lent the top cell -/
theorem RelF.lendIn {vr : V} {fr : Bool} {ce : Cell} (f : RelF K c σ ρ ((vr, .own fr ce) :: T) H F fp) {vs : List V} {ds : List PyData} (r : Rps K F vs ds) : ∃ fc : List Addr, (∃ fq, CellAt K F H vr ce fc ∧ RelF K c σ ρ T H F fq ∧ (fr = true → ∀ a ∈ fc, c.H0 a = none) ∧ fp = fc ++ fq) ∧
    Rel K ⟨F, H, fun a => a ∈ fc, [some vr]⟩ (some vr :: vs.map some) (.own false ce :: ds.map Ent.val) [] H := by
  obtain ⟨fc, fq, h1, h2, h3, h4, _⟩ := f.opn
  have hnd := f.nd
  rw [h4] at hnd
  have sl : Slots K ⟨F, H, fun a => a ∈ fc, [some vr]⟩ F H ((some vr, .own false ce) :: (vs.map some).zip (ds.map Ent.val)) (fc ++ []) := .cons (.own h1 fun z => by cases z) (slots_vals r)
  rw [List.append_nil] at sl
  refine ⟨fc, ⟨fq, h1, h2, h3, h4⟩, F, fc, fun _ _ z => z, f.fh, fun a z => .inl z, fun a o z _ => z, fun a z => z, sl, (List.nodup_append.mp hnd).1, fun a ha => ⟨(f.own a (by rw [h4]; exact List.mem_append_left _ ha)).1, .inl ha⟩, ?_, fun i v z => ?_⟩
  · rw [List.length_cons, List.length_cons, List.length_map, List.length_map, r.length]
  · cases i with
    | zero =>
      have z : some (some vr) = some (some v) := z
      cases z
      exact ⟨rfl, _, rfl, rfl⟩
    | succ i =>
      have z : ([] : List (Option V))[i]? = some (some v) := z
      simp at z
/-- and behind it -/
theorem RelF.lendOut {vr : V} {fr : Bool} {fq fc : List Addr} (f : RelF K c σ ρ T H F fq) (hfr : fr = true → ∀ a ∈ fc, c.H0 a = none) (nd : (fc ++ fq).Nodup) (hown : ∀ a ∈ fc, c.W a ∨ c.H0 a = none) {vs : List V} {outs : List Ent} {v : V} {e : Ent} {ce' : Cell} {H' : Hp}
    (r : Rel K ⟨F, H, fun a => a ∈ fc, []⟩ (some vr :: vs.map some) (.own false ce' :: outs) [(v, e)] H') (he : resE e = true) : Rel K c σ ρ ((v, e) :: (vr, .own fr ce') :: T) H' := by
  obtain ⟨F', fp', r⟩ := r
  obtain ⟨fe, f2, e1, h, r2⟩ := r.pop
  have sl2 : Slots K ⟨F, H, fun a => a ∈ fc, []⟩ F' H' ((some vr, .own false ce') :: (vs.map some).zip outs) f2 := r2.sl
  cases hs : sl2 with
  | @cons _ fd fz _ hd t =>
    have mem1 : ∀ a ∈ fe, a ∈ fp' := fun a ha => by rw [e1]; exact List.mem_append_left _ ha
    have mem2 : ∀ a ∈ fd, a ∈ fp' := fun a ha => by rw [e1]; exact List.mem_append_right _ (List.mem_append_left _ ha)
    have back : ∀ a, H a = none → c.H0 a = none := fun a ha => by
      cases z : c.H0 a with
      | none => rfl
      | some o => exact absurd ha (f.trk a (by rw [z]; exact fun z => nomatch z))
    have kp : ∀ a o, H a = some o → a ∉ fc → H' a = some o := fun a o z w => r.keep a o z w
    have hof : ∀ a ∈ fp', a ∈ fc ∨ H a = none := fun a ha => (r.own a ha).2
    have hcw : ∀ a ∈ fp', c.W a ∨ c.H0 a = none := fun a ha => (hof a ha).elim (hown a) fun z => .inr (back a z)
    have frfc : ∀ a, c.H0 a ≠ none → ¬ c.W a → a ∉ fc := fun a h1 h2 z => (hown a z).elim h2 h1
    have nq : ∀ a ∈ fq, a ∉ fc := fun a ha z => (List.nodup_append.mp nd).2.2 a z a ha rfl
    have ndp := r.nd
    rw [e1] at ndp
    have nd1 : (fe ++ fd).Nodup := ndp.sublist (List.Sublist.append_left (List.sublist_append_left _ _) _)
    have cl : CellAt K F' H' vr ce' fd := by
      cases hd with
      | own r h => exact r
    have hsl : SlotOk K c F' H' (some v, e) fe := by
      refine h.res he fun a ha => ?_
      cases h with
      | no x => cases ha
      | val r => cases ha
      | @own _ frr _ _ r hh =>
        cases frr with
        | false => cases he
        | true => exact back a (hh rfl a ha)
      | scr h w => cases ha
      | lent x => cases ha
    refine ⟨F', fe ++ (fd ++ fq), fun b u z => r.f0 b u (f.f0 b u z), r.fh, fun a z => ?_, fun a o z w => kp a o (f.keep a o z w) (frfc a (by rw [z]; exact fun z => nomatch z) w), fun a z => r.trk a (f.trk a z),
      .cons hsl (.cons (.own cl fun z a ha => (hof a (mem2 a ha)).elim (hfr z a) (back a)) (f.sl.stay r.f0 fun a ha => ?_)), ?_, fun a ha => ?_, f.len, f.pin⟩
    · rcases r.new a z with y | y
      · exact f.new a y
      · exact .inr (back a y)
    · cases z : H a with
      | none => exact absurd z (f.sl.there a ha)
      | some o => exact kp a o z (nq a ha)
    · rw [← List.append_assoc]
      refine List.nodup_append.mpr ⟨nd1, f.nd, fun a ha b hb z => ?_⟩
      subst z
      have hp : a ∈ fp' := (List.mem_append.mp ha).elim (mem1 a) (mem2 a)
      exact (hof a hp).elim (nq a hb) (f.sl.there a hb)
    · have one : ∀ a ∈ fp', F' a = none ∧ (c.W a ∨ c.H0 a = none) := fun a ha => ⟨(r.own a ha).1, hcw a ha⟩
      rcases List.mem_append.mp ha with z | z
      · exact one a (mem1 a z)
      · rcases List.mem_append.mp z with z | z
        · exact one a (mem2 a z)
        · refine ⟨?_, (f.own a z).2⟩
          cases y : F' a with
          | none => rfl
          | some o =>
            rcases r.new a (by rw [y]; exact fun z => nomatch z) with q | q
            · exact absurd (f.own a z).1 q
            · exact absurd q (f.sl.there a z)
end
/-! ### the rules -/
/-- how the arguments come to the parameters -/
structure BindG (K : PySem.W.Frag) (fd : FuncData) (ps : List Str) (n : Nat) (ks : List Str) (dvs : List V) (p : List Nat) : Prop where
  ex : ∃ its : List Value, Vals dvs its ∧ ∀ (s : Shared) (us ws : List Value), K.In s.heap → us.length = n → ws.length = ks.length → BindsTo s fd ⟨us, ks.zip ws⟩ (ps.zip (pick p (us ++ ws ++ its)))
def tCallG (K : PySem.W.Frag) (n nk np : Nat) (dvs : List V) (p : List Nat) (m : MF) (t tk : TA) : TE := fun σ H Q => t σ H fun vs H1 => tk σ H1 fun ws H2 => vs.length = n ∧ ws.length = nk ∧ SpF K np m (pick p (vs ++ ws ++ dvs)) H2 Q
theorem run_G {X : Cx} {k n : Nat} {f : Addr} {fd : FuncData} {ps ks : List Str} {m : MF} {dvs : List V} {p : List Nat} {pins : List (Addr × Obj)} {σ : L2.St} {H : Hp} {s : Shared} {Q : VK} {us ws : List Value} {vs zs : List V} (F : FnG X.prog X.w X.K X.mg X.base k f fd ps m) (hr : Room k X.A) (hg : X.A.guards = some []) (hb : BindG X.K fd ps n ks dvs p)
    (I : Inv X pins σ H s) (r : Vals vs us) (rz : Vals zs ws) (l1 : vs.length = n) (l2 : zs.length = ks.length) (h : SpF X.K ps.length m (pick p (vs ++ zs ++ dvs)) H Q) : wpAny (model X.prog X.w) X.A (call (.ref f) us (ks.zip ws)) (EP X pins σ Q) X.xe s := by
  obtain ⟨its, rd, bt⟩ := hb.ex
  have r2 := pick_vals ((r.append rz).append rd) p
  refine wpAny_call (codeAny_mono (F.go X.A X.stack s H ⟨us, ks.zip ws⟩ _ _ Q hr hg I.env0 (bt s us ws I.kIn (r.length.symm.trans l1) (rz.length.symm.trans l2)) r2 h) fun r s' hq => ?_)
  cases r with
  | error e => exact hq.elim
  | ok fl =>
    cases fl with
    | ret u => exact I.after hq
    | next => exact False.elim hq
    | brk => exact False.elim hq
    | cont => exact False.elim hq
section
variable {X : Cx} {k n : Nat} {f : Addr} {fd : FuncData} {ps ks : List Str} {m : MF} {dvs : List V} {p : List Nat} {x : Str} {pp pos : Pos} {e : Expr} {es : List Expr} {kws : List Keyword} {t tk : TA}
theorem pe_callG (F : FnG X.prog X.w X.K X.mg X.base k f fd ps m) (hr : Room k X.A) (hgd : X.A.guards = some []) (hg : Gl X x) (hm : X.mg x = some (.ref f)) (hk : PySem.W.keepIn X.K (.ref f) = true) (hb : BindG X.K fd ps n ks dvs p)
    (ha : PA X (e :: es) t) (hkw : PK X kws tk) (hall : (backToKw pos (keywordEach kws X.env)).all (·.1.isSome) = true) (hks : (backToKw pos (keywordEach kws X.env)).filterMap (·.1) = ks) (hdb : (x == ("__debug__" : Str)) = false) (he : starEach (e :: es) X.env = (false, eval e X.env) :: starEach es X.env)
    (hpl : ((backTo pos (starEach (e :: es) X.env)).any (·.1) || (backToKw pos (keywordEach kws X.env)).any (·.1.isNone)) = false) : PE X (.Call (.Name x pp) (e :: es) kws pos) (tCallG X.K n ks.length ps.length dvs p m t tk) := ⟨fun pins s σ H Q I h => by
  refine wpAny_Call_Name_kw (ld_glob I hg hm ?_ hdb)
  refine PySem.W.callWith_KW (h₀ := X.base) I.ok.mod.kin hk hall (thn (ha.run pos pins s σ H _ I h) fun us s1 q => ?_) hpl he
  obtain ⟨vs, H1, I1, r, q⟩ := q
  refine thn (hkw.run pos pins s1 σ H1 _ I1 q) fun ws s2 q2 => ?_
  obtain ⟨zs, H2, I2, rz, l1, l2, q2⟩ := q2
  refine ⟨I2.kIn, ?_⟩
  rw [hks]
  exact run_G F hr hgd hb I2 r rz l1 l2 q2⟩
theorem pe_callG0 (F : FnG X.prog X.w X.K X.mg X.base k f fd ps m) (hr : Room k X.A) (hgd : X.A.guards = some []) (hg : Gl X x) (hm : X.mg x = some (.ref f)) (hk : PySem.W.keepIn X.K (.ref f) = true) (hb : BindG X.K fd ps 0 ks dvs p)
    (hkw : PK X kws tk) (hall : (backToKw pos (keywordEach kws X.env)).all (·.1.isSome) = true) (hks : (backToKw pos (keywordEach kws X.env)).filterMap (·.1) = ks) (hdb : (x == ("__debug__" : Str)) = false)
    (hpl : ((backTo pos (starEach [] X.env)).any (·.1) || (backToKw pos (keywordEach kws X.env)).any (·.1.isNone)) = false) : PE X (.Call (.Name x pp) [] kws pos) (tCallG X.K 0 ks.length ps.length dvs p m tNil tk) := ⟨fun pins s σ H Q I h => by
  refine wpAny_Call_Name_kw (ld_glob I hg hm ?_ hdb)
  refine PySem.W.callWith_KW0 (h₀ := X.base) I.ok.mod.kin hk hall (thn (hkw.run pos pins s σ H _ I h) fun ws s2 q2 => ?_) hpl
  obtain ⟨zs, H2, I2, rz, l1, l2, q2⟩ := q2
  refine ⟨I2.kIn, ?_⟩
  rw [hks]
  exact run_G (us := []) F hr hgd hb I2 .nil rz l1 l2 q2⟩
end
def JK (Y : Fam) (kws : List Keyword) (m : MA) : Prop := ∃ t, (∀ i, PK (Y.X i) kws t) ∧ SemA Y.K t m
section
variable {Y : Fam} {e : Expr} {es : List Expr} {kws : List Keyword} {pos kpos : Pos} {nm : Option Str}
theorem k_nil : JK Y [] mNil := ⟨tNil, fun _ => pk_nil, fun _ _ _ _ H _ r q => q [] H rfl r⟩
theorem sem_cons {K : PySem.W.Frag} {t : TE} {u : TA} {m : MV} {n : MA} (s : SemV K t m) (s' : SemA K u n) : SemA K (tCons t u) (mCons m n) := fun c σ ρ T H Q r q => by
  refine s c σ ρ T H _ r ?_
  unfold mCons at q
  cases hm : m ρ with
  | none =>
    rw [hm] at q
    exact q
  | some z =>
    obtain ⟨d, ρ1⟩ := z
    rw [hm] at q
    simp only at q
    intro v H1 r1
    refine s' c σ ρ1 _ H1 _ r1 ?_
    cases hn : n ρ1 with
    | none =>
      rw [hn] at q
      exact q
    | some z =>
      obtain ⟨ds, ρ2⟩ := z
      rw [hn] at q
      intro vs H2 hl r2
      refine q (v :: vs) H2 (congrArg Nat.succ hl) ?_
      show Rel K c σ ρ2 ((tms vs ds ++ [(v, .val d)]) ++ T) H2
      rw [List.append_assoc]
      exact r2
theorem k_cons {m : MV} {n : MA} (h : JV Y e m) (g : JK Y kws n) : JK Y (⟨nm, e, kpos⟩ :: kws) (mCons m n) := by
  obtain ⟨t, p, s⟩ := h
  obtain ⟨u, p', s'⟩ := g
  exact ⟨tCons t u, fun j => pk_cons (p j) (p' j), sem_cons s s'⟩
/-- f(a, .., k = b, ..): dd the defaults, p the places of the parameters' values -/
def mCall (f : MF) (p : List Nat) (dd : List PyData) (n nk : MA) : MO := fun ρ => match n ρ with
  | none => none
  | some (ds, ρ) => match nk ρ with
    | none => none
    | some (es, ρ) => match f ((pick p (ds ++ es ++ dd)).map .val) with
      | some (e, _) => if resE e = true then some (e, ρ) else none
      | none => none
theorem sem_call {K : PySem.W.Frag} {f : MF} {p : List Nat} {dvs : List V} {dd : List PyData} {n nk : MA} {t tk : TA} {k1 k2 np : Nat} (s1 : SemA K t n) (s2 : SemA K tk nk) (hd : ∀ F, Rps K F dvs dd) (h1 : ∀ ρ ds ρ', n ρ = some (ds, ρ') → ds.length = k1) (h2 : ∀ ρ ds ρ', nk ρ = some (ds, ρ') → ds.length = k2)
    (hp : p.length = np ∧ ∀ i ∈ p, i < k1 + k2 + dd.length) : SemO K (tCallG K k1 k2 np dvs p f t tk) (mCall f p dd n nk) := fun c σ ρ T H Q r q => by
  refine s1 c σ ρ T H _ r ?_
  unfold mCall at q
  cases hn : n ρ with
  | none =>
    rw [hn] at q
    exact q
  | some z =>
    obtain ⟨ds, ρ1⟩ := z
    rw [hn] at q
    simp only at q
    intro vs H1 hl r1
    refine s2 c σ ρ1 _ H1 _ r1 ?_
    cases hk : nk ρ1 with
    | none =>
      rw [hk] at q
      exact q
    | some z =>
      obtain ⟨es, ρ2⟩ := z
      rw [hk] at q
      simp only at q
      intro ws H2 hl2 r2
      have e1 := h1 _ _ _ hn
      have e2 := h2 _ _ _ hk
      refine ⟨hl.trans e1, hl2.trans e2, ?_⟩
      obtain ⟨F, fp, f2⟩ := r2
      obtain ⟨a2, f1⟩ := f2.tms hl2
      obtain ⟨a1, f0⟩ := f1.tms hl
      have all := pick_rps ((a1.app a2).app (hd F)) p
      have len : (pick p (vs ++ ws ++ dvs)).length = np := by
        rw [all.length, ← hp.1]
        have tot : (ds ++ es ++ dd).length = k1 + k2 + dd.length := by rw [List.length_append, List.length_append, e1, e2]
        refine pick_len p fun i hi => ?_
        rw [tot]
        exact hp.2 i hi
      refine ⟨_, _, rfl, len, f0.callIn all, fun i fr ce z => ?_, ?_⟩
      · rw [List.getElem?_map] at z
        cases y : (pick p (ds ++ es ++ dd))[i]? with
        | none =>
          rw [y] at z
          cases z
        | some d =>
          rw [y] at z
          cases z
      · cases hf : f ((pick p (ds ++ es ++ dd)).map .val) with
        | none =>
          rw [hf] at q
          exact q
        | some z =>
          obtain ⟨e, outs⟩ := z
          rw [hf] at q
          simp only at q
          intro v H' r'
          split at q
          · rename_i he
            exact q v H' (f0.callOut r' he)
          · exact q.elim
theorem j_call {x : Str} {pp : Pos} {f : Addr} {fd : FuncData} {ps ks : List Str} {m : MF} {dvs : List V} {dd : List PyData} {p : List Nat} {n nk : MA} {k : Nat} (F : FnG Y.P Y.w Y.K Y.mg Y.base k f fd ps m) (hk : PySem.W.keepIn Y.K (.ref f) = true) (hm : Y.mg x = some (.ref f)) (hb : BindG Y.K fd ps (e :: es).length ks dvs p) (hd : ∀ F, Rps Y.K F dvs dd)
    (ha : JA Y (e :: es) n) (hkw : JK Y kws nk) (h1 : ∀ ρ ds ρ', n ρ = some (ds, ρ') → ds.length = (e :: es).length) (h2 : ∀ ρ ds ρ', nk ρ = some (ds, ρ') → ds.length = ks.length) (hle : k ≤ Y.k) (hp : p.length = ps.length ∧ ∀ i ∈ p, i < (e :: es).length + ks.length + dd.length := by decide) (hg : ∀ j, Gl (Y.X j) x := by intro _; rfl)
    (hall : ∀ j, (backToKw pos (keywordEach kws (Y.X j).env)).all (·.1.isSome) = true := by intro _; rfl) (hks : ∀ j, (backToKw pos (keywordEach kws (Y.X j).env)).filterMap (·.1) = ks := by intro _; rfl) (hdb : (x == ("__debug__" : Str)) = false := by decide) (he : ∀ j, starEach (e :: es) (Y.X j).env = (false, eval e (Y.X j).env) :: starEach es (Y.X j).env := by intro _; rfl)
    (hpl : ∀ j, ((backTo pos (starEach (e :: es) (Y.X j).env)).any (·.1) || (backToKw pos (keywordEach kws (Y.X j).env)).any (·.1.isNone)) = false := by intro _; rfl) : JO Y (.Call (.Name x pp) (e :: es) kws pos) (mCall m p dd n nk) := by
  obtain ⟨t, pa, s1⟩ := ha
  obtain ⟨tk, pk, s2⟩ := hkw
  refine ⟨tCallG Y.K (e :: es).length ks.length ps.length dvs p m t tk, fun j => ?_, sem_call s1 s2 hd h1 h2 hp⟩
  have F' : FnG (Y.X j).prog (Y.X j).w (Y.X j).K (Y.X j).mg (Y.X j).base k f fd ps m := by
    rw [Y.hP j, Y.hw j, Y.hK j, Y.hmg j, Y.hbase j]
    exact F
  have hb' : BindG (Y.X j).K fd ps (e :: es).length ks dvs p := by
    rw [Y.hK j]
    exact hb
  rw [← Y.hK j]
  exact pe_callG F' ((Y.room j).mono hle) (Y.gd j) (hg j) (by rw [Y.hmg j]; exact hm) (by rw [Y.hK j]; exact hk) hb' (pa j) (pk j) (hall j) (hks j) hdb (he j) (hpl j)
theorem j_call0 {x : Str} {pp : Pos} {f : Addr} {fd : FuncData} {ps ks : List Str} {m : MF} {dvs : List V} {dd : List PyData} {p : List Nat} {nk : MA} {k : Nat} (F : FnG Y.P Y.w Y.K Y.mg Y.base k f fd ps m) (hk : PySem.W.keepIn Y.K (.ref f) = true) (hm : Y.mg x = some (.ref f)) (hb : BindG Y.K fd ps 0 ks dvs p) (hd : ∀ F, Rps Y.K F dvs dd)
    (hkw : JK Y kws nk) (h2 : ∀ ρ ds ρ', nk ρ = some (ds, ρ') → ds.length = ks.length) (hle : k ≤ Y.k) (hp : p.length = ps.length ∧ ∀ i ∈ p, i < 0 + ks.length + dd.length := by decide) (hg : ∀ j, Gl (Y.X j) x := by intro _; rfl)
    (hall : ∀ j, (backToKw pos (keywordEach kws (Y.X j).env)).all (·.1.isSome) = true := by intro _; rfl) (hks : ∀ j, (backToKw pos (keywordEach kws (Y.X j).env)).filterMap (·.1) = ks := by intro _; rfl) (hdb : (x == ("__debug__" : Str)) = false := by decide)
    (hpl : ∀ j, ((backTo pos (starEach [] (Y.X j).env)).any (·.1) || (backToKw pos (keywordEach kws (Y.X j).env)).any (·.1.isNone)) = false := by intro _; rfl) : JO Y (.Call (.Name x pp) [] kws pos) (mCall m p dd mNil nk) := by
  obtain ⟨tk, pk, s2⟩ := hkw
  refine ⟨tCallG Y.K 0 ks.length ps.length dvs p m tNil tk, fun j => ?_, sem_call (fun _ _ _ _ H _ r q => q [] H rfl r) s2 hd (fun ρ ds ρ' z => by cases z; rfl) h2 hp⟩
  have F' : FnG (Y.X j).prog (Y.X j).w (Y.X j).K (Y.X j).mg (Y.X j).base k f fd ps m := by
    rw [Y.hP j, Y.hw j, Y.hK j, Y.hmg j, Y.hbase j]
    exact F
  have hb' : BindG (Y.X j).K fd ps 0 ks dvs p := by
    rw [Y.hK j]
    exact hb
  rw [← Y.hK j]
  exact pe_callG0 F' ((Y.room j).mono hle) (Y.gd j) (hg j) (by rw [Y.hmg j]; exact hm) (by rw [Y.hK j]; exact hk) hb' (pk j) (hall j) (hks j) hdb (hpl j)
/-- f(x, ..): x's cell is lent -/
def mLend (i : Nat) (f : MF) (p : List Nat) (dd : List PyData) (n nk : MA) : MO := fun ρ => match ρ[i]? with
  | some (.own _ _) => match n ρ with
    | none => none
    | some (ds, ρ) => match nk ρ with
      | none => none
      | some (es, ρ) => match ρ[i]? with
        | some (.own fr ce) => match f (.own false ce :: (pick p (ds ++ es ++ dd)).map .val) with
          | some (e, .own false ce' :: _) => if resE e = true then some (e, ρ.set i (.own fr ce')) else none
          | _ => none
        | _ => none
  | _ => none
theorem l_nil : ∀ ρ ds ρ', mNil ρ = some (ds, ρ') → ds.length = 0 := fun ρ ds ρ' z => by
  cases z
  rfl
theorem l_cons {m : MV} {n : MA} {k : Nat} (h : ∀ ρ ds ρ', n ρ = some (ds, ρ') → ds.length = k) : ∀ ρ ds ρ', mCons m n ρ = some (ds, ρ') → ds.length = k + 1 := fun ρ ds ρ' z => by
  unfold mCons at z
  split at z
  · cases z
  · split at z
    · cases z
    · rename_i hn
      cases z
      exact congrArg Nat.succ (h _ _ _ hn)
end
end Fj

set_option Elab.async false
set_option linter.all false
set_option maxRecDepth 100000
set_option maxHeartbeats 4000000
set_option autoImplicit false
/-! Calls that are lent a cell of a slot. -/
namespace Fj
open PySem PySem.Spec PyProof.Rows L2

def up1 (p : List Nat) : List Nat := 0 :: p.map (· + 1)
theorem pick_up {α : Type} (v : α) (xs : List α) : ∀ p : List Nat, pick (p.map (· + 1)) (v :: xs) = pick p xs
  | [] => rfl
  | i :: p => by
    unfold pick
    rw [List.map_cons, List.filterMap_cons, List.filterMap_cons]
    have h : (v :: xs)[i + 1]? = xs[i]? := rfl
    rw [h]
    have ih := pick_up v xs p
    unfold pick at ih
    rw [ih]
theorem pick_up1 {α : Type} (v : α) (xs : List α) (p : List Nat) : pick (up1 p) (v :: xs) = v :: pick p xs := by
  unfold up1
  show pick (0 :: p.map (· + 1)) (v :: xs) = _
  unfold pick
  rw [List.filterMap_cons]
  show v :: pick (p.map (· + 1)) (v :: xs) = _
  rw [pick_up]
  rfl
section
variable {K : PySem.W.Frag} {c : Ct} {σ : L2.St} {ρ : En} {T : Tm} {H : Hp}
theorem sem_lend {f : MF} {i : Nat} {p : List Nat} {dvs : List V} {dd : List PyData} {n nk : MA} {t tk : TA} {k1 k2 np : Nat} (s1 : SemA K t n) (s2 : SemA K tk nk) (hd : ∀ F, Rps K F dvs dd) (h1 : ∀ ρ ds ρ', n ρ = some (ds, ρ') → ds.length = k1) (h2 : ∀ ρ ds ρ', nk ρ = some (ds, ρ') → ds.length = k2)
    (hp : p.length + 1 = np ∧ ∀ i ∈ p, i < k1 + k2 + dd.length) : SemO K (tCallG K (k1 + 1) k2 np dvs (up1 p) f (tCons (tVar i) t) tk) (mLend i f p dd n nk) := fun c σ ρ T H Q r q => by
  unfold mLend at q
  split at q
  case h_2 => exact q.elim
  rename_i fr0 ce0 he0
  obtain ⟨vr, hv⟩ := r.ownv he0
  refine ⟨vr, hv, ?_⟩
  refine s1 c σ ρ T H _ r ?_
  cases hn : n ρ with
  | none =>
    rw [hn] at q
    exact q
  | some z =>
    obtain ⟨ds, ρ1⟩ := z
    rw [hn] at q
    simp only at q
    intro vs H1 hl r1
    refine s2 c σ ρ1 _ H1 _ r1 ?_
    cases hk : nk ρ1 with
    | none =>
      rw [hk] at q
      exact q
    | some z =>
      obtain ⟨es, ρ2⟩ := z
      rw [hk] at q
      simp only at q
      intro ws H2 hl2 r2
      have e1 := h1 _ _ _ hn
      have e2 := h2 _ _ _ hk
      refine ⟨congrArg Nat.succ (hl.trans e1), hl2.trans e2, ?_⟩
      split at q
      case h_2 => exact q.elim
      rename_i fr ce he
      have r3 := r2.take hv he
      have r4 : Rel K c σ (ρ2.set i .lent) (Fj.tms ws es ++ (Fj.tms vs ds ++ (vr, .own fr ce) :: T)) H2 := by
        refine r3.perm ?_
        refine List.perm_middle.symm.trans ?_
        exact List.Perm.append_left _ List.perm_middle.symm
      obtain ⟨F, fp, f2⟩ := r4
      obtain ⟨a2, f1⟩ := f2.tms hl2
      obtain ⟨a1, f0⟩ := f1.tms hl
      have all := pick_rps ((a1.app a2).app (hd F)) p
      have pk : pick (up1 p) ((vr :: vs) ++ ws ++ dvs) = vr :: pick p (vs ++ ws ++ dvs) := pick_up1 vr (vs ++ ws ++ dvs) p
      have len : (pick p (vs ++ ws ++ dvs)).length + 1 = np := by
        rw [all.length, ← hp.1]
        have tot : (ds ++ es ++ dd).length = k1 + k2 + dd.length := by rw [List.length_append, List.length_append, e1, e2]
        refine congrArg Nat.succ (pick_len p fun j hj => ?_)
        rw [tot]
        exact hp.2 j hj
      obtain ⟨fc, ⟨fq, hc, hq, hfr, hfp⟩, rin⟩ := f0.lendIn all
      have nd := f0.nd
      rw [hfp] at nd
      have hown : ∀ a ∈ fc, c.W a ∨ c.H0 a = none := fun a ha => (f0.own a (by rw [hfp]; exact List.mem_append_left _ ha)).2
      rw [pk]
      refine ⟨_, _, rfl, len, rin, fun j fr' ce' z => ?_, ?_⟩
      · cases j with
        | zero => exact ⟨vr, rfl⟩
        | succ j =>
          have z : ((pick p (ds ++ es ++ dd)).map Ent.val)[j]? = some (.own fr' ce') := z
          rw [List.getElem?_map] at z
          cases y : (pick p (ds ++ es ++ dd))[j]? with
          | none =>
            rw [y] at z
            cases z
          | some d =>
            rw [y] at z
            cases z
      · cases hf : f (.own false ce :: (pick p (ds ++ es ++ dd)).map .val) with
        | none =>
          rw [hf] at q
          exact q
        | some z =>
          obtain ⟨e, outs⟩ := z
          rw [hf] at q
          cases outs with
          | nil => exact q.elim
          | cons o outs =>
            cases o with
            | own b ce' =>
              cases b with
              | true => exact q.elim
              | false =>
                simp only at q
                intro v H' r'
                split at q
                · rename_i hre
                  refine q v H' ?_
                  have r5 := RelF.lendOut hq hfr nd hown r' hre
                  exact r2.put_back he hv r5.swap
                · exact q.elim
            | no => exact q.elim
            | val d => exact q.elim
            | scr ns => exact q.elim
            | lent => exact q.elim
end
theorem j_lend {Y : Fam} {es : List Expr} {kws : List Keyword} {pos vpos : Pos} (i : Nat) {y : Str} {x : Str} {pp : Pos} {f : Addr} {fd : FuncData} {ps ks : List Str} {m : MF} {dvs : List V} {dd : List PyData} {p : List Nat} {n nk : MA} {k : Nat} (F : FnG Y.P Y.w Y.K Y.mg Y.base k f fd ps m) (hk : PySem.W.keepIn Y.K (.ref f) = true) (hm : Y.mg x = some (.ref f)) (hb : BindG Y.K fd ps (es.length + 1) ks dvs (up1 p)) (hd : ∀ F, Rps Y.K F dvs dd)
    (ha : JA Y es n) (hkw : JK Y kws nk) (h1 : ∀ ρ ds ρ', n ρ = some (ds, ρ') → ds.length = es.length) (h2 : ∀ ρ ds ρ', nk ρ = some (ds, ρ') → ds.length = ks.length) (hle : k ≤ Y.k) (hp : p.length + 1 = ps.length ∧ ∀ i ∈ p, i < es.length + ks.length + dd.length := by decide) (hg : ∀ j, Gl (Y.X j) x := by intro _; rfl)
    (hN : ∀ j, (Y.X j).N[i]? = some y := by intro _; rfl) (hv : ∀ j, Vis (Y.X j).env.scope y := by first | exact fun _ => Or.inl rfl | exact fun _ => Or.inr (Or.inl rfl) | exact fun _ => Or.inr (Or.inr rfl)) (hyd : (y == ("__debug__" : Str)) = false := by decide) (hyc : (y == ("__classdict__" : Str)) = false := by decide)
    (hall : ∀ j, (backToKw pos (keywordEach kws (Y.X j).env)).all (·.1.isSome) = true := by intro _; rfl) (hks : ∀ j, (backToKw pos (keywordEach kws (Y.X j).env)).filterMap (·.1) = ks := by intro _; rfl) (hdb : (x == ("__debug__" : Str)) = false := by decide) (he : ∀ j, starEach (.Name y vpos :: es) (Y.X j).env = (false, eval (.Name y vpos) (Y.X j).env) :: starEach es (Y.X j).env := by intro _; rfl)
    (hpl : ∀ j, ((backTo pos (starEach (.Name y vpos :: es) (Y.X j).env)).any (·.1) || (backToKw pos (keywordEach kws (Y.X j).env)).any (·.1.isNone)) = false := by intro _; rfl) : JO Y (.Call (.Name x pp) (.Name y vpos :: es) kws pos) (mLend i m p dd n nk) := by
  obtain ⟨t, pa, s1⟩ := ha
  obtain ⟨tk, pk, s2⟩ := hkw
  refine ⟨tCallG Y.K (es.length + 1) ks.length ps.length dvs (up1 p) m (tCons (tVar i) t) tk, fun j => ?_, sem_lend s1 s2 hd h1 h2 hp⟩
  have F' : FnG (Y.X j).prog (Y.X j).w (Y.X j).K (Y.X j).mg (Y.X j).base k f fd ps m := by
    rw [Y.hP j, Y.hw j, Y.hK j, Y.hmg j, Y.hbase j]
    exact F
  have hb' : BindG (Y.X j).K fd ps (es.length + 1) ks dvs (up1 p) := by
    rw [Y.hK j]
    exact hb
  rw [← Y.hK j]
  exact pe_callG F' ((Y.room j).mono hle) (Y.gd j) (hg j) (by rw [Y.hmg j]; exact hm) (by rw [Y.hK j]; exact hk) hb' (pa_cons (pe_var (hN j) (hv j) hyd hyc) (pa j) (he j)) (pk j) (hall j) (hks j) hdb (he j) (hpl j)
end Fj

set_option Elab.async false
set_option linter.all false
set_option maxRecDepth 100000
set_option maxHeartbeats 4000000
set_option autoImplicit false
/-! The script handed on, and a law's end. -/
namespace Fj
open PySem PySem.Spec PyProof.Rows L2

section
variable {K : PySem.W.Frag} {c : Ct} {σ : L2.St} {ρ : En} {T : Tm} {H F : Hp} {fp : List Addr}
theorem sql_keep {H H' : Hp} {a : Addr} {xs : List V} (h : SqL K H a xs) (k : ∀ o, H a = some o → H' a = some o) : SqL K H' a xs := by
  rcases h with (h | ⟨o, h⟩) | h
  · exact .inl (.inl (k _ h))
  · exact .inl (.inr ⟨o, k _ h⟩)
  · exact .inr h
/-- f(script): the script is handed on -/
def mScr (i : Nat) (f : MF) : MO := fun ρ => match ρ[i]? with
  | some (.scr ns) => match f [.scr ns] with
    | some (e, _) => if resE e = true then some (e, ρ) else none
    | none => none
  | _ => none
theorem RelF.scrIn {a : Addr} {ns : List Int} (f : RelF K c σ ρ T H F fp) (h : SqL K c.H0 a (ns.map V.int)) (w : ¬ c.W a) : Rel K ⟨F, H, fun _ => False, []⟩ [some (.ref a)] [.scr ns] [] H := by
  have sl : Slots K ⟨F, H, fun _ => False, []⟩ F H [(some (.ref a), .scr ns)] ([] ++ []) := .cons (.scr (sql_keep h fun o z => f.keep a o z w) id) .nil
  exact ⟨F, [], fun _ _ z => z, f.fh, fun a z => .inl z, fun a o z _ => z, fun a z => z, sl, List.nodup_nil, fun a z => (List.not_mem_nil z).elim, rfl, fun i v z => by cases z⟩
theorem sem_scr {f : MF} {i : Nat} : SemO K (tCallG K 1 0 1 [] [0] f (tCons (tVar i) tNil) tNil) (mScr i f) := fun c σ ρ T H Q r q => by
  unfold mScr at q
  split at q
  case h_2 => exact q.elim
  rename_i ns he
  obtain ⟨a, hv, hs, hw⟩ := r.scrAt he
  refine ⟨_, hv, ⟨rfl, rfl, ?_⟩⟩
  obtain ⟨F, fp, rf⟩ := r
  refine ⟨_, _, rfl, rfl, rf.scrIn hs hw, fun j fr ce z => ?_, ?_⟩
  · cases j with
    | zero => cases z
    | succ j => cases z
  · cases hf : f [.scr ns] with
    | none =>
      rw [hf] at q
      exact q
    | some z =>
      obtain ⟨e, outs⟩ := z
      rw [hf] at q
      simp only at q
      intro v H' r'
      split at q
      · rename_i hre
        exact q v H' (rf.callOut r' hre)
      · exact q.elim
end
theorem j_scr {Y : Fam} {pos vpos : Pos} (i : Nat) {y : Str} {x : Str} {pp : Pos} {f : Addr} {fd : FuncData} {ps : List Str} {m : MF} {k : Nat} (F : FnG Y.P Y.w Y.K Y.mg Y.base k f fd ps m) (hk : PySem.W.keepIn Y.K (.ref f) = true) (hm : Y.mg x = some (.ref f)) (hb : BindG Y.K fd ps 1 [] [] [0])
    (hle : k ≤ Y.k) (hps : ps.length = 1 := by rfl) (hg : ∀ j, Gl (Y.X j) x := by intro _; rfl)
    (hN : ∀ j, (Y.X j).N[i]? = some y := by intro _; rfl) (hv : ∀ j, Vis (Y.X j).env.scope y := by first | exact fun _ => Or.inl rfl | exact fun _ => Or.inr (Or.inl rfl) | exact fun _ => Or.inr (Or.inr rfl)) (hyd : (y == ("__debug__" : Str)) = false := by decide) (hyc : (y == ("__classdict__" : Str)) = false := by decide)
    (hall : ∀ j, (backToKw pos (keywordEach [] (Y.X j).env)).all (·.1.isSome) = true := by intro _; rfl) (hks : ∀ j, (backToKw pos (keywordEach [] (Y.X j).env)).filterMap (·.1) = [] := by intro _; rfl) (hdb : (x == ("__debug__" : Str)) = false := by decide) (he : ∀ j, starEach [.Name y vpos] (Y.X j).env = (false, eval (.Name y vpos) (Y.X j).env) :: starEach [] (Y.X j).env := by intro _; rfl)
    (hpl : ∀ j, ((backTo pos (starEach [.Name y vpos] (Y.X j).env)).any (·.1) || (backToKw pos (keywordEach [] (Y.X j).env)).any (·.1.isNone)) = false := by intro _; rfl) : JO Y (.Call (.Name x pp) [.Name y vpos] [] pos) (mScr i m) := by
  refine ⟨tCallG Y.K 1 0 1 [] [0] m (tCons (tVar i) tNil) tNil, fun j => ?_, sem_scr⟩
  have F' : FnG (Y.X j).prog (Y.X j).w (Y.X j).K (Y.X j).mg (Y.X j).base k f fd ps m := by
    rw [Y.hP j, Y.hw j, Y.hK j, Y.hmg j, Y.hbase j]
    exact F
  have hb' : BindG (Y.X j).K fd ps 1 [] [] [0] := by
    rw [Y.hK j]
    exact hb
  rw [← Y.hK j]
  have hh := pe_callG (pp := pp) F' ((Y.room j).mono hle) (Y.gd j) (hg j) (by rw [Y.hmg j]; exact hm) (by rw [Y.hK j]; exact hk) hb' (pa_cons (pe_var (hN j) (hv j) hyd hyc) pa_nil (he j)) pk_nil (hall j) (hks j) hdb (he j) (hpl j)
  rw [hps] at hh
  exact hh

/-! ### the end -/
theorem law_callG {P : Program} {w : World} {K : PySem.W.Frag} {mg mb : Str → Option Value} {k : Nat} {fa a : Addr} {fd : FuncData} {x : Str} {m : MF} {s₁ : Shared} {vs : List Value} {ns : List Int}
    (KX : K.In s₁.heap) (hns : s₁.heap.Ns mainGlobals mg) (hb : s₁.heap.Ns builtinsNs mb) (hbb : ∀ x : Str, x ≠ "__name__" → mb x = bootBuiltins x) (hlim : s₁.heap.NoLimit) (hg : s₁.gens = #[])
    (ha : s₁.heap.get? a = some { cls := .type "list", data := .seq vs.toArray }) (hi : IntsAre vs ns) (hl : ns.length ≤ sizeLine) (hr : Room k callerA)
    (F : ∀ base : Heap, K.In base → base.Ns mainGlobals mg → FnG P w K mg base k fa fd [x] m) (hbind : ∀ (s : Shared) (u : Value), BindsTo s fd ⟨[u], []⟩ [(x, u)])
    (hm : ∃ outs, m [.scr ns] = some (.val (.bool true), outs)) :
    codeAny (model P w) callerA (.call (.ref fa) ⟨[.ref a], []⟩) (fun r s' => r = .ok (.ret (.bool true)) ∧ OldK s₁.heap s'.heap ∧ s'.os = s₁.os ∧ AllBare s'.gens) s₁ := by
  have rv := vals_ints hi
  have lenV := hi.length
  have core : ∀ H : Hp, (∀ b, H b = none ∨ ∃ o xs, H b = some (.frz o (.lst xs))) → SqL K H a (ns.map V.int) → HOk P w H s₁.heap → (∀ b, H b ≠ none → b = a) → (H a ≠ none → K.lookup a = none) →
      codeAny (model P w) callerA (.call (.ref fa) ⟨[.ref a], []⟩) (fun r s' => r = .ok (.ret (.bool true)) ∧ OldK s₁.heap s'.heap ∧ s'.os = s₁.os ∧ AllBare s'.gens) s₁ := by
    intro H hO hS hok hA hK
    have notA : ∀ {b : Addr}, b ≠ a → H b = none := fun {b} hb => Classical.byContradiction fun z => hb (hA b z)
    have onA : ∀ {b : Addr} {o : Obj}, s₁.heap.get? b = some o → b = a → o = { cls := .type "list", data := .seq vs.toArray } := fun {b o} e z => by
      subst z
      rw [ha] at e
      exact (Option.some.inj e).symm
    have dicts : ∀ {b : Addr} {o : Obj} {es : Array DictEntry} {ep : Nat}, s₁.heap.get? b = some o → o.data = .dict es ep → H b = none := fun {b o es ep} e d => by
      refine notA fun z => ?_
      rw [onA e z] at d
      cases d
    have nsK : ∀ {b : Addr} {mm : Str → Option Value}, s₁.heap.Ns b mm → (hidT s₁.heap H).Ns b mm := fun {b mm} ⟨o, es, ep, e, d, r⟩ => ⟨o, es, ep, hidT_get e (dicts e d), d, r⟩
    have hKb : K.In (hidT s₁.heap H) := fun b o e => hidT_get (KX b o e) (by
      refine Classical.byContradiction fun q => ?_
      have e' : b = a := hA b q
      subst e'
      rw [hK q] at e
      cases e)
    have hM : Mod K mg (hidT s₁.heap H) := ⟨hKb, nsK hns, ⟨mb, nsK hb, hbb⟩, let ⟨mc, h1, h2⟩ := hlim; ⟨mc, nsK h1, h2⟩⟩
    have e0 : Env0 P w K mg (hidT s₁.heap H) callerA [] s₁ H := ⟨rfl, hM, fun b o e => of_hidT e, Nat.le_of_eq (hidT_size _ _), trivial, fun b hb => (List.not_mem_nil hb).elim, hok, .of_eq hg⟩
    have sp : SpF K 1 m [.ref a] H (fun v _ => v = .bl true) := by
      obtain ⟨outs, hm⟩ := hm
      have sl : Slots K ⟨fun _ => none, H, fun _ => False, []⟩ (fun _ => none) H [(some (.ref a), .scr ns)] ([] ++ []) := .cons (.scr hS id) .nil
      have rel : Rel K ⟨fun _ => none, H, fun _ => False, []⟩ [some (.ref a)] [.scr ns] [] H := ⟨fun _ => none, [], fun _ _ z => z, (fun _ _ z => by cases z), fun _ z => absurd rfl z, fun _ _ z _ => z, fun _ z => z, sl, List.nodup_nil, fun _ z => (List.not_mem_nil z).elim, rfl, fun i v z => by cases z⟩
      refine ⟨_, [.scr ns], rfl, rfl, rel, fun j fr ce z => ?_, ?_⟩
      · cases j with
        | zero => cases z
        | succ j => cases z
      · rw [hm]
        intro v H' r
        obtain ⟨F', fp', r⟩ := r
        obtain ⟨fc, fq, _, h, _⟩ := r.pop
        cases h with
        | val r =>
          cases r with
          | bl b => rfl
    refine codeAny_mono ((F _ hKb (nsK hns)).go callerA [] s₁ H ⟨[.ref a], []⟩ [.ref a] [.ref a] _ hr rfl e0 (hbind s₁ (.ref a)) (.cons rfl .nil) sp) fun r s' h => ?_
    cases r with
    | error e => exact h.elim
    | ok fl =>
      cases fl with
      | next => exact False.elim h
      | brk => exact False.elim h
      | cont => exact False.elim h
      | ret u =>
        obtain ⟨v, H', os, bare, un, hok', r', q⟩ := h
        have q' : v = .bl true := q
        subst q'
        obtain rfl : u = Value.bool true := r'
        refine ⟨rfl, OldK.of_keep fun b o e => ?_, os, bare⟩
        rcases hO b with z | ⟨ob, xs, z⟩
        · exact un.keep b o e z (fun y => List.not_mem_nil y) (List.not_mem_nil)
        · obtain ⟨e1, _⟩ := hok b _ z
          obtain ⟨e2, _⟩ := hok' b _ (un.frzs b ob _ z)
          rw [e] at e1
          cases e1
          exact e2
  cases hk : K.lookup a with
  | some o =>
    have e := KX a o hk
    rw [ha] at e
    cases e
    refine core (fun _ => none) (fun _ => .inl rfl) (.inr ⟨_, vs.toArray, _, hk, rfl, rfl, rfl, by rw [List.size_toArray, lenV]; exact hl, by simpa using rv⟩) (fun b u z => by cases z) (fun b z => absurd rfl z) fun z => absurd rfl z
  | none =>
    have fst : ∀ {b : Addr} {u : HO}, (if b = a then some (HO.frz { cls := .type "list", data := .seq vs.toArray } (.lst (ns.map V.int))) else none) = some u → b = a ∧ u = .frz { cls := .type "list", data := .seq vs.toArray } (.lst (ns.map V.int)) := fun {b u} z => by
      split at z
      · rename_i hb
        exact ⟨hb, (Option.some.inj z).symm⟩
      · cases z
    refine core (fun b => if b = a then some (.frz { cls := .type "list", data := .seq vs.toArray } (.lst (ns.map V.int))) else none) (fun b => ?_) (.inl (.inr ⟨{ cls := .type "list", data := .seq vs.toArray }, if_pos rfl⟩)) (fun b u z => ?_) (fun b z => ?_) fun _ => hk
    · by_cases hb : b = a
      · exact .inr ⟨_, _, if_pos hb⟩
      · exact .inl (if_neg hb)
    · obtain ⟨rfl, rfl⟩ := fst z
      exact ⟨ha, by rw [List.length_map]; exact hl, vs, _, rv, ha⟩
    · exact Classical.byContradiction fun hb => z (if_neg hb)
theorem walk_G {l : PySem.W.OpenLaw} {n k : Nat} {q : Program} {loose : List Str} {XP : (Str → Option Value) → Heap → Prop} {YP : World → Heap → Prop} {d : DefRec} {x : Str}
    (hn : l.most = some n) (hn2 : n ≤ sizeLine) (hdf : d.params.defaults = []) (hr : Room k callerA)
    (F : ∀ (w : World) (mg : Str → Option Value) (fa : Addr) (h : Heap), YP w h → h.Ns mainGlobals mg → mg d.name = some (.ref fa) →
      ∃ (K : PySem.W.Frag) (fd : FuncData) (m : MF), K.In h ∧ (∀ (s : Shared) (u : Value), BindsTo s fd ⟨[u], []⟩ [(x, u)]) ∧
        (∀ ns : List Int, ns.length ≤ n → ∃ outs, m [.scr ns] = some (.val (.bool true), outs)) ∧
        ∀ base : Heap, K.In base → base.Ns mainGlobals mg → FnG l.prog w K mg base k fa fd [x] m) :
    PySem.W.WalkO q loose XP YP l.row.toRowW d [] (fun f vs => PySem.call f vs) := by
  refine Att.attach_call hn hdf fun w s₀ s₁ mg mb fa o pm cd doc a vs ns G Y ho hd hcd hmg hobj hints hlen hg => ?_
  obtain ⟨K, fd, m, KX, hb, hm, hF⟩ := F w mg fa _ Y G.T.g hmg
  exact law_callG KX G.T.g G.T.b G.T.builtins G.T.nolimit hg hobj hints (Nat.le_trans hlen hn2) hr (hF) hb (hm ns hlen)
end Fj

set_option Elab.async false
set_option linter.all false
set_option maxRecDepth 100000
set_option maxHeartbeats 4000000
set_option autoImplicit false
/-! Own lists read as data for the time of an expression. -/
namespace Fj
open PySem PySem.Spec PyProof.Rows L2

/-- what an expression may see of a slot -/
def borS : Ent → Ent
  | .val d => .val d
  | .own _ (.lst ds) => .val (.list ds)
  | .own _ (.deck s l m t) => .own false (.deck s l m t)
  | _ => .no
/-- what stays behind -/
def keepS : Ent → Ent
  | .own _ (.deck _ _ _ _) => .no
  | e => e
/-- what comes back -/
def merS : Ent → Ent → Ent
  | .own fr (.deck _ _ _ _), .own _ (.deck s l m t) => .own fr (.deck s l m t)
  | .own _ (.deck _ _ _ _), _ => .no
  | e, _ => e
def merE : En → En → En
  | a :: as, b :: bs => merS a b :: merE as bs
  | [], _ => []
  | a :: as, [] => keepS a :: merE as []
def dkFit (fr : Bool) : Ent → Bool
  | .own f (.deck _ _ _ _) => f == fr
  | _ => true
def dkAll (fr : Bool) (ρ : En) : Bool := ρ.all (dkFit fr)
def isDk : Ent → Bool
  | .own _ (.deck _ _ _ _) => true
  | _ => false
/-- decks are still there -/
def dkKept : En → En → Bool
  | [], _ => true
  | a :: as, [] => !isDk a && dkKept as []
  | a :: as, b :: bs => (!isDk a || isDk b) && dkKept as bs
def nlE : Ent → Bool
  | .val d => nlD d
  | .own true (.lst ds) => nlAll ds
  | _ => false
def borOk (ρ : En) : Bool := dkAll true ρ || dkAll false ρ
def mBor (m : MO) : MO := fun ρ => if borOk ρ = true then (match m (ρ.map borS) with
  | some (e, ρ2) => if nlE e = true ∧ dkKept ρ ρ2 = true then some (e, merE ρ ρ2) else none
  | none => none) else none
def mBorT (m : MT) : MT := fun ρ => if borOk ρ = true then (match m (ρ.map borS) with
  | some (b, ρ2) => if dkKept ρ ρ2 = true then some (b, merE ρ ρ2) else none
  | none => none) else none
section
variable {K : PySem.W.Frag} {c c' : Ct} {σ : L2.St} {ρ ρ2 : En} {T : Tm} {H H2 F F2 F3 : Hp} {fp fq : List Addr} {fr : Bool}
/-- the slots in two: decks, and all else with the lists that are read -/
theorem slots_bor (hd : dkAll fr ρ = true) (h : Slots K c F H (σ.zip ρ) fp) : ∃ D N B : List Addr, fp.Perm (D ++ N) ∧ (∀ a ∈ B, a ∈ N ∧ ∃ vs, H a = some (.lst vs)) ∧ Slots K c F H (σ.zip (ρ.map keepS)) N ∧ (fr = true → ∀ a ∈ D, c.H0 a = none) ∧
    ∀ (F' : Hp) (c' : Ct), Same F F' → (∀ a ∈ B, F' a = H a) → Slots K c' F' H (σ.zip (ρ.map borS)) D := by
  induction ρ generalizing σ fp with
  | nil =>
    cases σ with
    | nil =>
      cases h
      exact ⟨[], [], [], .refl _, fun _ z => (List.not_mem_nil z).elim, .nil, fun _ a ha => (List.not_mem_nil ha).elim, fun _ _ _ _ => .nil⟩
    | cons x σ =>
      cases h
      exact ⟨[], [], [], .refl _, fun _ z => (List.not_mem_nil z).elim, .nil, fun _ a ha => (List.not_mem_nil ha).elim, fun _ _ _ _ => .nil⟩
  | cons e ρ ih =>
    cases σ with
    | nil =>
      cases h
      exact ⟨[], [], [], .refl _, fun _ z => (List.not_mem_nil z).elim, .nil, fun _ a ha => (List.not_mem_nil ha).elim, fun _ _ _ _ => .nil⟩
    | cons x σ =>
      have h0 : Slots K c F H ((x, e) :: σ.zip ρ) fp := h
      clear h
      have hd2 : dkFit fr e = true ∧ dkAll fr ρ = true := Bool.and_eq_true_iff.mp hd
      cases h0 with
      | @cons _ fc fr0 _ h t =>
        obtain ⟨D, N, B, pm, sub, s1, hfr, s2⟩ := ih hd2.2 t
        have plain : (hk : keepS e = e) → (hb : borS e = .no) → ∃ D N B : List Addr, (fc ++ fr0).Perm (D ++ N) ∧ (∀ a ∈ B, a ∈ N ∧ ∃ vs, H a = some (.lst vs)) ∧ Slots K c F H ((x :: σ).zip ((e :: ρ).map keepS)) N ∧ (fr = true → ∀ a ∈ D, c.H0 a = none) ∧
            ∀ (F' : Hp) (c' : Ct), Same F F' → (∀ a ∈ B, F' a = H a) → Slots K c' F' H ((x :: σ).zip ((e :: ρ).map borS)) D := fun hk hb => by
          refine ⟨D, fc ++ N, B, ?_, fun a ha => ⟨List.mem_append_right _ (sub a ha).1, (sub a ha).2⟩, ?_, hfr, fun F' c' e1 e2 => ?_⟩
          · exact (List.Perm.append_left fc pm).trans (by rw [← List.append_assoc, ← List.append_assoc]; exact List.Perm.append_right _ List.perm_append_comm)
          · show Slots K c F H ((x, keepS e) :: σ.zip (ρ.map keepS)) (fc ++ N)
            rw [hk]
            exact .cons h s1
          · show Slots K c' F' H ((x, borS e) :: σ.zip (ρ.map borS)) D
            rw [hb]
            exact Slots.cons (fc := []) (.no _) (s2 F' c' e1 e2)
        cases h with
        | no x => exact plain rfl rfl
        | lent x => exact plain rfl rfl
        | scr h w => exact plain rfl rfl
        | val r =>
          refine ⟨D, N, B, pm, sub, Slots.cons (fc := []) (.val r) s1, hfr, fun F' c' e1 e2 => Slots.cons (fc := []) (.val (r.mono e1)) (s2 F' c' e1 e2)⟩
        | @own v fr1 ce _ r hh =>
          cases r with
          | dct h hk r => exact plain rfl rfl
          | @lst a vs ds h r =>
            refine ⟨D, [a] ++ N, a :: B, ?_, fun b hb => ?_, .cons (.own (.lst h r) hh) s1, hfr, fun F' c' e1 e2 => Slots.cons (fc := []) (.val (.lst ?_ (r.mono e1))) (s2 F' c' e1 fun b hb => e2 b (List.mem_cons_of_mem _ hb))⟩
            · exact (List.Perm.append_left [a] pm).trans (by rw [← List.append_assoc, ← List.append_assoc]; exact List.Perm.append_right _ List.perm_append_comm)
            · rcases List.mem_cons.mp hb with z | z
              · rw [z]
                exact ⟨List.mem_append_left _ (List.mem_singleton.mpr rfl), vs, h⟩
              · exact ⟨List.mem_append_right _ (sub b z).1, (sub b z).2⟩
            · rw [e2 a (List.mem_cons_self ..)]
              exact h
          | @deck a b s left m t' h g =>
            have hf : fr1 = fr := eq_of_beq hd2.1
            refine ⟨[a, b] ++ D, N, B, (List.Perm.append_left _ pm).trans (by rw [List.append_assoc]), sub, Slots.cons (fc := []) (.no _) s1, fun z y hy => ?_, fun F' c' e1 e2 => .cons (.own (.deck h g) fun z => by cases z) (s2 F' c' e1 e2)⟩
            rcases List.mem_append.mp hy with q | q
            · exact hh (hf.trans z) y q
            · exact hfr z y q
theorem slots_mer (h1 : Slots K c F3 H2 (σ.zip (ρ.map keepS)) fp) (h2 : Slots K c' F2 H2 (σ.zip ρ2) fq) (hfr : ∀ a ∈ fq, fr = true → c.H0 a = none) (hd : dkAll fr ρ = true) : ∃ f g : List Addr, f.Sublist fq ∧ g.Perm (f ++ fp) ∧ Slots K c F3 H2 (σ.zip (merE ρ ρ2)) g := by
  induction ρ generalizing σ fp fq ρ2 with
  | nil =>
    have e : merE [] ρ2 = [] := by cases ρ2 <;> rfl
    rw [e]
    cases σ with
    | nil =>
      cases h1
      exact ⟨[], [], List.nil_sublist _, .refl _, .nil⟩
    | cons x σ =>
      cases h1
      exact ⟨[], [], List.nil_sublist _, .refl _, .nil⟩
  | cons e ρ ih =>
    cases σ with
    | nil =>
      cases h1
      exact ⟨[], [], List.nil_sublist _, .refl _, .nil⟩
    | cons x σ =>
      have h0 : Slots K c F3 H2 ((x, keepS e) :: σ.zip (ρ.map keepS)) fp := h1
      clear h1
      have hd2 : dkFit fr e = true ∧ dkAll fr ρ = true := Bool.and_eq_true_iff.mp hd
      cases h0 with
      | @cons _ fc fr0 _ h t =>
        have rest : ∃ fa fb : List Addr, ∃ o : Option Ent, fq = fa ++ fb ∧ (∀ e2, o = some e2 → SlotOk K c' F2 H2 (x, e2) fa) ∧ (match o with
          | some e2 => ρ2 = e2 :: ρ2.tail
          | none => ρ2 = []) ∧ Slots K c' F2 H2 (σ.zip ρ2.tail) fb := by
          cases ρ2 with
          | nil =>
            cases h2
            refine ⟨[], [], none, rfl, (fun _ z => by cases z), rfl, ?_⟩
            cases σ <;> exact .nil
          | cons e2 ρ2 =>
            have h0 : Slots K c' F2 H2 ((x, e2) :: σ.zip ρ2) fq := h2
            clear h2
            cases h0 with
            | @cons _ fa fb _ h' t' => exact ⟨fa, fb, some e2, rfl, (fun _ z => by cases z; exact h'), rfl, t'⟩
        obtain ⟨fa, fb, o, rfl, hx, hρ, ht⟩ := rest
        obtain ⟨f, g, sub, pm, sl⟩ := ih t ht (fun a ha => hfr a (List.mem_append_right _ ha)) hd2.2
        have keepit : ∀ (e' : Ent), keepS e = e' → ∃ f g : List Addr, f.Sublist (fa ++ fb) ∧ g.Perm (f ++ (fc ++ fr0)) ∧ Slots K c F3 H2 ((x, e') :: σ.zip (merE ρ ρ2.tail)) g := fun e' he => by
          subst he
          refine ⟨f, fc ++ g, sub.trans (List.sublist_append_right _ _), ?_, .cons h sl⟩
          exact (List.Perm.append_left fc pm).trans (by rw [← List.append_assoc, ← List.append_assoc]; exact List.Perm.append_right _ List.perm_append_comm)
        cases o with
        | none =>
          have hρ : ρ2 = [] := hρ
          subst hρ
          exact keepit _ rfl
        | some e2 =>
          have hρ : ρ2 = e2 :: ρ2.tail := hρ
          rw [hρ]
          show ∃ f g : List Addr, f.Sublist (fa ++ fb) ∧ g.Perm (f ++ (fc ++ fr0)) ∧ Slots K c F3 H2 ((x, merS e e2) :: σ.zip (merE ρ ρ2.tail)) g
          by_cases hdk : ∃ f1 s l m t f2 s' l' m' t', e = .own f1 (.deck s l m t) ∧ e2 = .own f2 (.deck s' l' m' t')
          · obtain ⟨f1, s, l, m, t, f2, s', l', m', t', rfl, rfl⟩ := hdk
            have hf : f1 = fr := eq_of_beq hd2.1
            have h' := hx _ rfl
            cases h with
            | no =>
              cases h' with
              | own r hh =>
                cases r with
                | deck u w =>
                  refine ⟨_ ++ f, _ ++ g, List.Sublist.append_left sub _, ?_, .cons (.own (.deck u w) fun z a ha => hfr a (List.mem_append_left _ ha) (hf ▸ z)) sl⟩
                  rw [List.append_assoc]
                  exact List.Perm.append_left _ pm
          · refine keepit _ ?_
            cases e with
            | own f1 ce =>
              cases ce with
              | deck s l m t =>
                cases e2 with
                | own f2 ce2 =>
                  cases ce2 with
                  | deck s' l' m' t' => exact absurd ⟨_, _, _, _, _, _, _, _, _, _, rfl, rfl⟩ hdk
                  | _ => rfl
                | _ => rfl
              | _ => rfl
            | _ => rfl
theorem merE_len : ∀ (ρ ρ2 : En), (merE ρ ρ2).length = ρ.length
  | [], ρ2 => by cases ρ2 <;> rfl
  | a :: as, [] => congrArg Nat.succ (merE_len as [])
  | a :: as, b :: bs => congrArg Nat.succ (merE_len as bs)
theorem pinE_mer : ∀ (ρ ρ2 : En) (i : Nat) (e : Ent), dkKept ρ ρ2 = true → ρ[i]? = some e → pinE e = true → ∃ e', (merE ρ ρ2)[i]? = some e' ∧ pinE e' = true
  | [], _, i, e, _, h, _ => by simp at h
  | a :: as, [], 0, e, k, h, p => by
    have h : a = e := Option.some.inj h
    subst h
    refine ⟨keepS a, rfl, ?_⟩
    have k1 := (Bool.and_eq_true_iff.mp k).1
    cases a with
    | own f ce =>
      cases ce with
      | deck s l m t => cases k1
      | _ => exact p
    | _ => exact p
  | a :: as, b :: bs, 0, e, k, h, p => by
    have h : a = e := Option.some.inj h
    subst h
    refine ⟨merS a b, rfl, ?_⟩
    have k1 := (Bool.and_eq_true_iff.mp k).1
    cases a with
    | own f ce =>
      cases ce with
      | deck s l m t =>
        cases b with
        | own f2 ce2 =>
          cases ce2 with
          | deck s' l' m' t' =>
            cases f with
            | false => rfl
            | true => cases p
          | _ => cases k1
        | _ => cases k1
      | _ => exact p
    | _ => exact p
  | a :: as, [], i + 1, e, k, h, p => pinE_mer as [] i e (Bool.and_eq_true_iff.mp k).2 h p
  | a :: as, b :: bs, i + 1, e, k, h, p => pinE_mer as bs i e (Bool.and_eq_true_iff.mp k).2 h p
theorem slots_nl {S : Tm} (hS : ∀ p ∈ S, nlE p.2 = true) (hq : ∀ a xs, SqT K F2 a xs → SqT K F3 a xs) (hz : ∀ a, c'.H0 a = none → c.H0 a = none) (h : Slots K c' F2 H2 (tmp S) fq) : Slots K c F3 H2 (tmp S) fq := by
  induction S generalizing fq with
  | nil =>
    cases h
    exact .nil
  | cons p S ih =>
    obtain ⟨v, e⟩ := p
    have h0 : Slots K c' F2 H2 ((some v, e) :: tmp S) fq := h
    clear h
    cases h0 with
    | cons h t =>
      refine Slots.cons ?_ (ih (fun p hp => hS p (List.mem_cons_of_mem _ hp)) t)
      have n : nlE e = true := hS (v, e) (List.mem_cons_self ..)
      cases h with
      | no x => cases n
      | lent x => cases n
      | scr h w => cases n
      | val r => exact .val (r.nl hq n)
      | @own _ fr1 ce _ r hh =>
        cases fr1 with
        | false => cases n
        | true =>
          cases r with
          | lst h r => exact .own (.lst h (r.nl hq n)) fun z a ha => hz a (hh z a ha)
          | dct h hk r => cases n
          | deck h g => cases n
theorem Rel.bor (r : Rel K c σ ρ T H) (ok : borOk ρ = true) : ∃ c' : Ct, Rel K c' σ (ρ.map borS) [] H ∧ ∀ (S : Tm) (ρ2 : En) (H2 : Hp), dkKept ρ ρ2 = true → (∀ p ∈ S, nlE p.2 = true) → Rel K c' σ ρ2 S H2 → Rel K c σ (merE ρ ρ2) (S ++ T) H2 := by
  have ok : ∃ fr, dkAll fr ρ = true := (Bool.or_eq_true_iff.mp ok).elim (fun z => ⟨_, z⟩) fun z => ⟨_, z⟩
  obtain ⟨fr, hd⟩ := ok
  obtain ⟨F, fp, r⟩ := r
  obtain ⟨fT, fS, rfl, sT, sS⟩ := Slots.split r.sl
  obtain ⟨D, N, B, pm, sub, sN, hfr, sb⟩ := slots_bor hd sS
  have nd : (fT ++ (D ++ N)).Nodup := (List.Perm.append_left fT pm).nodup_iff.mp r.nd
  have inS : ∀ a, a ∈ D ∨ a ∈ N → a ∈ fT ++ fS := fun a ha => List.mem_append_right _ (pm.mem_iff.mpr (List.mem_append.mpr ha))
  have DN : ∀ a ∈ D, a ∉ N := fun a ha hb => (List.nodup_append.mp (List.nodup_append.mp nd).2.1).2.2 a ha a hb rfl
  have TD : ∀ a ∈ fT, a ∉ D := fun a ha hb => (List.nodup_append.mp nd).2.2 a ha a (List.mem_append_left _ hb) rfl
  have FB : ∀ a ∈ B, F a = none := fun a ha => (r.own a (inS a (.inr (sub a ha).1))).1
  have back : ∀ a, H a = none → c.H0 a = none := fun a ha => Classical.byContradiction fun z => r.trk a z ha
  let F' : Hp := fun b => if b ∈ B then H b else F b
  have F'B : ∀ b ∈ B, F' b = H b := fun b hb => if_pos hb
  have F'n : ∀ b, b ∉ B → F' b = F b := fun b hb => if_neg hb
  have sF : Same F F' := fun b u z => (F'n b fun hb => by rw [FB b hb] at z; cases z).trans z
  have inner : Rel K ⟨F', H, fun a => a ∈ D, []⟩ σ (ρ.map borS) [] H := by
    refine ⟨F', D, fun _ _ z => z, fun b u z => ?_, fun _ z => .inl z, fun _ _ z _ => z, fun _ z => z, sb F' _ sF F'B, (List.nodup_append.mp (List.nodup_append.mp nd).2.1).1, fun a ha => ⟨?_, .inl ha⟩, by rw [List.length_map]; exact r.len, fun i v z => by cases z⟩
    · by_cases hb : b ∈ B
      · rw [F'B b hb] at z
        exact z
      · rw [F'n b hb] at z
        exact r.fh b u z
    · rw [F'n a fun z => DN a ha (sub a z).1]
      exact (r.own a (inS a (.inl ha))).1
  refine ⟨_, inner, fun S ρ2 H2 hk hS r2 => ?_⟩
  obtain ⟨F2, fq0, r2⟩ := r2
  obtain ⟨fX, fq, rfl, sX, sq⟩ := Slots.split r2.sl
  let F3 : Hp := fun b => if b ∈ B then none else F2 b
  have F3B : ∀ b ∈ B, F3 b = none := fun b hb => if_pos hb
  have F3n : ∀ b, b ∉ B → F3 b = F2 b := fun b hb => if_neg hb
  have sF3 : Same F F3 := fun b u z => by
    have hb : b ∉ B := fun hb => by rw [FB b hb] at z; cases z
    rw [F3n b hb]
    exact r2.f0 b u ((F'n b hb).trans z)
  have kp : ∀ a o, H a = some o → a ∉ D → H2 a = some o := fun a o z w => r2.keep a o z w
  have kq : ∀ a, H a ≠ none → a ∉ D → H2 a = H a := fun a z w => by
    cases y : H a with
    | none => exact absurd y z
    | some o => exact kp a o y w
  have ownq : ∀ a ∈ fX ++ fq, F3 a = none ∧ (c.W a ∨ c.H0 a = none) ∧ (a ∈ D ∨ H a = none) := fun a ha => by
    obtain ⟨z1, z2⟩ := r2.own a ha
    have z2 : a ∈ D ∨ H a = none := z2
    refine ⟨?_, z2.elim (fun z => (r.own a (inS a (.inl z))).2) fun z => .inr (back a z), z2⟩
    by_cases hb : a ∈ B
    · exact F3B a hb
    · rw [F3n a hb]
      exact z1
  have ownp : ∀ a, a ∈ fT ∨ a ∈ N → F3 a = none ∧ (c.W a ∨ c.H0 a = none) ∧ a ∉ D ∧ H a ≠ none := fun a ha => by
    have m : a ∈ fT ++ fS := ha.elim (fun z => List.mem_append_left _ z) fun z => inS a (.inr z)
    have hh : H a ≠ none := r.sl.there a m
    refine ⟨?_, (r.own a m).2, ha.elim (TD a) (fun z y => DN a y z), hh⟩
    by_cases hb : a ∈ B
    · exact F3B a hb
    · rw [F3n a hb]
      cases z : F2 a with
      | none => rfl
      | some o =>
        rcases r2.new a (by rw [z]; exact fun z => nomatch z) with y | y
        · have y : F' a ≠ none := y
          rw [F'n a hb] at y
          exact absurd (r.own a m).1 y
        · exact absurd y hh
  have sN2 : Slots K c F3 H2 (σ.zip (ρ.map keepS)) N := sN.stay sF3 fun a ha => kq a (ownp a (.inr ha)).2.2.2 (ownp a (.inr ha)).2.2.1
  have sT2 : Slots K c F3 H2 (tmp T) fT := sT.stay sF3 fun a ha => kq a (ownp a (.inl ha)).2.2.2 (ownp a (.inl ha)).2.2.1
  obtain ⟨f, g, sf, pg, sG⟩ := slots_mer (fr := fr) (c := c) sN2 sq (fun a ha z => (ownq a (List.mem_append_right _ ha)).2.2.elim (hfr z a) (back a)) hd
  have sX2 : Slots K c F3 H2 (tmp S) fX := slots_nl hS (fun a xs h => by
    by_cases hb : a ∈ B
    · obtain ⟨vs, hv⟩ := (sub a hb).2
      have z := r2.f0 a _ ((F'B a hb).trans hv)
      rcases h with (h | ⟨o, h⟩) | h
      · rw [z] at h
        cases h
      · rw [z] at h
        cases h
      · exact .inr h
    · rcases h with (h | ⟨o, h⟩) | h
      · exact .inl (.inl ((F3n a hb).trans h))
      · exact .inl (.inr ⟨o, (F3n a hb).trans h⟩)
      · exact .inr h) back sX
  have pmf : (fX ++ (fT ++ g)).Perm ((fX ++ f) ++ (fT ++ N)) := by
    rw [List.append_assoc]
    refine List.Perm.append_left fX ?_
    refine (List.Perm.append_left fT pg).trans ?_
    rw [← List.append_assoc, ← List.append_assoc]
    exact List.Perm.append_right _ List.perm_append_comm
  have memq : ∀ a ∈ fX ++ f, a ∈ fX ++ fq := fun a ha => (List.mem_append.mp ha).elim (fun z => List.mem_append_left _ z) fun z => List.mem_append_right _ (sf.mem z)
  refine ⟨F3, fX ++ (fT ++ g), r.f0.trans sF3, fun b u z => ?_, fun a z => ?_, fun a o z w => ?_, fun a z => r2.trk a (r.trk a z), ?_, pmf.nodup_iff.mpr (List.nodup_append.mpr ⟨r2.nd.sublist (List.Sublist.append_left sf _), ?_, fun a ha b hb z => ?_⟩), fun a ha => ?_, by rw [merE_len]; exact r.len, fun i w z => ?_⟩
  · by_cases hb : b ∈ B
    · rw [F3B b hb] at z
      cases z
    · rw [F3n b hb] at z
      exact r2.fh b u z
  · by_cases hb : a ∈ B
    · exact absurd (F3B a hb) z
    · rw [F3n a hb] at z
      rcases r2.new a z with y | y
      · have y : F' a ≠ none := y
        rw [F'n a hb] at y
        exact r.new a y
      · exact .inr (back a y)
  · refine kp a o (r.keep a o z w) fun y => ?_
    rcases (r.own a (inS a (.inl y))).2 with q | q
    · exact w q
    · rw [q] at z
      cases z
  · have e : tmp (S ++ T) ++ σ.zip (merE ρ ρ2) = tmp S ++ (tmp T ++ σ.zip (merE ρ ρ2)) := by
      show (S ++ T).map _ ++ _ = _
      rw [List.map_append, List.append_assoc]
      rfl
    rw [e]
    exact sX2.app (sT2.app sG)
  · exact nd.sublist (List.Sublist.append_left (List.sublist_append_right _ _) _)
  · subst z
    have q := (ownq a (memq a ha)).2.2
    obtain ⟨_, _, q1, q2⟩ := ownp a (List.mem_append.mp hb)
    exact q.elim q1 q2
  · rcases List.mem_append.mp (pmf.mem_iff.mp ha) with z | z
    · exact ⟨(ownq a (memq a z)).1, (ownq a (memq a z)).2.1⟩
    · exact ⟨(ownp a (List.mem_append.mp z)).1, (ownp a (List.mem_append.mp z)).2.1⟩
  · obtain ⟨z1, e0, z2, z3⟩ := r.pin i w z
    exact ⟨z1, pinE_mer ρ ρ2 i e0 hk z2 z3⟩
theorem SemO.bor {t : TE} {m : MO} (s : SemO K t m) : SemO K t (mBor m) := fun c σ ρ T H Q r q => by
  unfold mBor at q
  split at q
  · rename_i ok
    obtain ⟨c', r1, bk⟩ := r.bor ok
    refine s c' σ _ [] H Q r1 ?_
    cases hm : m (ρ.map borS) with
    | none =>
      rw [hm] at q
      exact q
    | some z =>
      obtain ⟨e, ρ2⟩ := z
      rw [hm] at q
      simp only at q
      intro v H2 r2
      split at q
      · rename_i hh
        exact q v H2 (bk [(v, e)] ρ2 H2 hh.2 (fun p hp => by rw [List.mem_singleton.mp hp]; exact hh.1) r2)
      · exact q.elim
  · exact q.elim
theorem SemT.bor {t : TT} {m : MT} (s : SemT K t m) : SemT K t (mBorT m) := fun c σ ρ T H Q r q => by
  unfold mBorT at q
  split at q
  · rename_i ok
    obtain ⟨c', r1, bk⟩ := r.bor ok
    refine s c' σ _ [] H Q r1 ?_
    cases hm : m (ρ.map borS) with
    | none =>
      rw [hm] at q
      exact q
    | some z =>
      obtain ⟨e, ρ2⟩ := z
      rw [hm] at q
      simp only at q
      intro H2 r2
      split at q
      · rename_i hh
        exact q H2 (bk [] ρ2 H2 hh (fun p hp => (List.not_mem_nil hp).elim) r2)
      · exact q.elim
  · exact q.elim
end
theorem j_bor {Y : Fam} {e : Expr} {m : MO} (h : JO Y e m) : JO Y e (mBor m) := let ⟨t, p, s⟩ := h; ⟨t, p, s.bor⟩
theorem j_borV {Y : Fam} {e : Expr} {m : MV} (h : JV Y e m) : JV Y e (mFz (mBor (mVal m))) := j_fz (j_bor (j_val h))
theorem t_bor {Y : Fam} {e : Expr} {m : MT} (h : JT Y e m) : JT Y e (mBorT m) := let ⟨t, p, s⟩ := h; ⟨t, p, s.bor⟩
end Fj

set_option Elab.async false
set_option linter.all false
set_option maxRecDepth 100000
set_option maxHeartbeats 4000000
set_option autoImplicit false
/-! The deck of a law: made, read, written. -/
namespace Fj
open PySem PySem.Spec PyProof.Rows L2

section
variable {K : PySem.W.Frag} {c : Ct} {σ : L2.St} {ρ : En} {T : Tm} {H F : Hp} {fp : List Addr}
abbrev dkV (s : Nat) (b : Addr) (m t : V) : List (Key × V) := [(.inr (dkK s).1, .ref b), (.inr (dkK s).2.1, m), (.inr (dkK s).2.2, t)]
theorem dk_ne3 : ("cells" : Str) ≠ "mixed" ∧ ("cells" : Str) ≠ "draws" ∧ ("mixed" : Str) ≠ "draws" := by decide
theorem dk_ne (s : Nat) : (dkK s).1 ≠ (dkK s).2.1 ∧ (dkK s).1 ≠ (dkK s).2.2 ∧ (dkK s).2.1 ≠ (dkK s).2.2 := by
  match s with
  | 0 => decide
  | 1 => decide
  | 2 => decide
  | n + 3 => exact dk_ne3
theorem dk_left (s : Nat) (b : Addr) (m t : V) : valV (dkV s b m t) (.inr (dkK s).1) = some (.ref b) := valV_pos rfl
theorem dk_mixed (s : Nat) (b : Addr) (m t : V) : valV (dkV s b m t) (.inr (dkK s).2.1) = some m := by
  obtain ⟨h1, h2, h3⟩ := dk_ne s
  exact (valV_neg fun z => h1 (Sum.inr.inj z)).trans (valV_pos rfl)
theorem dk_turn (s : Nat) (b : Addr) (m t : V) : valV (dkV s b m t) (.inr (dkK s).2.2) = some t := by
  obtain ⟨h1, h2, h3⟩ := dk_ne s
  exact (valV_neg fun z => h2 (Sum.inr.inj z)).trans ((valV_neg fun z => h3 (Sum.inr.inj z)).trans (valV_pos rfl))
theorem dk_putM (s : Nat) (b : Addr) (m t v : V) : putK (dkV s b m t) (.inr (dkK s).2.1) v = dkV s b v t := by
  obtain ⟨h1, h2, h3⟩ := dk_ne s
  have e1 : ¬ (Sum.inr (dkK s).1 : Key) = .inr (dkK s).2.1 := fun z => h1 (Sum.inr.inj z)
  have e2 : ¬ (Sum.inr (dkK s).2.2 : Key) = .inr (dkK s).2.1 := fun z => h3 (Sum.inr.inj z).symm
  unfold putK
  rw [valV_any, dk_mixed, Option.isSome_some, if_pos rfl]
  simp only [List.map_cons, List.map_nil, if_neg e1, if_neg e2, if_true]
theorem dk_putT (s : Nat) (b : Addr) (m t v : V) : putK (dkV s b m t) (.inr (dkK s).2.2) v = dkV s b m v := by
  obtain ⟨h1, h2, h3⟩ := dk_ne s
  have e1 : ¬ (Sum.inr (dkK s).1 : Key) = .inr (dkK s).2.2 := fun z => h2 (Sum.inr.inj z)
  have e2 : ¬ (Sum.inr (dkK s).2.1 : Key) = .inr (dkK s).2.2 := fun z => h3 (Sum.inr.inj z)
  unfold putK
  rw [valV_any, dk_turn, Option.isSome_some, if_pos rfl]
  simp only [List.map_cons, List.map_nil, if_neg e1, if_neg e2, if_true]
theorem dk_merge (s : Nat) (b : Addr) (m t : V) : mergeK [] (dkV s b m t) = dkV s b m t := by
  obtain ⟨h1, h2, h3⟩ := dk_ne s
  have e1 : ¬ (Sum.inr (dkK s).1 : Key) = .inr (dkK s).2.1 := fun z => h1 (Sum.inr.inj z)
  have e2 : ¬ (Sum.inr (dkK s).1 : Key) = .inr (dkK s).2.2 := fun z => h2 (Sum.inr.inj z)
  have e3 : ¬ (Sum.inr (dkK s).2.1 : Key) = .inr (dkK s).2.2 := fun z => h3 (Sum.inr.inj z)
  unfold mergeK dkV
  simp only [List.foldl_cons, List.foldl_nil]
  rw [putK_new (.ref b) rfl]
  rw [putK_new m (valV_neg e1)]
  exact putK_new t ((valV_neg e2).trans (valV_neg e3))
/-- a slot's deck -/
theorem Rel.dkAt {i : Nat} {fr : Bool} {s : Nat} {l : List Int} {m t : Int} (r : Rel K c σ ρ T H) (he : ρ[i]? = some (.own fr (.deck s l m t))) : ∃ a b, σ[i]? = some (some (.ref a)) ∧ H a = some (.dK (dkV s b (.int m) (.int t))) ∧ H b = some (.lst (l.map V.int)) ∧ a ≠ b ∧
    (∀ m' t' : Int, Rel K c σ (ρ.set i (.own fr (.deck s l m' t'))) T (upd H a (.dK (dkV s b (.int m') (.int t'))))) ∧ ∀ l' : List Int, Rel K c σ (ρ.set i (.own fr (.deck s l' m t))) T (upd H b (.lst (l'.map V.int))) := by
  obtain ⟨v, hv⟩ := r.ownv he
  have r1 := r.take hv he
  obtain ⟨F, fp, f⟩ := r1
  obtain ⟨fc, fq, hc, _, hfr, efp, up⟩ := f.opn
  have nd := f.nd
  rw [efp] at nd
  have ndc := (List.nodup_append.mp nd).1
  cases hc with
  | @deck a b _ _ _ _ h g =>
    have hab : a ≠ b := fun z => by
      rw [z] at ndc
      exact (List.nodup_cons.mp ndc).1 (List.mem_singleton.mpr rfl)
    refine ⟨a, b, hv, h, g, hab, fun m' t' => ?_, fun l' => ?_⟩
    · have q := up a (.dK (dkV s b (.int m') (.int t'))) (.deck s l m' t') (List.mem_cons_self ..) (.deck upd_same (by rw [upd_ne (fun z => hab z.symm)]; exact g))
      exact r.put_back he hv q
    · have q := up b (.lst (l'.map V.int)) (.deck s l' m t) (List.mem_cons_of_mem _ (List.mem_singleton.mpr rfl)) (.deck (by rw [upd_ne hab]; exact h) upd_same)
      exact r.put_back he hv q
end
def mDkM (s0 i : Nat) : MV := fun ρ => match ρ[i]? with
  | some (.own _ (.deck s _ m _)) => if s = s0 then some (.int m, ρ) else none
  | _ => none
def mDkT (s0 i : Nat) : MV := fun ρ => match ρ[i]? with
  | some (.own _ (.deck s _ _ t)) => if s = s0 then some (.int t, ρ) else none
  | _ => none
def mDkL (s0 i : Nat) : MT := fun ρ => match ρ[i]? with
  | some (.own _ (.deck s l _ _)) => if s = s0 then some (!l.isEmpty, ρ) else none
  | _ => none
def mDkPop (s0 i : Nat) : MV := fun ρ => match ρ[i]? with
  | some (.own fr (.deck s l m t)) => if s = s0 then (match l.getLast? with
    | some x => some (.int x, ρ.set i (.own fr (.deck s l.dropLast m t)))
    | none => none) else none
  | _ => none
def valS : Ent → Ent
  | .val d => .val d
  | _ => .no
def mDkApp (s0 i : Nat) (m : MV) : MO := fun ρ => match ρ[i]? with
  | some (.own fr (.deck s l mx t)) => if s = s0 ∧ l.length < 100000 then (match m (ρ.map valS) with
    | some (.int x, _) => some (.val .none, ρ.set i (.own fr (.deck s (l ++ [x]) mx t)))
    | _ => none) else none
  | _ => none
def mDkSetM (s0 i : Nat) (m : MV) : MS := fun ρ => match m ρ with
  | some (.int x, ρ) => (match ρ[i]? with
    | some (.own fr (.deck s l _ t)) => if s = s0 then some (.nx (ρ.set i (.own fr (.deck s l x t)))) else none
    | _ => none)
  | _ => none
def mDkSetT (s0 i : Nat) (m : MV) : MS := fun ρ => match m ρ with
  | some (.int x, ρ) => (match ρ[i]? with
    | some (.own fr (.deck s l mx _)) => if s = s0 then some (.nx (ρ.set i (.own fr (.deck s l mx x)))) else none
    | _ => none)
  | _ => none
def mDkNew (s : Nat) (a : MO) (b c : MV) : MO := fun ρ => match a ρ with
  | some (.own true (.lst ds), ρ) => (match intsD ds with
    | some l => (match b ρ with
      | some (.int m, ρ) => (match c ρ with
        | some (.int t, ρ) => some (.own true (.deck s l m t), ρ)
        | _ => none)
      | _ => none)
    | none => none)
  | _ => none
theorem canLay_ints : ∀ ns : List Int, PyData.canLayAll0 (ns.map PyData.int) = true
  | [] => by simp [PyData.canLayAll0]
  | n :: ns => by
    rw [List.map_cons]
    unfold PyData.canLayAll0
    rw [canLay_ints ns]
    simp [PyData.canLay0]
theorem depth_ints : ∀ ns : List Int, PyData.depthAll (ns.map PyData.int) = 0
  | [] => by simp [PyData.depthAll]
  | n :: ns => by
    rw [List.map_cons]
    unfold PyData.depthAll
    rw [depth_ints ns]
    simp [PyData.depth]
theorem shaped_ints (ns : List Int) : SeqAt.shaped (.list (ns.map .int)) = true := by
  unfold SeqAt.shaped
  rw [show PyData.canLay0 (.list (ns.map .int)) = true from by unfold PyData.canLay0; exact canLay_ints ns]
  rw [show PyData.depth (.list (ns.map .int)) = 1 from by unfold PyData.depth; rw [depth_ints]]
  rfl
theorem eqv_nil (ns : List Int) : PyData.eqv (.list (ns.map .int)) (.list []) = ns.isEmpty := by
  cases ns <;> simp [PyData.eqv, PyData.eqvAll]
section
variable {K : PySem.W.Frag} {c : Ct} {σ : L2.St} {ρ : En} {T : Tm} {H F : Hp} {fp : List Addr}
theorem dp_ints {H : Hp} : ∀ {ns : List Int}, DpAll K H (ns.map V.int) (ns.map PyData.int)
  | [] => .nil
  | n :: ns => .cons (.int n) dp_ints
theorem rps_ints {F : Hp} : ∀ {ns : List Int}, Rps K F (ns.map V.int) (ns.map PyData.int)
  | [] => .nil
  | n :: ns => .cons (.int n) rps_ints
/-- a look with what is plain alone: nothing changes -/
theorem slots_vs (h : Slots K c F H (σ.zip ρ) fp) (c' : Ct) : Slots K c' F H (σ.zip (ρ.map valS)) [] := by
  induction ρ generalizing σ fp with
  | nil =>
    cases σ <;> exact .nil
  | cons e ρ ih =>
    cases σ with
    | nil => exact .nil
    | cons x σ =>
      have h0 : Slots K c F H ((x, e) :: σ.zip ρ) fp := h
      clear h
      cases h0 with
      | cons h t =>
        cases h with
        | val r => exact Slots.cons (fc := []) (.val r) (ih t)
        | no x => exact Slots.cons (fc := []) (.no _) (ih t)
        | lent x => exact Slots.cons (fc := []) (.no _) (ih t)
        | scr h w => exact Slots.cons (fc := []) (.no _) (ih t)
        | own r hh => exact Slots.cons (fc := []) (.no _) (ih t)
theorem RelF.look (f : RelF K c σ ρ T H F fp) : Rel K ⟨F, H, fun _ => False, []⟩ σ (ρ.map valS) [] H := by
  obtain ⟨f1, f2, _, _, s2⟩ := Slots.split f.sl
  exact ⟨F, [], fun _ _ z => z, f.fh, fun a z => .inl z, fun a o z _ => z, fun a z => z, slots_vs s2 _, List.nodup_nil, fun a z => (List.not_mem_nil z).elim, by rw [List.length_map]; exact f.len, fun i v z => by cases z⟩
/-- a deck is closed -/
theorem RelF.dkClose {p b : Addr} {s : Nat} {ns : List Int} {m t : Int} (f : RelF K c σ ρ ((.ref p, .own true (.dct [])) :: (.ref b, .own true (.lst (ns.map .int))) :: T) H F fp) : H p = some (.dK []) ∧ Rel K c σ ρ ((.ref p, .own true (.deck s ns m t)) :: T) (upd H p (.dK (dkV s b (.int m) (.int t)))) := by
  obtain ⟨fc, fq, e1, h1, f1⟩ := f.pop
  obtain ⟨fd, fr, e2, h2, f2⟩ := f1.pop
  subst e1 e2
  cases h1 with
  | own r hh =>
    cases r with
    | @dct _ vs _ h hk rs =>
      have hv : vs = [] := List.map_eq_nil_iff.mp hk
      subst hv
      cases h2 with
      | own r2 hh2 =>
        cases r2 with
        | @lst _ ws _ g rg =>
          refine ⟨h, ?_⟩
          have nd := f.nd
          have nd2 : (p :: b :: fr).Nodup := nd
          have hpb : b ≠ p := fun z => (List.nodup_cons.mp nd2).1 (by rw [← z]; exact List.mem_cons_self ..)
          have hpr : ∀ a ∈ fr, a ≠ p := fun a ha z => (List.nodup_cons.mp nd2).1 (List.mem_cons_of_mem _ (z ▸ ha))
          have hws : ws = ns.map V.int := rg.nums
          have own := f.own
          refine ⟨F, p :: b :: fr, f2.f0, fun a u z => ?_, f2.new, fun a u z w => ?_, fun a z => ?_, Slots.cons (fc := [p, b]) (.own (.deck upd_same (by rw [upd_ne hpb, ← hws]; exact g)) fun z a ha => ?_) (f2.sl.stay (fun _ _ z => z) fun a ha => upd_ne (hpr a ha)), nd2, own, f2.len, f2.pin⟩
          · rw [upd_ne fun y => by rw [y, (own p (List.mem_cons_self ..)).1] at z; cases z]
            exact f2.fh a u z
          · have q := hh rfl p (List.mem_singleton.mpr rfl)
            rw [upd_ne fun y => by rw [y, q] at z; cases z]
            exact f2.keep a u z w
          · by_cases hb : a = p
            · rw [hb, upd_same]
              exact fun z => nomatch z
            · rw [upd_ne hb]
              exact f2.trk a z
          · rcases List.mem_cons.mp ha with y | y
            · exact hh rfl a (List.mem_singleton.mpr y)
            · exact hh2 rfl a y
end
section
variable {Y : Fam} {e : Expr} {pos p1 p2 apos cpos : Pos} {x nm : Str} {j1 : Nat}
theorem j_dkM (s0 i : Nat) (hn : nm = (dkK s0).2.1 := by rfl) (hN : ∀ j, (Y.X j).N[i]? = some x := by intro _; rfl) (hv : ∀ j, Vis (Y.X j).env.scope x := by first | exact fun _ => Or.inl rfl | exact fun _ => Or.inr (Or.inl rfl) | exact fun _ => Or.inr (Or.inr rfl)) (hd : (x == ("__debug__" : Str)) = false := by decide) (hcd : (x == ("__classdict__" : Str)) = false := by decide)
    (hs : NoSl (.Constant (.str nm) j1 p2) := by intro _ _; rfl) : JV Y (.Subscript (.Name x p1) (.Constant (.str nm) j1 p2) pos) (mDkM s0 i) := by
  refine ⟨tDGet (tVar i) (tC (.str nm)), fun j => pe_dget (Nat.lt_of_le_of_lt (Nat.add_le_add_left (by decide) _) (Y.room j).units) (pe_var (hN j) (hv j) hd hcd) pe_str hs, fun c σ ρ T H Q r q => ?_⟩
  unfold mDkM at q
  split at q
  · rename_i fr s l m t he
    split at q
    · rename_i hs0
      subst hs0
      obtain ⟨a, b, h1, h2, h3, _⟩ := r.dkAt he
      refine ⟨_, h1, a, .int m, rfl, ?_, q _ H (r.pushI m)⟩
      rw [hn]
      have g := DGet.k (k := .inr (dkK s).2.1) h2
      rw [dk_mixed] at g
      exact g
    · exact q.elim
  · exact q.elim
theorem j_dkT (s0 i : Nat) (hn : nm = (dkK s0).2.2 := by rfl) (hN : ∀ j, (Y.X j).N[i]? = some x := by intro _; rfl) (hv : ∀ j, Vis (Y.X j).env.scope x := by first | exact fun _ => Or.inl rfl | exact fun _ => Or.inr (Or.inl rfl) | exact fun _ => Or.inr (Or.inr rfl)) (hd : (x == ("__debug__" : Str)) = false := by decide) (hcd : (x == ("__classdict__" : Str)) = false := by decide)
    (hs : NoSl (.Constant (.str nm) j1 p2) := by intro _ _; rfl) : JV Y (.Subscript (.Name x p1) (.Constant (.str nm) j1 p2) pos) (mDkT s0 i) := by
  refine ⟨tDGet (tVar i) (tC (.str nm)), fun j => pe_dget (Nat.lt_of_le_of_lt (Nat.add_le_add_left (by decide) _) (Y.room j).units) (pe_var (hN j) (hv j) hd hcd) pe_str hs, fun c σ ρ T H Q r q => ?_⟩
  unfold mDkT at q
  split at q
  · rename_i fr s l m t he
    split at q
    · rename_i hs0
      subst hs0
      obtain ⟨a, b, h1, h2, h3, _⟩ := r.dkAt he
      refine ⟨_, h1, a, .int t, rfl, ?_, q _ H (r.pushI t)⟩
      rw [hn]
      have g := DGet.k (k := .inr (dkK s).2.2) h2
      rw [dk_turn] at g
      exact g
    · exact q.elim
  · exact q.elim
theorem t_dkL (s0 i : Nat) {p3 p4 : Pos} (hn : nm = (dkK s0).1 := by rfl) (hN : ∀ j, (Y.X j).N[i]? = some x := by intro _; rfl) (hv : ∀ j, Vis (Y.X j).env.scope x := by first | exact fun _ => Or.inl rfl | exact fun _ => Or.inr (Or.inl rfl) | exact fun _ => Or.inr (Or.inr rfl)) (hd : (x == ("__debug__" : Str)) = false := by decide) (hcd : (x == ("__classdict__" : Str)) = false := by decide)
    (hs : NoSl (.Constant (.str nm) j1 p2) := by intro _ _; rfl) (hm : behindInMarks .NotEq (.List [] p3) = false := by first | exact nomark _ | rfl) : JT Y (.Compare (.Subscript (.Name x p1) (.Constant (.str nm) j1 p2) pos) [.NotEq] [.List [] p3] p4) (mDkL s0 i) := by
  refine ⟨tTest (tOp (rNeD Y.K) (tDGet (tVar i) (tC (.str nm))) (tLst tNil)), fun j => by
    rw [← Y.hK j]
    exact pt_cmpR (op_neD (Y.room j).units) (pe_dget (Nat.lt_of_le_of_lt (Nat.add_le_add_left (by decide) _) (Y.room j).units) (pe_var (hN j) (hv j) hd hcd) pe_str hs) (pe_lst pa_nil) hm, fun c σ ρ T H Q r q => ?_⟩
  unfold mDkL at q
  split at q
  · rename_i fr s l m t he
    split at q
    · rename_i hs0
      subst hs0
      obtain ⟨a, b, h1, h2, h3, _⟩ := r.dkAt he
      refine ⟨_, h1, a, .ref b, rfl, ?_, Nat.zero_le _, fun p hp => ⟨.list (l.map .int), .list [], .lst (.inl (.inl ?_)) dp_ints, .lst (.inl (.inl upd_same)) .nil, shaped_ints l, by decide, !l.isEmpty, ?_, q _ (r.fresh hp _)⟩⟩
      · rw [hn]
        have g := DGet.k (k := .inr (dkK s).1) h2
        rw [dk_left] at g
        exact g
      · rw [upd_ne (ne_of_none h3 hp)]
        exact h3
      · rw [eqv_nil]
    · exact q.elim
  · exact q.elim
theorem j_dkPop (s0 i : Nat) (hn : nm = (dkK s0).1 := by rfl) (hN : ∀ j, (Y.X j).N[i]? = some x := by intro _; rfl) (hv : ∀ j, Vis (Y.X j).env.scope x := by first | exact fun _ => Or.inl rfl | exact fun _ => Or.inr (Or.inl rfl) | exact fun _ => Or.inr (Or.inr rfl)) (hd : (x == ("__debug__" : Str)) = false := by decide) (hcd : (x == ("__classdict__" : Str)) = false := by decide)
    (hs : NoSl (.Constant (.str nm) j1 p2) := by intro _ _; rfl) (hbase : ∀ j, attributeBase (.Subscript (.Name x p1) (.Constant (.str nm) j1 p2) pos) "pop" (Y.X j).env (eval (.Subscript (.Name x p1) (.Constant (.str nm) j1 p2) pos) (Y.X j).env) = eval (.Subscript (.Name x p1) (.Constant (.str nm) j1 p2) pos) (Y.X j).env := by intro _; rfl)
    (hline : (apos.endLine == cpos.line) = true := by rfl) : JV Y (.Call (.Attribute (.Subscript (.Name x p1) (.Constant (.str nm) j1 p2) pos) "pop" apos) [] [] cpos) (mDkPop s0 i) := by
  refine ⟨tBM0 Y.K "list" rPop (tDGet (tVar i) (tC (.str nm))), fun j => by
    rw [← Y.hK j]
    exact pe_bm0 PySem.F.plainAttrs_list PySem.F.slot_list_pop PySem.F.type_list_pop mt_pop (pe_dget (Nat.lt_of_le_of_lt (Nat.add_le_add_left (by decide) _) (Y.room j).units) (pe_var (hN j) (hv j) hd hcd) pe_str hs) (hbase j) hline, fun c σ ρ T H Q r q => ?_⟩
  unfold mDkPop at q
  split at q
  · rename_i fr s l m t he
    split at q
    · rename_i hs0
      subst hs0
      obtain ⟨a, b, h1, h2, h3, _, _, up⟩ := r.dkAt he
      cases hl : l.getLast? with
      | none =>
        rw [hl] at q
        exact q.elim
      | some y =>
        rw [hl] at q
        refine ⟨_, h1, a, .ref b, rfl, ?_, .inl ⟨rfl, _, .inl (.inl h3)⟩, b, _, .int y, rfl, rfl, h3, ?_, ?_⟩
        · rw [hn]
          have g := DGet.k (k := .inr (dkK s).1) h2
          rw [dk_left] at g
          exact g
        · rw [List.length_map, List.getElem?_map, ← List.getLast?_eq_getElem?, hl]
          rfl
        · rw [← List.map_dropLast]
          exact q _ _ ((up l.dropLast).pushI y)
    · exact q.elim
  · exact q.elim
theorem j_dkApp (s0 i : Nat) {m : MV} (h : JV Y e m) (hn : nm = (dkK s0).1 := by rfl) (hN : ∀ j, (Y.X j).N[i]? = some x := by intro _; rfl) (hv : ∀ j, Vis (Y.X j).env.scope x := by first | exact fun _ => Or.inl rfl | exact fun _ => Or.inr (Or.inl rfl) | exact fun _ => Or.inr (Or.inr rfl)) (hd : (x == ("__debug__" : Str)) = false := by decide) (hcd : (x == ("__classdict__" : Str)) = false := by decide)
    (hs : NoSl (.Constant (.str nm) j1 p2) := by intro _ _; rfl) (hbase : ∀ j, attributeBase (.Subscript (.Name x p1) (.Constant (.str nm) j1 p2) pos) "append" (Y.X j).env (eval (.Subscript (.Name x p1) (.Constant (.str nm) j1 p2) pos) (Y.X j).env) = eval (.Subscript (.Name x p1) (.Constant (.str nm) j1 p2) pos) (Y.X j).env := by intro _; rfl)
    (hfew : ∀ i, ((backTo cpos (starEach [e] (Y.X i).env)).all (fun x => !x.1) && (backToKw cpos (keywordEach [] (Y.X i).env)).all (fun x => x.1.isSome) && decide ([e].length + ([] : List Keyword).length + (if ([] : List Keyword).isEmpty then 0 else 1) < 30)) = true := by intro _; rfl)
    (hline : (apos.endLine == cpos.line) = true := by rfl) (hse : ∀ i, starEach [e] (Y.X i).env = (false, eval e (Y.X i).env) :: starEach [] (Y.X i).env := by intro _; rfl) (hplain : ∀ i, (backTo cpos (starEach [] (Y.X i).env)).any (·.1) = false := by intro _; rfl) :
    JO Y (.Call (.Attribute (.Subscript (.Name x p1) (.Constant (.str nm) j1 p2) pos) "append" apos) [e] [] cpos) (mDkApp s0 i m) := by
  obtain ⟨te, pe, se⟩ := h
  refine ⟨tBM Y.K "list" rAppend (tDGet (tVar i) (tC (.str nm))) (tCons te tNil), fun j => by
    rw [← Y.hK j]
    exact pe_bm PySem.F.plainAttrs_list PySem.F.slot_list_append PySem.F.type_list_append mt_append (pe_dget (Nat.lt_of_le_of_lt (Nat.add_le_add_left (by decide) _) (Y.room j).units) (pe_var (hN j) (hv j) hd hcd) pe_str hs) (pa_cons (pe j) pa_nil (hse j)) (hbase j) (hfew j) hline (hse j) (hplain j), fun c σ ρ T H Q r q => ?_⟩
  unfold mDkApp at q
  split at q
  · rename_i fr s l m0 t he
    split at q
    · rename_i hh
      obtain ⟨hs0, hlen⟩ := hh
      subst hs0
      obtain ⟨a, b, h1, h2, h3, _⟩ := r.dkAt he
      obtain ⟨F, fp, f⟩ := r
      refine ⟨_, h1, a, .ref b, rfl, ?_, .inl ⟨rfl, _, .inl (.inl h3)⟩, se _ σ _ [] H _ f.look ?_⟩
      · rw [hn]
        have g := DGet.k (k := .inr (dkK s).1) h2
        rw [dk_left] at g
        exact g
      · cases hm : m (ρ.map valS) with
        | none =>
          rw [hm] at q
          exact q.elim
        | some z =>
          obtain ⟨d, ρ2⟩ := z
          rw [hm] at q
          cases d with
          | int y =>
            simp only at q
            intro v H1 r1
            have k1 := f.callOut r1 rfl
            have kb : H1 b = some (.lst (l.map V.int)) := by
              obtain ⟨_, _, f1⟩ := r1
              exact f1.keep b _ h3 id
            have ka : H1 a = some (.dK (dkV s b (.int m0) (.int t))) := by
              obtain ⟨_, _, f1⟩ := r1
              exact f1.keep a _ h2 id
            obtain ⟨a', b', e1, e2, e3, _, _, up⟩ := k1.dkAt he
            rw [h1] at e1
            cases e1
            rw [ka] at e2
            have hb : b = b' := by
              have := (List.cons.inj (HO.dK.inj (Option.some.inj e2))).1
              exact V.ref.inj (Prod.mk.inj this).2
            subst hb
            have hvy : v = .int y := by
              cases k1.top
              rfl
            subst hvy
            refine ⟨b, _, .int y, rfl, rfl, kb, sz5l (by rw [List.length_map]; omega), q _ _ ?_⟩
            have e : (l ++ [y]).map V.int = l.map V.int ++ [V.int y] := by rw [List.map_append]; rfl
            rw [← e]
            exact Rel.pushN (Rel.pop (up (l ++ [y])))
          | _ => exact q.elim
    · exact q.elim
  · exact q.elim
theorem s_dkSetM (s0 i : Nat) {m : MV} {value : Expr} {pos' : Pos} (h : JV Y value m) (hn : nm = (dkK s0).2.1 := by rfl) (hN : ∀ j, (Y.X j).N[i]? = some x := by intro _; rfl) (hv : ∀ j, Vis (Y.X j).env.scope x := by first | exact fun _ => Or.inl rfl | exact fun _ => Or.inr (Or.inl rfl) | exact fun _ => Or.inr (Or.inr rfl)) (hd : (x == ("__debug__" : Str)) = false := by decide) (hcd : (x == ("__classdict__" : Str)) = false := by decide)
    (hsw : ∀ j, swapsWith value (some (.Subscript (.Name x p1) (.Constant (.str nm) j1 p2) pos')) pos.line (Y.X j).env = pure false := by intro _; rfl) : JS Y (.Assign [.Subscript (.Name x p1) (.Constant (.str nm) j1 p2) pos'] value pos) (mDkSetM s0 i m) := by
  obtain ⟨tv, pv, sv⟩ := h
  refine ⟨sDPut (tVar i) (tC (.str nm)) tv, fun j => ps_dput (Nat.lt_of_le_of_lt (Nat.add_le_add_left (by decide) _) (Y.room j).units) (pe_var (hN j) (hv j) hd hcd) pe_str (pv j) (hsw j), fun c σ ρ T H D r q => ?_⟩
  unfold mDkSetM at q
  refine sv c σ ρ T H _ r ?_
  cases hm : m ρ with
  | none =>
    rw [hm] at q
    exact q.elim
  | some z =>
    obtain ⟨d, ρ1⟩ := z
    rw [hm] at q
    cases d with
    | int y =>
      simp only at q
      intro v H1 r1
      split at q
      · rename_i fr s l mx t he
        split at q
        · rename_i hs0
          subst hs0
          obtain ⟨a, b, h1, h2, h3, _, up, _⟩ := r1.dkAt he
          have hvy : v = .int y := by
            cases r1.top
            rfl
          subst hvy
          refine ⟨_, h1, a, _, rfl, ?_, q _ _ (Rel.pop (up y t))⟩
          rw [hn]
          have g := DPut.k (v := .int y) (k := .inr (dkK s).2.1) h2 (by show 3 < sizeLine; rw [sizeLine_eq]; omega)
          rw [dk_putM] at g
          exact g
        · exact q.elim
      · exact q.elim
    | _ => exact q.elim
theorem s_dkSetT (s0 i : Nat) {m : MV} {value : Expr} {pos' : Pos} (h : JV Y value m) (hn : nm = (dkK s0).2.2 := by rfl) (hN : ∀ j, (Y.X j).N[i]? = some x := by intro _; rfl) (hv : ∀ j, Vis (Y.X j).env.scope x := by first | exact fun _ => Or.inl rfl | exact fun _ => Or.inr (Or.inl rfl) | exact fun _ => Or.inr (Or.inr rfl)) (hd : (x == ("__debug__" : Str)) = false := by decide) (hcd : (x == ("__classdict__" : Str)) = false := by decide)
    (hsw : ∀ j, swapsWith value (some (.Subscript (.Name x p1) (.Constant (.str nm) j1 p2) pos')) pos.line (Y.X j).env = pure false := by intro _; rfl) : JS Y (.Assign [.Subscript (.Name x p1) (.Constant (.str nm) j1 p2) pos'] value pos) (mDkSetT s0 i m) := by
  obtain ⟨tv, pv, sv⟩ := h
  refine ⟨sDPut (tVar i) (tC (.str nm)) tv, fun j => ps_dput (Nat.lt_of_le_of_lt (Nat.add_le_add_left (by decide) _) (Y.room j).units) (pe_var (hN j) (hv j) hd hcd) pe_str (pv j) (hsw j), fun c σ ρ T H D r q => ?_⟩
  unfold mDkSetT at q
  refine sv c σ ρ T H _ r ?_
  cases hm : m ρ with
  | none =>
    rw [hm] at q
    exact q.elim
  | some z =>
    obtain ⟨d, ρ1⟩ := z
    rw [hm] at q
    cases d with
    | int y =>
      simp only at q
      intro v H1 r1
      split at q
      · rename_i fr s l mx t he
        split at q
        · rename_i hs0
          subst hs0
          obtain ⟨a, b, h1, h2, h3, _, up, _⟩ := r1.dkAt he
          have hvy : v = .int y := by
            cases r1.top
            rfl
          subst hvy
          refine ⟨_, h1, a, _, rfl, ?_, q _ _ (Rel.pop (up mx y))⟩
          rw [hn]
          have g := DPut.k (v := .int y) (k := .inr (dkK s).2.2) h2 (by show 3 < sizeLine; rw [sizeLine_eq]; omega)
          rw [dk_putT] at g
          exact g
        · exact q.elim
      · exact q.elim
    | _ => exact q.elim
theorem j_dkNew (s : Nat) {e1 e2 e3 : Expr} {q1 q2 q3 : Pos} {n1 n2 n3 : Str} {k1 k2 k3 : Nat} {ma : MO} {mb mc : MV} (ha : JO Y e1 ma) (hb : JV Y e2 mb) (hc : JV Y e3 mc) (h1 : n1 = (dkK s).1 := by rfl) (h2 : n2 = (dkK s).2.1 := by rfl) (h3 : n3 = (dkK s).2.2 := by rfl) :
    JO Y (.Dict [some (.Constant (.str n1) k1 q1), some (.Constant (.str n2) k2 q2), some (.Constant (.str n3) k3 q3)] [e1, e2, e3] pos) (mDkNew s ma mb mc) := by
  subst h1 h2 h3
  obtain ⟨t1, w1, s1⟩ := ha
  obtain ⟨t2, w2, s2⟩ := hb
  obtain ⟨t3, w3, s3⟩ := hc
  refine ⟨tDisp [(tC (.str (dkK s).1), t1), (tC (.str (dkK s).2.1), t2), (tC (.str (dkK s).2.2), t3)], fun j => pe_disp (pps_cons pe_str (w1 j) (pps_cons pe_str (w2 j) (pps_cons pe_str (w3 j) pps_nil))) rfl rfl (List.cons_ne_nil _ _) (by show 3 ≤ 15; omega), fun c σ ρ T H Q r q => fun p hp => ?_⟩
  obtain ⟨F, fp, f⟩ := r
  have r0 := f.dctNew hp
  unfold mDkNew at q
  refine s1 c σ ρ _ _ _ r0 ?_
  split at q
  · rename_i ds ρ1 e1
    rw [e1]
    intro v1 H1 r1
    split at q
    · rename_i l hl
      have hds := intsD_eq hl
      subst hds
      split at q
      · rename_i m ρ2 e2
        refine s2 c σ ρ1 _ _ _ r1 ?_
        rw [e2]
        intro v2 H2 r2
        split at q
        · rename_i t ρ3 e3
          refine s3 c σ ρ2 _ _ _ r2 ?_
          rw [e3]
          intro v3 H3 r3
          have hv3 : v3 = .int t := by
            cases r3.top
            rfl
          have r4 := r3.pop
          have hv2 : v2 = .int m := by
            cases r4.top
            rfl
          have r5 := (r4.pop).swap
          obtain ⟨F5, fp5, f5⟩ := r5
          have hv1 : ∃ b, v1 = .ref b := by
            obtain ⟨_, _, _, _, g5⟩ := f5.pop
            obtain ⟨b, _, hb, _⟩ := g5.lstTop
            exact ⟨b, hb⟩
          obtain ⟨b, rfl⟩ := hv1
          obtain ⟨hp3, fin⟩ := f5.dkClose (m := m) (t := t)
          refine ⟨hp3, dkV s b (.int m) (.int t), ?_, by show 3 ≤ 15; omega, ?_⟩
          · rw [hv2, hv3]
            rfl
          · rw [dk_merge]
            exact q _ _ fin
        · exact q.elim
      · exact q.elim
    · exact q.elim
  · exact q.elim
end
end Fj

set_option Elab.async false
set_option linter.all false
set_option maxRecDepth 100000
set_option maxHeartbeats 4000000
set_option autoImplicit false
/-! What a printed text leans on. -/
namespace Fj
open PySem PySem.Spec PyProof.Rows L2

theorem j_gint {Y : Fam} {x : Str} {i : Int} {pos : Pos} (h : ∃ t, Y.mg x = some (.int i t)) (hg : ∀ j, Gl (Y.X j) x := by intro _; rfl) (hd : (x == ("__debug__" : Str)) = false := by decide) : JV Y (.Name x pos) (mC (.int i)) :=
  let ⟨t, e⟩ := h
  j_glob (v := .int i) e ⟨t, rfl⟩ (fun _ => .int i) hg hd
theorem j_gstr {Y : Fam} {x z : Str} {pos : Pos} (h : ∃ t, Y.mg x = some (.str z t)) (hg : ∀ j, Gl (Y.X j) x := by intro _; rfl) (hd : (x == ("__debug__" : Str)) = false := by decide) : JV Y (.Name x pos) (mC (.str z)) :=
  let ⟨t, e⟩ := h
  j_glob (v := .str z) e ⟨t, rfl⟩ (fun _ => .str z) hg hd
section
variable {K : PySem.W.Frag} {x qual : Str} {params : Arguments} {body : List Stmt} {scope : Scope} {kws : List (Str × V)} {dvs dvs' : List V} {f : Addr} {fd fd' : FuncData}
theorem FunD.bindG0 {ps ks : List Str} {n : Nat} {p : List Nat} (F : FunD K x qual params body scope [] kws f fd)
    (h : ∀ (kV doc pm : Value) (an : Option Addr) (cdv ct : Value) (us ws : List Value), us.length = n → ws.length = ks.length → bindArgs (PySem.W.fnOf x qual params body scope .none kV doc pm an cdv ct) ⟨us, ks.zip ws⟩ = pure (ps.zip (pick p (us ++ ws)))) : BindG K fd ps n ks [] p := by
  obtain ⟨oc, od, dV, kV, doc, pm, an, cdv, ct, osl, rfl, lk, hcd, hD, hK⟩ := F.ex
  rcases hD with ⟨_, rfl⟩ | ⟨e, _⟩
  · refine ⟨[], .nil, fun s us ws hK h1 h2 => ?_⟩
    rw [List.append_nil]
    exact .of_eq (h kV doc pm an cdv ct us ws h1 h2)
  · exact absurd rfl e
theorem FunD.same (F : FunD K x qual params body scope dvs kws f fd) (F' : FunD K x qual params body scope dvs' kws f fd') : fd = fd' := by
  obtain ⟨oc, od, dV, kV, doc, pm, an, cdv, ct, osl, _, lk, _⟩ := F.ex
  obtain ⟨oc', od', dV', kV', doc', pm', an', cdv', ct', osl', _, lk', _⟩ := F'.ex
  rw [lk] at lk'
  cases lk'
  rfl
end
theorem FnG.never {P : Program} {w : World} {K : PySem.W.Frag} {mg : Str → Option Value} {base : Heap} {k : Nat} {f : Addr} {fd : FuncData} {ps : List Str} : FnG P w K mg base k f fd ps (fun _ => none) :=
  ⟨fun _ _ _ _ _ _ _ _ _ _ _ _ _ ⟨_, _, _, _, _, _, h⟩ => h.elim⟩
end Fj

set_option Elab.async false
set_option linter.all false
set_option maxRecDepth 100000
set_option maxHeartbeats 4000000
set_option autoImplicit false
/-! Several names at once. -/
namespace Fj
open PySem PySem.Spec PyProof.Rows L2

def tmo : List V → List Ent → Tm
  | v :: vs, e :: es => tmo vs es ++ [(v, e)]
  | _, _ => []
abbrev ME := En → Option (List Ent × En)
def PostE (K : PySem.W.Frag) (c : Ct) (σ : L2.St) (T : Tm) (r : Option (List Ent × En)) (Q : List V → Hp → Prop) : Prop := match r with
  | none => False
  | some (es, ρ) => ∀ vs H, vs.length = es.length → Rel K c σ ρ (tmo vs es ++ T) H → Q vs H
def SemE (K : PySem.W.Frag) (t : TA) (m : ME) : Prop := ∀ (c : Ct) (σ : L2.St) (ρ : En) (T : Tm) (H : Hp) (Q : List V → Hp → Prop), Rel K c σ ρ T H → PostE K c σ T (m ρ) Q → t σ H Q
def JE (Y : Fam) (es : List Expr) (m : ME) : Prop := ∃ t, (∀ i, PA (Y.X i) es t) ∧ SemE Y.K t m
def mE0 : ME := fun ρ => some ([], ρ)
def mE1 (m : MO) (n : ME) : ME := fun ρ => match m ρ with
  | none => none
  | some (e, ρ) => match n ρ with
    | none => none
    | some (es, ρ) => some (e :: es, ρ)
section
variable {Y : Fam} {e : Expr} {es : List Expr}
theorem e_nil : JE Y [] mE0 := ⟨tNil, fun _ => pa_nil, fun _ _ _ _ H _ r q => q [] H rfl r⟩
theorem e_cons {m : MO} {n : ME} (h : JO Y e m) (g : JE Y es n) (hs : ∀ j, starEach (e :: es) (Y.X j).env = (false, eval e (Y.X j).env) :: starEach es (Y.X j).env := by intro _; rfl) : JE Y (e :: es) (mE1 m n) := by
  obtain ⟨t, p, s⟩ := h
  obtain ⟨u, p', s'⟩ := g
  refine ⟨tCons t u, fun j => pa_cons (p j) (p' j) (hs j), fun c σ ρ T H Q r q => s c σ ρ T H _ r ?_⟩
  unfold mE1 at q
  cases hm : m ρ with
  | none =>
    rw [hm] at q
    exact q
  | some z =>
    obtain ⟨d, ρ1⟩ := z
    rw [hm] at q
    simp only at q
    intro v H1 r1
    refine s' c σ ρ1 _ H1 _ r1 ?_
    cases hn : n ρ1 with
    | none =>
      rw [hn] at q
      exact q
    | some z =>
      obtain ⟨ds, ρ2⟩ := z
      rw [hn] at q
      intro vs H2 hl r2
      refine q (v :: vs) H2 (congrArg Nat.succ hl) ?_
      show Rel Y.K c σ ρ2 ((tmo vs ds ++ [(v, d)]) ++ T) H2
      rw [List.append_assoc]
      exact r2
end
def mPuts : List Nat → List Ent → En → Option En
  | [], [], ρ => some ρ
  | i :: is, e :: es, ρ => if freeE ρ i = true then mPuts is es (ρ.set i e) else none
  | _, _, _ => none
def mPar (is : List Nat) (n : ME) : MS := fun ρ => match n ρ with
  | none => none
  | some (es, ρ) => (mPuts is es ρ).map .nx
section
variable {K : PySem.W.Frag}
theorem par_inv {is : List Nat} {n : ME} {ρ : En} {c : Ct} {T : Tm} {D : Ends} (q : PostS K c T D (mPar is n ρ)) : ∃ es ρ1 ρ2, n ρ = some (es, ρ1) ∧ mPuts is es ρ1 = some ρ2 ∧ ∀ σ' H, Rel K c σ' ρ2 T H → D.nx σ' H := by
  unfold mPar at q
  cases hn : n ρ with
  | none =>
    rw [hn] at q
    exact q.elim
  | some z =>
    obtain ⟨es, ρ1⟩ := z
    rw [hn] at q
    simp only at q
    cases hm : mPuts is es ρ1 with
    | none =>
      rw [hm] at q
      exact q.elim
    | some ρ2 =>
      rw [hm] at q
      exact ⟨es, ρ1, ρ2, rfl, hm, q⟩
theorem sem_par2 {t : TA} {n : ME} {i j : Nat} (s : SemE K t n) : SemS K (tPar i j t) (mPar [i, j] n) := fun c σ ρ T H D r q => by
  obtain ⟨es, ρ1, ρ2, hn, hm, q⟩ := par_inv q
  refine s c σ ρ T H _ r ?_
  rw [hn]
  intro vs H1 hl r1
  match es, vs, hl, hm, r1 with
  | [e, f], [v, w], _, hm, r1 =>
    refine ⟨v, w, rfl, ?_⟩
    unfold mPuts at hm
    split at hm
    · rename_i h1
      unfold mPuts at hm
      split at hm
      · rename_i h2
        cases hm
        have r2 : Rel K c σ ρ1 ((w, f) :: (v, e) :: T) H1 := r1
        exact q _ _ ((r2.swap.put h1).put h2)
      · cases hm
    · cases hm
  | [], _, _, hm, _ => cases hm
  | [_], [_], _, hm, _ =>
    unfold mPuts at hm
    split at hm <;> cases hm
  | _ :: _ :: _ :: _, _, _, hm, _ =>
    unfold mPuts at hm
    split at hm
    · unfold mPuts at hm
      split at hm <;> cases hm
    · cases hm
theorem sem_par3 {t : TA} {n : ME} {i j l : Nat} (s : SemE K t n) : SemS K (tPar3 i j l t) (mPar [i, j, l] n) := fun c σ ρ T H D r q => by
  obtain ⟨es, ρ1, ρ2, hn, hm, q⟩ := par_inv q
  refine s c σ ρ T H _ r ?_
  rw [hn]
  intro vs H1 hl r1
  match es, vs, hl, hm, r1 with
  | [e, f, g], [v, w, z], _, hm, r1 =>
    refine ⟨v, w, z, rfl, ?_⟩
    unfold mPuts at hm
    split at hm
    · rename_i h1
      unfold mPuts at hm
      split at hm
      · rename_i h2
        unfold mPuts at hm
        split at hm
        · rename_i h3
          cases hm
          have r2 : Rel K c σ ρ1 ((z, g) :: (w, f) :: (v, e) :: T) H1 := r1
          have r3 : Rel K c σ ρ1 ((v, e) :: (w, f) :: (z, g) :: T) H1 := r2.perm (by
            refine (List.Perm.swap (w, f) (z, g) _).trans ?_
            refine (List.Perm.cons _ (List.Perm.swap (v, e) (z, g) _)).trans ?_
            exact List.Perm.swap (v, e) (w, f) _)
          exact q _ _ (((r3.put h1).put h2).put h3)
        · cases hm
      · cases hm
    · cases hm
  | [], _, _, hm, _ => cases hm
  | [_], [_], _, hm, _ =>
    unfold mPuts at hm
    split at hm <;> cases hm
  | [_, _], [_, _], _, hm, _ =>
    unfold mPuts at hm
    split at hm
    · unfold mPuts at hm
      split at hm <;> cases hm
    · cases hm
  | _ :: _ :: _ :: _ :: _, _, _, hm, _ =>
    unfold mPuts at hm
    split at hm
    · unfold mPuts at hm
      split at hm
      · unfold mPuts at hm
        split at hm <;> cases hm
      · cases hm
    · cases hm
end
def JN (Y : Fam) (ts : List Expr) (is : List Nat) : Prop := ∃ g, (∀ j, PGs (Y.X j) ts g) ∧ ∀ (c : Ct) (σ : L2.St) (ρ : En) (T : Tm) (H : Hp) (xs : List V) (es : List Ent) (ρ' : En) (Q : L2.St → Hp → Prop), xs.length = es.length → Rel Y.K c σ ρ (xs.zip es ++ T) H → mPuts is es ρ = some ρ' → (∀ σ' H, Rel Y.K c σ' ρ' T H → Q σ' H) → g xs σ H Q
section
variable {Y : Fam} {pos : Pos}
theorem n_nil : JN Y [] [] := by
  refine ⟨gNil, fun j => pgs_nil, fun c σ ρ T H xs es ρ' Q hl r hm q => ?_⟩
  cases es with
  | nil =>
    cases hm
    have : xs = [] := List.eq_nil_of_length_eq_zero hl
    subst this
    exact ⟨rfl, q _ _ r⟩
  | cons e es => cases hm
theorem n_cons (i : Nat) {x : Str} {ts : List Expr} {is : List Nat} {p : Pos} (g : JN Y ts is) (hi : ∀ j, (Y.X j).N[i]? = some x := by intro _; rfl) (hN : ∀ j, (Y.X j).N.Nodup := by assumption) (hx : ∀ j, Loc (Y.X j).env.scope x := by first | exact fun _ => Or.inl rfl | exact fun _ => Or.inr rfl)
    (hf : ∀ j, (Y.X j).fn x = true ∨ (Y.X j).env.scope.names.lookup x = some .local := by first | exact fun _ => .inl rfl | exact fun _ => .inr rfl) (hq : ∀ j, (assignEach (.Name x p :: ts) (Y.X j).env).map (·.2) = assign (.Name x p) (Y.X j).env :: (assignEach ts (Y.X j).env).map (·.2) := by intro _; rfl) : JN Y (.Name x p :: ts) (i :: is) := by
  obtain ⟨u, p1, s⟩ := g
  refine ⟨gCons (gName i) u, fun j => pgs_cons (pg_name (hN j) (hi j) (hx j) (hf j)) (p1 j) (hq j), fun c σ ρ T H xs es ρ' Q hl r hm q => ?_⟩
  cases es with
  | nil => cases hm
  | cons e es =>
    cases xs with
    | nil => cases hl
    | cons v xs =>
      unfold mPuts at hm
      split at hm
      · rename_i h1
        exact ⟨v, xs, rfl, s c _ _ T H xs es ρ' Q (Nat.succ.inj hl) (Rel.put r h1) hm q⟩
      · cases hm
theorem s_par2 (i j : Nat) {x y : Str} {a b : Expr} {n : ME} {px py pt pt2 : Pos} {kt k2 : Nat} (h : JE Y [a, b] n) (hN : ∀ k, (Y.X k).N.Nodup := by assumption) (hi : ∀ k, (Y.X k).N[i]? = some x := by intro _; rfl) (hj : ∀ k, (Y.X k).N[j]? = some y := by intro _; rfl) (hij : i ≠ j := by decide)
    (hx : ∀ k, (Y.X k).env.scope.names.lookup x = some .local := by intro _; rfl) (hy : ∀ k, (Y.X k).env.scope.names.lookup y = some .local := by intro _; rfl)
    (hw : ∀ k, swappedStores [.Tuple [.Name x px, .Name y py] kt pt] (.Tuple [a, b] k2 pt2) (Y.X k).env = pure (some [x, y]) := by intro _; rfl)
    (hs : ∀ k, swapsWithSole [.Tuple [.Name x px, .Name y py] kt pt] (.Tuple [a, b] k2 pt2) pos.line (Y.X k).env = pure false := by intro _; rfl) : JS Y (.Assign [.Tuple [.Name x px, .Name y py] kt pt] (.Tuple [a, b] k2 pt2) pos) (mPar [i, j] n) := by
  obtain ⟨t, p, s⟩ := h
  exact ⟨tPar i j t, fun k => ps_par (Y.calm k) (hN k) (hi k) (hj k) hij (hx k) (hy k) (p k) (hw k) (hs k), sem_par2 s⟩
theorem s_par3 (i j l : Nat) {x y z : Str} {a b c0 : Expr} {n : ME} {px py pz pt pt2 : Pos} {kt k2 : Nat} (h : JE Y [a, b, c0] n) (hN : ∀ k, (Y.X k).N.Nodup := by assumption) (hi : ∀ k, (Y.X k).N[i]? = some x := by intro _; rfl) (hj : ∀ k, (Y.X k).N[j]? = some y := by intro _; rfl) (hl : ∀ k, (Y.X k).N[l]? = some z := by intro _; rfl)
    (hij : i ≠ j := by decide) (hil : i ≠ l := by decide) (hjl : j ≠ l := by decide)
    (hx : ∀ k, (Y.X k).env.scope.names.lookup x = some .local := by intro _; rfl) (hy : ∀ k, (Y.X k).env.scope.names.lookup y = some .local := by intro _; rfl) (hz : ∀ k, (Y.X k).env.scope.names.lookup z = some .local := by intro _; rfl)
    (hw : ∀ k, swappedStores [.Tuple [.Name x px, .Name y py, .Name z pz] kt pt] (.Tuple [a, b, c0] k2 pt2) (Y.X k).env = pure (some [x, y, z]) := by intro _; rfl)
    (hs : ∀ k, swapsWithSole [.Tuple [.Name x px, .Name y py, .Name z pz] kt pt] (.Tuple [a, b, c0] k2 pt2) pos.line (Y.X k).env = pure false := by intro _; rfl) : JS Y (.Assign [.Tuple [.Name x px, .Name y py, .Name z pz] kt pt] (.Tuple [a, b, c0] k2 pt2) pos) (mPar [i, j, l] n) := by
  obtain ⟨t, p, s⟩ := h
  exact ⟨tPar3 i j l t, fun k => ps_par3 (Y.calm k) (hN k) (hi k) (hj k) (hl k) hij hil hjl (hx k) (hy k) (hz k) (p k) (hw k) (hs k), sem_par3 s⟩
theorem tmo_zip : ∀ {vs : List V} {es : List Ent}, (tmo vs es).Perm (vs.zip es)
  | [], [] => .refl _
  | [], _ :: _ => .refl _
  | _ :: _, [] => .refl _
  | v :: vs, e :: es => by
    show (tmo vs es ++ [(v, e)]).Perm ((v, e) :: vs.zip es)
    exact List.perm_append_comm.trans (List.Perm.cons _ tmo_zip)
theorem s_parT {ts es : List Expr} {n : ME} {is : List Nat} {pt pt2 : Pos} {kt k2 k : Nat} (h : JE Y es n) (g : JN Y ts is) (hk : is.length = k := by rfl) (hn : ∀ j, (assignEach ts (Y.X j).env).length = k := by intro _; rfl) (hst : ∀ j, (assignEach ts (Y.X j).env).findIdx? (·.1) = none := by intro _; rfl)
    (hs : ∀ j, swapsWithSole [.Tuple ts kt pt] (.Tuple es k2 pt2) pos.line (Y.X j).env = pure false := by intro _; rfl) (hw : ∀ j, swappedStores [.Tuple ts kt pt] (.Tuple es k2 pt2) (Y.X j).env = pure none := by intro _; rfl) (h1 : ∀ j, (assignEach [.Tuple ts kt pt] (Y.X j).env).map (·.2) = [assign (.Tuple ts kt pt) (Y.X j).env] := by intro _; rfl) (hk5 : k ≤ 100 := by decide) :
    JS Y (.Assign [.Tuple ts kt pt] (.Tuple es k2 pt2) pos) (mPar is n) := by
  obtain ⟨t, p, s⟩ := h
  obtain ⟨u, p', s'⟩ := g
  refine ⟨tAsg (tTup t) (gTup Y.K k u), fun j => ps_asg (pe_tup (p j)) (by rw [← Y.hK j]; exact pg_tup (Y.calm j) (p' j) (hn j) (hst j)) (hs j) (hw j) (h1 j), fun c σ ρ T H D r q => ?_⟩
  obtain ⟨es, ρ1, ρ2, hn, hm, q⟩ := par_inv q
  refine s c σ ρ T H _ r ?_
  rw [hn]
  intro vs H1 hl r1
  have len : ∀ {is : List Nat} {es : List Ent} {ρ ρ' : En}, mPuts is es ρ = some ρ' → es.length = is.length := by
    intro is
    induction is with
    | nil =>
      intro es ρ ρ' h
      cases es with
      | nil => rfl
      | cons => cases h
    | cons i is ih =>
      intro es ρ ρ' h
      cases es with
      | nil => cases h
      | cons e es =>
        unfold mPuts at h
        split at h
        · exact congrArg Nat.succ (ih h)
        · cases h
  have hlen : vs.length = k := by rw [hl, len hm, hk]
  refine ⟨sz5 (by omega), fun p hp => ⟨p, vs, rfl, .inl (.inl upd_same), hlen, ?_⟩⟩
  refine s' c σ ρ1 T _ vs es ρ2 _ hl ((r1.perm (List.Perm.append_right T tmo_zip)).fresh hp _) hm q
end
end Fj

set_option Elab.async false
set_option linter.all false
set_option maxRecDepth 100000
set_option maxHeartbeats 4000000
set_option autoImplicit false
/-! Rows in order; sets put in order. -/
namespace Fj
open PySem PySem.Spec PyProof.Rows L2

section
variable {α : Type}
def ins (lt : α → α → Bool) (x : α) : List α → List α
  | [] => [x]
  | y :: ys => if lt y x = true then y :: ins lt x ys else x :: y :: ys
def isort (lt : α → α → Bool) : List α → List α
  | [] => []
  | x :: xs => ins lt x (isort lt xs)
theorem ins_perm (lt : α → α → Bool) (x : α) : ∀ ys : List α, (ins lt x ys).Perm (x :: ys)
  | [] => .refl _
  | y :: ys => by
    unfold ins
    split
    · exact (List.Perm.cons y (ins_perm lt x ys)).trans (List.Perm.swap x y ys)
    · exact .refl _
theorem isort_perm (lt : α → α → Bool) : ∀ xs : List α, (isort lt xs).Perm xs
  | [] => .refl _
  | x :: xs => (ins_perm lt x _).trans (List.Perm.cons x (isort_perm lt xs))
/-- a strict order, total but for what is alike -/
structure Ord (lt : α → α → Bool) : Prop where
  asym : ∀ x y, lt x y = true → lt y x = false
  tr : ∀ x y z, lt y x = false → lt z y = false → lt z x = false
theorem ins_sorted {lt : α → α → Bool} (O : Ord lt) (x : α) : ∀ {ys : List α}, ys.Pairwise (fun a b => lt b a = false) → (ins lt x ys).Pairwise (fun a b => lt b a = false)
  | [], _ => List.pairwise_singleton _ _
  | y :: ys, h => by
    obtain ⟨h1, h2⟩ := List.pairwise_cons.mp h
    unfold ins
    split
    · rename_i hl
      refine List.pairwise_cons.mpr ⟨fun z hz => ?_, ins_sorted O x h2⟩
      rcases List.mem_cons.mp ((ins_perm lt x ys).mem_iff.mp hz) with e | e
      · rw [e]
        exact O.asym _ _ hl
      · exact h1 z e
    · rename_i hl
      have hl : lt y x = false := Bool.eq_false_iff.mpr hl
      refine List.pairwise_cons.mpr ⟨fun z hz => ?_, h⟩
      rcases List.mem_cons.mp hz with e | e
      · rw [e]
        exact hl
      · exact O.tr _ _ _ hl (h1 z e)
theorem isort_sorted {lt : α → α → Bool} (O : Ord lt) : ∀ xs : List α, (isort lt xs).Pairwise (fun a b => lt b a = false)
  | [] => .nil
  | x :: xs => ins_sorted O x (isort_sorted O xs)
theorem uniq_sorted {r : α → α → Prop} (ha : ∀ a b, r a b → r b a → a = b) : ∀ {l m : List α}, l.Perm m → l.Pairwise r → m.Pairwise r → l = m
  | [], m, p, _, _ => (List.perm_nil.mp p.symm).symm
  | a :: l, [], p, _, _ => by
    have := p.length_eq
    cases this
  | a :: l, b :: m, p, h1, h2 => by
    obtain ⟨a1, a2⟩ := List.pairwise_cons.mp h1
    obtain ⟨b1, b2⟩ := List.pairwise_cons.mp h2
    have e : a = b := by
      rcases List.mem_cons.mp (p.mem_iff.mp (List.mem_cons_self ..)) with e | e
      · exact e
      · rcases List.mem_cons.mp (p.mem_iff.mpr (List.mem_cons_self ..)) with e' | e'
        · exact e'.symm
        · exact ha _ _ (a1 b e') (b1 a e)
    subst e
    rw [uniq_sorted ha p.cons_inv a2 b2]
theorem uniq_strict {r : α → α → Prop} (hi : ∀ a, ¬ r a a) (ht : ∀ a b, r a b → ¬ r b a) : ∀ {l m : List α}, (∀ x, x ∈ l ↔ x ∈ m) → l.Pairwise r → m.Pairwise r → l = m
  | [], [], _, _, _ => rfl
  | [], b :: m, p, _, _ => (List.not_mem_nil ((p b).mpr (List.mem_cons_self ..))).elim
  | a :: l, [], p, _, _ => (List.not_mem_nil ((p a).mp (List.mem_cons_self ..))).elim
  | a :: l, b :: m, p, h1, h2 => by
    obtain ⟨a1, a2⟩ := List.pairwise_cons.mp h1
    obtain ⟨b1, b2⟩ := List.pairwise_cons.mp h2
    have e : a = b := by
      rcases List.mem_cons.mp ((p a).mp (List.mem_cons_self ..)) with e | e
      · exact e
      · rcases List.mem_cons.mp ((p b).mpr (List.mem_cons_self ..)) with e' | e'
        · exact e'.symm
        · exact absurd (b1 a e) (ht _ _ (a1 b e'))
    subst e
    have na : a ∉ l := fun z => hi a (a1 a z)
    have nb : a ∉ m := fun z => hi a (b1 a z)
    rw [uniq_strict hi ht (fun x => ⟨fun hx => ?_, fun hx => ?_⟩) a2 b2]
    · rcases List.mem_cons.mp ((p x).mp (List.mem_cons_of_mem _ hx)) with e | e
      · exact absurd (e ▸ hx) na
      · exact e
    · rcases List.mem_cons.mp ((p x).mpr (List.mem_cons_of_mem _ hx)) with e | e
      · exact absurd (e ▸ hx) nb
      · exact e
end
def dedup {α : Type} [DecidableEq α] : List α → List α
  | [] => []
  | x :: xs => if x ∈ xs then dedup xs else x :: dedup xs
theorem mem_dedup {α : Type} [DecidableEq α] : ∀ {xs : List α} {x : α}, x ∈ dedup xs ↔ x ∈ xs
  | [], x => Iff.rfl
  | y :: xs, x => by
    unfold dedup
    split
    · rename_i h
      rw [mem_dedup, List.mem_cons]
      exact ⟨.inr, fun z => z.elim (fun e => e ▸ h) id⟩
    · rw [List.mem_cons, List.mem_cons, mem_dedup]
theorem nodup_dedup {α : Type} [DecidableEq α] : ∀ xs : List α, (dedup xs).Nodup
  | [] => List.nodup_nil
  | y :: xs => by
    unfold dedup
    split
    · exact nodup_dedup xs
    · rename_i h
      exact List.nodup_cons.mpr ⟨fun z => h (mem_dedup.mp z), nodup_dedup xs⟩
/-! ### rows of numbers by their order -/
theorem ord_lex : Ord HT.lexLt := ⟨NtL.lex_asym, NtL.lex_tr⟩
theorem lex_tot : ∀ {xs ys : List Int}, HT.lexLt xs ys = false → HT.lexLt ys xs = false → xs = ys
  | [], [], _, _ => rfl
  | [], y :: ys, h, _ => by cases h
  | x :: xs, [], _, h => by cases h
  | x :: xs, y :: ys, h1, h2 => by
    rw [HT.lexLt_cons] at h1 h2
    by_cases e : x = y
    · rw [if_pos e] at h1
      rw [if_pos e.symm] at h2
      rw [e, lex_tot h1 h2]
    · rw [if_neg e] at h1
      rw [if_neg fun z => e z.symm] at h2
      have a := of_decide_eq_false h1
      have b := of_decide_eq_false h2
      omega
theorem lex_irr : ∀ xs : List Int, HT.lexLt xs xs = false
  | [] => rfl
  | x :: xs => by
    rw [HT.lexLt_cons, if_pos rfl]
    exact lex_irr xs
theorem code_lexLe {B : Int} : ∀ {x y : List Int}, x.length = y.length → TS.Bd B x → TS.Bd B y → TS.code B x ≤ TS.code B y → HT.lexLt y x = false
  | [], [], _, _, _, _ => rfl
  | [], _ :: _, h, _, _, _ => by cases h
  | _ :: _, [], h, _, _, _ => by cases h
  | d :: r, e :: q, hl, h1, h2, h => by
    rw [HT.lexLt_cons]
    by_cases he : e = d
    · rw [if_pos he]
      subst he
      refine code_lexLe (Nat.succ.inj hl) h1.tail h2.tail ?_
      exact Int.not_lt.mp fun z => absurd h (Int.not_le.mpr ((TS.code_same (Nat.succ.inj hl).symm).mpr z))
    · rw [if_neg he]
      refine decide_eq_false fun z => ?_
      exact absurd h (Int.not_le.mpr (TS.code_lt (Nat.succ.inj hl).symm h2.tail h1.tail z))
abbrev tupI (ns : List Int) : PyData := .tuple (ns.map .int)
def tupsD : List PyData → Option (List (List Int))
  | [] => some []
  | .tuple xs :: r => match intsD xs, tupsD r with
    | some ns, some nss => some (ns :: nss)
    | _, _ => none
  | _ => none
theorem tupsD_eq : ∀ {ds : List PyData} {nss : List (List Int)}, tupsD ds = some nss → ds = nss.map tupI
  | [], nss, h => by
    cases h
    rfl
  | d :: r, nss, h => by
    cases d with
    | tuple xs =>
      unfold tupsD at h
      split at h
      · rename_i ns nss' h1 h2
        cases h
        rw [List.map_cons, ← tupsD_eq h2, intsD_eq h1]
      · cases h
    | _ => cases h
theorem tupsD_map : ∀ nss : List (List Int), tupsD (nss.map tupI) = some nss
  | [] => rfl
  | ns :: nss => by
    rw [List.map_cons]
    unfold tupsD
    rw [intsD_map, tupsD_map nss]
/-- rows of one length, of numbers that are not below 0, fewer than sixty-four -/
def tupsOk (nss : List (List Int)) : Bool := decide (nss.length < 64) && nss.all fun ns => ns.all (fun i => decide (0 ≤ i)) && match nss with
  | m :: _ => ns.length == m.length && decide (1 ≤ m.length)
  | [] => true
def topI (nss : List (List Int)) : Int := nss.foldr (fun ns b => ns.foldr (fun i b => max (i + 1) b) b) 1
theorem top_row : ∀ (ns : List Int) (b : Int), b ≤ ns.foldr (fun i b => max (i + 1) b) b ∧ ∀ i ∈ ns, i < ns.foldr (fun i b => max (i + 1) b) b
  | [], b => ⟨Int.le_refl _, fun i z => (List.not_mem_nil z).elim⟩
  | n :: ns, b => by
    obtain ⟨h1, h2⟩ := top_row ns b
    rw [List.foldr_cons]
    refine ⟨by omega, fun i hi => ?_⟩
    rcases List.mem_cons.mp hi with e | e
    · omega
    · have := h2 i e
      omega
theorem top_ok : ∀ (nss : List (List Int)), ∀ ns ∈ nss, ∀ i ∈ ns, i < topI nss
  | [], ns, h => (List.not_mem_nil h).elim
  | m :: nss, ns, h => fun i hi => by
    unfold topI
    rw [List.foldr_cons]
    obtain ⟨h1, h2⟩ := top_row m (topI nss)
    rcases List.mem_cons.mp h with e | e
    · subst e
      exact h2 i hi
    · have := top_ok nss ns e i hi
      exact Int.lt_of_lt_of_le this h1
theorem tups_facts {nss : List (List Int)} (h : tupsOk nss = true) : nss.length < 64 ∧ ∃ d, 1 ≤ d ∧ ∀ ns ∈ nss, ns.length = d ∧ TS.Bd (topI nss) ns := by
  unfold tupsOk at h
  simp only [Bool.and_eq_true, decide_eq_true_eq, List.all_eq_true] at h
  obtain ⟨h1, h2⟩ := h
  refine ⟨h1, ?_⟩
  cases nss with
  | nil => exact ⟨1, Nat.le_refl 1, fun ns z => (List.not_mem_nil z).elim⟩
  | cons m nss =>
    have hm := (h2 m (List.mem_cons_self ..)).2
    simp only [Bool.and_eq_true, beq_iff_eq, decide_eq_true_eq] at hm
    refine ⟨m.length, hm.2, fun ns hns => ?_⟩
    obtain ⟨a, b⟩ := h2 ns hns
    simp only [Bool.and_eq_true, beq_iff_eq, decide_eq_true_eq] at b
    exact ⟨b.1, fun i hi => ⟨a i hi, top_ok _ ns hns i hi⟩⟩
section
variable {K : PySem.W.Frag} {F : Hp}
theorem Rps.perm {vs vs' : List V} (h : vs'.Perm vs) : ∀ {ds : List PyData}, Rps K F vs ds → ∃ ds', Rps K F vs' ds' ∧ ds'.Perm ds := by
  induction h with
  | nil => exact fun r => ⟨_, r, .refl _⟩
  | cons x _ ih =>
    intro ds r
    cases r with
    | cons r t =>
      obtain ⟨ds', a, b⟩ := ih t
      exact ⟨_, .cons r a, b.cons _⟩
  | swap x y l =>
    intro ds r
    cases r with
    | cons r t =>
      cases t with
      | cons r' t => exact ⟨_, .cons r' (.cons r t), List.Perm.swap ..⟩
  | trans _ _ ih1 ih2 =>
    intro ds r
    obtain ⟨d1, a1, b1⟩ := ih2 r
    obtain ⟨d2, a2, b2⟩ := ih1 a1
    exact ⟨d2, a2, b2.trans b1⟩
theorem Rp.tupI {v : V} {ns : List Int} (h : Rp K F v (Fj.tupI ns)) : ∃ t, v = .ref t ∧ SqT K F t (ns.map V.int) := by
  cases h with
  | tup h r =>
    rw [r.nums] at h
    exact ⟨_, rfl, h⟩
/-- a perm of rows is rows -/
theorem perm_rows {nss : List (List Int)} {ds : List PyData} (h : ds.Perm (nss.map Fj.tupI)) : ∃ mss : List (List Int), ds = mss.map Fj.tupI ∧ mss.Perm nss := by
  generalize he : nss.map Fj.tupI = es at h
  induction h generalizing nss with
  | nil =>
    rw [List.map_eq_nil_iff] at he
    subst he
    exact ⟨[], rfl, .refl _⟩
  | cons x _ ih =>
    cases nss with
    | nil => cases he
    | cons n nss =>
      cases he
      obtain ⟨m, e, p⟩ := ih rfl
      exact ⟨n :: m, by rw [e]; rfl, p.cons n⟩
  | swap x y l =>
    match nss, he with
    | n :: k :: nss, he =>
      cases he
      exact ⟨k :: n :: nss, rfl, List.Perm.swap ..⟩
  | trans _ _ ih1 ih2 =>
    obtain ⟨m1, e1, p1⟩ := ih2 he
    obtain ⟨m2, e2, p2⟩ := ih1 e1.symm
    exact ⟨m2, e2, p2.trans p1⟩
theorem rps_pair {vs : List V} {nss : List (List Int)} (r : Rps K F vs (nss.map Fj.tupI)) {R : V → V → Prop} {S : List Int → List Int → Prop} (h : vs.Pairwise R) (hs : ∀ x y n m, Rp K F x (Fj.tupI n) → Rp K F y (Fj.tupI m) → n ∈ nss → m ∈ nss → R x y → S n m) : nss.Pairwise S := by
  induction nss generalizing vs with
  | nil => exact .nil
  | cons n nss ih =>
    cases r with
    | @cons v vs _ _ r t =>
      obtain ⟨h1, h2⟩ := List.pairwise_cons.mp h
      refine List.pairwise_cons.mpr ⟨fun m hm => ?_, ih t h2 fun x y a b ra rb ha hb z => hs x y a b ra rb (List.mem_cons_of_mem _ ha) (List.mem_cons_of_mem _ hb) z⟩
      obtain ⟨k, hk, e⟩ := List.getElem_of_mem hm
      have hd : (nss.map Fj.tupI)[k]? = some (Fj.tupI m) := by
        rw [List.getElem?_map, List.getElem?_eq_getElem hk, e]
        rfl
      obtain ⟨x, hx, rx⟩ := t.get hd
      exact hs v x n m r rx (List.mem_cons_self ..) (List.mem_cons_of_mem _ hm) (h1 x (List.mem_of_getElem? hx))
end
/-- sorted(pairs), any number of them -/
def gSortP : List PyData → Option Ent
  | [.list ds] => match tupsD ds with
    | some nss => if (nss.all fun ns => ns.length == 2) = true then some (.own true (.lst ((isort HT.lexLt nss).map tupI))) else none
    | none => none
  | _ => none
def rSortQ (K : PySem.W.Frag) : List V → Hp → VK → Prop := fun vs H Q => ∃ (a : Addr) (xs : List V), vs = [V.ref a] ∧ SqL K H a xs ∧ (∀ x ∈ xs, ∃ i j, TupI K H x [i, j]) ∧
  ∀ (ys : List V) (p : Addr), ys.Perm xs → ys.Pairwise (fun x y => ∀ n m, TupI K H x n → TupI K H y m → HT.lexLt m n = false) → H p = none → Q (.ref p) (upd H p (.lst ys))
def kvP (h : Heap) (v : Value) : Int × Int := match TS.intsOf h v with
  | [i, j] => (i, j)
  | _ => (0, 0)
theorem kvP_of {h : Heap} {v : Value} {i j : Int} (e : TS.intsOf h v = [i, j]) : kvP h v = (i, j) := by
  unfold kvP
  rw [e]
theorem lexB_lt {i j a b : Int} : SrtO.lexB (i, j) (a, b) = HT.lexLt [i, j] [a, b] := by
  rw [Bool.eq_iff_iff, SrtO.lexB_iff]
  simp only [HT.lexLt]
  repeat' split
  all_goals simp only [decide_eq_true_eq, Bool.false_eq_true, iff_false]
  all_goals omega
theorem cr_sortQ {X : Cx} : CallR X (.builtin "sorted") (rSortQ X.K) := by
  intro pins s σ H vs us Q I r h
  obtain ⟨a, xs, rfl, hs, hx, q⟩ := h
  obtain ⟨its, rv, hl, hz⟩ := I.list hs
  rw [Vals.ref1 r]
  obtain ⟨e1, e2⟩ := bkV_refs rv fun x m => by
    obtain ⟨i, j, t, e, _⟩ := hx x m
    exact ⟨t, e⟩
  refine SrtO.sorted_pairsO (k := kvP s.heap) hl.isList (by rw [← rv.length]; exact hz) (fun v hv => ?_) fun h' d out h1 h2 kp hd hn => ?_
  · obtain ⟨t, rfl⟩ := e2 v hv
    have hm : V.ref t ∈ xs := by
      rw [e1]
      exact List.mem_map.mpr ⟨_, hv, rfl⟩
    obtain ⟨i, j, t', e, ht⟩ := hx _ hm
    cases e
    rw [kvP_of (tupI_raw I ht).ints]
    obtain ⟨its2, rv2, ⟨o, ho, hc, n, hd⟩, _⟩ := I.tuple ht
    obtain ⟨u1, u2, rfl, ri, rj⟩ := vals2 rv2
    obtain ⟨t1, rfl⟩ := ri
    obtain ⟨t2, rfl⟩ := rj
    exact ⟨t, o, t1, t2, n, rfl, ho, hc, hd⟩
  · have h3 : ∀ u ∈ out, ∃ a, u = Value.ref a := fun u hu => e2 u (h2.perm.mem_iff.mp hu)
    obtain ⟨n, hn⟩ := hn
    have hp : (out.map bkV).Perm xs := by
      rw [e1]
      exact h2.perm.map bkV
    have hlen : (out.map bkV).length ≤ sizeLine := by
      rw [hp.length_eq]
      exact hz
    refine ⟨.ref d, upd H d (.lst (out.map bkV)), I.laid (t' := s.toks) kp hd ⟨hlen, out, n, bkV_vals h3, hn⟩, rfl, q _ d hp ?_ (I.hok.fresh hd)⟩
    rw [List.pairwise_map]
    refine List.Pairwise.imp_of_mem (fun {u v} hu hv huv n m hn hm => ?_) h1
    obtain ⟨t, et, ht⟩ := hn
    obtain ⟨t', et', ht'⟩ := hm
    have eu := bkV_ref et
    have ev := bkV_ref et'
    subst eu ev
    have hmu : V.ref t ∈ xs := hp.mem_iff.mp (List.mem_map.mpr ⟨_, hu, et⟩)
    have hmv : V.ref t' ∈ xs := hp.mem_iff.mp (List.mem_map.mpr ⟨_, hv, et'⟩)
    obtain ⟨i, j, s1, e, hs1⟩ := hx _ hmu
    cases e
    obtain ⟨i', j', s2, e, hs2⟩ := hx _ hmv
    cases e
    have k1 := (tupI_raw I hs1).ints
    have k2 := (tupI_raw I hs2).ints
    have k3 := (tupI_raw I ht).ints
    have k4 := (tupI_raw I ht').ints
    have en : n = [i, j] := k3.symm.trans k1
    have em : m = [i', j'] := k4.symm.trans k2
    have huv : SrtO.lexB (kvP s.heap (.ref t')) (kvP s.heap (.ref t)) = false := huv
    rw [kvP_of k1, kvP_of k2] at huv
    rw [en, em, ← lexB_lt]
    exact huv
/-- sorted(rows) -/
def gSortT : List PyData → Option Ent
  | [.list ds] => match tupsD ds with
    | some nss => if tupsOk nss = true then some (.own true (.lst ((isort HT.lexLt nss).map tupI))) else none
    | none => none
  | _ => none
/-- sorted(numbers) -/
def gSortI : List PyData → Option Ent
  | [.list ds] => (intsD ds).map fun ns => .own true (.lst ((isort (fun i j => decide (i < j)) ns).map .int))
  | _ => none
def gSorted (ds : List PyData) : Option Ent := (gSortI ds).or ((gSortT ds).or (gSortP ds))
theorem CallJ.or {Y : Fam} {f : Value} {g g' : List PyData → Option Ent} (h : CallJ Y f g) (h' : CallJ Y f g') : CallJ Y f (fun ds => (g ds).or (g' ds)) := by
  obtain ⟨r, o, s⟩ := h
  obtain ⟨r', o', s'⟩ := h'
  refine ⟨_, fun j => CallR.or (o j) (o' j), fun c σ ρ T H vs ds z Q hl re e q => ?_⟩
  cases hg : g ds with
  | some w =>
    simp only [hg, Option.or] at e
    cases e
    exact .inl (s c σ ρ T H vs ds _ Q hl re hg q)
  | none =>
    simp only [hg, Option.or] at e
    exact .inr (s' c σ ρ T H vs ds z Q hl re e q)
section
variable {Y : Fam}
theorem ord_int : Ord (fun i j : Int => decide (i < j)) := ⟨fun x y h => decide_eq_false (by have := of_decide_eq_true h; omega), fun x y z h1 h2 => decide_eq_false (by have := of_decide_eq_false h1; have := of_decide_eq_false h2; omega)⟩
theorem c_sortI : CallJ Y (.builtin "sorted") gSortI := by
  refine ⟨rSortedI Y.K, fun j => by rw [← Y.hK j]; exact cr_sortedI, fun c σ ρ T H vs ds z Q hl r e q => ?_⟩
  unfold gSortI at e
  split at e
  · obtain ⟨bs, hb, rfl⟩ := Option.map_eq_some_iff.mp e
    have := intsD_eq hb
    subst this
    obtain ⟨v, rfl⟩ := len1 hl
    obtain ⟨F, fp, f⟩ := r
    have f : RelF Y.K c σ ρ ((v, .val (.list _)) :: T) H F fp := f
    obtain ⟨p, us, rfl, h1, h2⟩ := f.top.lstAt
    have := h2.nums
    subst this
    refine ⟨p, bs, rfl, .inl (.inl (f.fh _ _ h1)), fun ns' p' pm pw hp => ?_⟩
    have e : ns' = isort (fun i j => decide (i < j)) bs := by
      refine uniq_sorted (r := fun a b : Int => a ≤ b) (fun a b h1 h2 => Int.le_antisymm h1 h2) (pm.trans (isort_perm _ bs).symm) pw ?_
      exact (isort_sorted ord_int bs).imp fun {a b} h => by
        have := of_decide_eq_false h
        omega
    rw [e]
    exact q _ _ (f.popV.lstNew hp rps_ints)
  · cases e
theorem c_sortT : CallJ Y (.builtin "sorted") gSortT := by
  refine ⟨fun vs H Q => ∃ (d : Nat) (B : Int), 1 ≤ d ∧ rSortU Y.K d B vs H Q, fun j => ?_, fun c σ ρ T H vs ds z Q hl r e q => ?_⟩
  · intro pins s σ H xs us Q I rs ⟨d, B, hd, h⟩
    have := cr_sortT (X := Y.X j) (B := B) hd
    rw [Y.hK j] at this
    exact this pins s σ H xs us Q I rs h
  · unfold gSortT at e
    split at e
    · split at e
      · rename_i nss hn
        split at e
        · rename_i hok
          cases e
          have := tupsD_eq hn
          subst this
          obtain ⟨v, rfl⟩ := len1 hl
          obtain ⟨F, fp, f⟩ := r
          have f : RelF Y.K c σ ρ ((v, .val (.list (nss.map tupI))) :: T) H F fp := f
          obtain ⟨p, us, rfl, h1, h2⟩ := f.top.lstAt
          obtain ⟨hlen, d, hd, hrow⟩ := tups_facts hok
          have hul : us.length = nss.length := by rw [h2.length, List.length_map]
          refine ⟨d, topI nss, hd, p, us, rfl, .inl (.inl (f.fh _ _ h1)), by omega, fun x hx => ?_, fun ys p' pm pw hp => ?_⟩
          · obtain ⟨k, hk, e⟩ := List.getElem_of_mem hx
            obtain ⟨ns, hns⟩ : ∃ ns, nss[k]? = some ns := ⟨nss[k]'(by omega), List.getElem?_eq_getElem _⟩
            have hd' : (nss.map tupI)[k]? = some (tupI ns) := by rw [List.getElem?_map, hns]; rfl
            obtain ⟨x', hx', rx⟩ := h2.get hd'
            rw [List.getElem?_eq_getElem hk, e] at hx'
            cases hx'
            obtain ⟨t, rfl, ht⟩ := rx.tupI
            have hm := List.mem_of_getElem? hns
            exact ⟨ns, ⟨t, rfl, same_tup f.fh ht⟩, (hrow ns hm).1, (hrow ns hm).2⟩
          · obtain ⟨ds', r', pm'⟩ := Rps.perm pm h2
            obtain ⟨mss, rfl, pm2⟩ := perm_rows pm'
            have mem : ∀ m ∈ mss, m.length = d ∧ TS.Bd (topI nss) m := fun m hm => hrow m (pm2.mem_iff.mp hm)
            have srt : mss.Pairwise (fun a b => HT.lexLt b a = false) := rps_pair r' pw fun x y n m rx ry hn hm h => by
              obtain ⟨t, rfl, ht⟩ := rx.tupI
              obtain ⟨t', rfl, ht'⟩ := ry.tupI
              exact code_lexLe ((mem n hn).1.trans (mem m hm).1.symm) (mem n hn).2 (mem m hm).2 (h n m ⟨t, rfl, same_tup f.fh ht⟩ ⟨t', rfl, same_tup f.fh ht'⟩)
            have e : mss = isort HT.lexLt nss := uniq_sorted (fun a b h1 h2 => lex_tot h2 h1) (pm2.trans (isort_perm _ nss).symm) srt (isort_sorted ord_lex nss)
            rw [e] at r'
            exact q _ _ (f.popV.lstNew hp r')
        · cases e
      · cases e
    · cases e
theorem c_sortP : CallJ Y (.builtin "sorted") gSortP := by
  refine ⟨rSortQ Y.K, fun j => by rw [← Y.hK j]; exact cr_sortQ, fun c σ ρ T H vs ds z Q hl r e q => ?_⟩
  unfold gSortP at e
  split at e
  · split at e
    · rename_i nss hn
      split at e
      · rename_i hok
        cases e
        have := tupsD_eq hn
        subst this
        obtain ⟨v, rfl⟩ := len1 hl
        obtain ⟨F, fp, f⟩ := r
        have f : RelF Y.K c σ ρ ((v, .val (.list (nss.map tupI))) :: T) H F fp := f
        obtain ⟨p, us, rfl, h1, h2⟩ := f.top.lstAt
        have hul : us.length = nss.length := by rw [h2.length, List.length_map]
        refine ⟨p, us, rfl, .inl (.inl (f.fh _ _ h1)), fun x hx => ?_, fun ys p' pm pw hp => ?_⟩
        · obtain ⟨k, hk, e⟩ := List.getElem_of_mem hx
          obtain ⟨ns, hns⟩ : ∃ ns, nss[k]? = some ns := ⟨nss[k]'(by omega), List.getElem?_eq_getElem _⟩
          have hd' : (nss.map tupI)[k]? = some (tupI ns) := by rw [List.getElem?_map, hns]; rfl
          obtain ⟨x', hx', rx⟩ := h2.get hd'
          rw [List.getElem?_eq_getElem hk, e] at hx'
          cases hx'
          obtain ⟨t, rfl, ht⟩ := rx.tupI
          have hm := List.mem_of_getElem? hns
          have h2l : ns.length = 2 := by
            have := List.all_eq_true.mp hok ns hm
            exact eq_of_beq this
          match ns, h2l, ht with
          | [i, j], _, ht => exact ⟨i, j, t, rfl, same_tup f.fh ht⟩
        · obtain ⟨ds', r', pm'⟩ := Rps.perm pm h2
          obtain ⟨mss, rfl, pm2⟩ := perm_rows pm'
          have srt : mss.Pairwise (fun a b => HT.lexLt b a = false) := rps_pair r' pw fun x y n m rx ry hn hm h => by
            obtain ⟨t, rfl, ht⟩ := rx.tupI
            obtain ⟨t', rfl, ht'⟩ := ry.tupI
            exact h n m ⟨t, rfl, same_tup f.fh ht⟩ ⟨t', rfl, same_tup f.fh ht'⟩
          have e : mss = isort HT.lexLt nss := uniq_sorted (fun a b h1 h2 => lex_tot h2 h1) (pm2.trans (isort_perm _ nss).symm) srt (isort_sorted ord_lex nss)
          rw [e] at r'
          exact q _ _ (f.popV.lstNew hp r')
      · cases e
    · cases e
  · cases e
theorem rps_ks {K : PySem.W.Frag} {F : Hp} : ∀ {us : List V} {nss : List (List Int)}, Rps K F us (nss.map tupI) → ∃ ks : List (Addr × List Int), us = ks.map (fun p => V.ref p.1) ∧ nss = ks.map (·.2)
  | _, [], h => by
    cases h
    exact ⟨[], rfl, rfl⟩
  | _, n :: nss, h => by
    cases h with
    | cons r t =>
      obtain ⟨ks, e1, e2⟩ := rps_ks t
      obtain ⟨a, rfl, _⟩ := r.tupI
      exact ⟨(a, n) :: ks, by rw [e1]; rfl, by rw [e2]; rfl⟩
theorem rps_at {K : PySem.W.Frag} {F : Hp} : ∀ {ks : List (Addr × List Int)}, Rps K F (ks.map fun p => V.ref p.1) (ks.map fun p => tupI p.2) → ∀ p ∈ ks, Rp K F (.ref p.1) (tupI p.2)
  | [], _, p, hp => (List.not_mem_nil hp).elim
  | k :: ks, h, p, hp => by
    cases h with
    | cons r t =>
      rcases List.mem_cons.mp hp with e | e
      · rw [e]
        exact r
      · exact rps_at t p e
theorem rps_of {K : PySem.W.Frag} {F : Hp} : ∀ {L : List (Addr × List Int)}, (∀ p ∈ L, Rp K F (.ref p.1) (tupI p.2)) → Rps K F (L.map fun p => V.ref p.1) (L.map fun p => tupI p.2)
  | [], _ => .nil
  | k :: L, h => .cons (h k (List.mem_cons_self ..)) (rps_of fun p hp => h p (List.mem_cons_of_mem _ hp))
/-- sorted(set(rows)) -/
def mSS (m : MV) : MO := fun ρ => match m ρ with
  | some (.list ds, ρ) => match tupsD ds with
    | some nss => if tupsOk nss = true then some (.own true (.lst ((isort HT.lexLt (dedup nss)).map tupI)), ρ) else none
    | none => none
  | _ => none
theorem j_sortSet {e : Expr} {m : MV} {p p2 pos pos2 : Pos} (h : JV Y e m) (hm : Y.mg "sorted" = none) (hm2 : Y.mg "set" = none) (hg : ∀ j, Gl (Y.X j) "sorted" := by intro _; rfl) (hg2 : ∀ j, Gl (Y.X j) "set" := by intro _; rfl)
    (hs : ∀ j, starEach [e] (Y.X j).env = (false, eval e (Y.X j).env) :: starEach [] (Y.X j).env := by intro _; rfl) (hpl : ∀ j, (backTo pos2 (starEach [] (Y.X j).env)).any (·.1) = false := by intro _; rfl)
    (hs1 : ∀ j, starEach [.Call (.Name "set" p2) [e] [] pos2] (Y.X j).env = (false, eval (.Call (.Name "set" p2) [e] [] pos2) (Y.X j).env) :: starEach [] (Y.X j).env := by intro _; rfl) (hpl1 : ∀ j, (backTo pos (starEach [] (Y.X j).env)).any (·.1) = false := by intro _; rfl) :
    JO Y (.Call (.Name "sorted" p) [.Call (.Name "set" p2) [e] [] pos2] [] pos) (mSS m) := by
  obtain ⟨te, pe, se⟩ := h
  refine ⟨tCB (rSortedT Y.K Y.P Y.w) (tCons (tCB (rSetOfT Y.K Y.P Y.w) (tCons te tNil)) tNil), fun j => ?_, fun c σ ρ T H Q r q => ?_⟩
  · rw [← Y.hK j, ← Y.hP j, ← Y.hw j]
    exact pe_callB (cr_sortedT (Y.calm j)) (hg j) (by rw [Y.hmg j]; exact hm) (by decide +kernel) (pa_cons (pe_callTy (cr_setOfT (Y.calm j) (Y.room j).units) (hg2 j) (by rw [Y.hmg j]; exact hm2) (by decide +kernel) (pa_cons (pe j) pa_nil (hs j)) (by decide) (by decide) (hs j) (hpl j)) pa_nil (hs1 j)) (by decide) (by decide) (hs1 j) (hpl1 j)
  · refine se c σ ρ T H _ r ?_
    unfold mSS at q
    cases hm : m ρ with
    | none =>
      rw [hm] at q
      exact q
    | some z =>
      obtain ⟨d, ρ1⟩ := z
      rw [hm] at q
      cases d with
      | list ds =>
        simp only at q
        split at q
        · rename_i nss hn
          split at q
          · rename_i hok
            have := tupsD_eq hn
            subst this
            intro v H1 r1
            obtain ⟨hlen, d, hd, hrow⟩ := tups_facts hok
            obtain ⟨F, fp, f⟩ := id r1
            obtain ⟨l, us, rfl, h1, h2⟩ := f.top.lstAt
            obtain ⟨ks, rfl, rfl⟩ := rps_ks h2
            rw [List.map_map] at h2
            rw [List.length_map] at hlen
            refine ⟨l, ks, rfl, .inl (.inl (f.fh _ _ h1)), fun p hp => ?_, hlen, fun a L ha hsub hall => ?_⟩
            · obtain ⟨t, e, ht⟩ := (rps_at h2 p hp).tupI
              cases e
              exact same_tup f.fh ht
            · have r2 := r1.fresh ha (SetTO Y.P Y.w a L)
              obtain ⟨F', fp', f'⟩ := id r2
              obtain ⟨l', us', e, h1', h2'⟩ := f'.top.lstAt
              cases e
              have eus : us' = ks.map fun p => V.ref p.1 := by
                have z1 := f'.fh _ _ h1'
                rw [upd_ne (ne_of_none (f.fh _ _ h1) ha), f.fh _ _ h1] at z1
                cases z1
                rfl
              subst eus
              rw [List.map_map] at h2'
              have rp := rps_at h2'
              have rowL : ∀ p ∈ L, p.2.length = d ∧ TS.Bd (topI (ks.map (·.2))) p.2 := fun p hp => hrow p.2 (List.mem_map.mpr ⟨p, hsub p hp, rfl⟩)
              refine ⟨a, L, d, topI (ks.map (·.2)), rfl, upd_same, fun p hp => ?_, hd, rowL, fun L' p' pm nd _ pw hp' => ?_⟩
              · obtain ⟨t, e, ht⟩ := (rp p (hsub p hp)).tupI
                cases e
                exact same_tup f'.fh ht
              · have memL : ∀ p ∈ L', p ∈ L := fun p hp => pm.mem_iff.mp hp
                have e : L'.map (·.2) = isort HT.lexLt (dedup (ks.map (·.2))) := by
                  have irr : ∀ a : List Int, ¬ HT.lexLt a a = true := fun a z => by rw [lex_irr] at z; cases z
                  have asy : ∀ a b : List Int, HT.lexLt a b = true → ¬ HT.lexLt b a = true := fun a b h z => by rw [NtL.lex_asym a b h] at z; cases z
                  refine uniq_strict (r := fun a b : List Int => HT.lexLt a b = true) irr asy (fun x => ?_) ?_ ?_
                  · rw [(isort_perm HT.lexLt _).mem_iff, mem_dedup, (pm.map (·.2)).mem_iff]
                    constructor
                    · intro hx
                      obtain ⟨p, hp, e⟩ := List.mem_map.mp hx
                      exact List.mem_map.mpr ⟨p, hsub p hp, e⟩
                    · intro hx
                      obtain ⟨p, hp, e⟩ := List.mem_map.mp hx
                      rw [← e]
                      exact hall p hp
                  · have : (L'.map (·.2)).Pairwise (fun a b => HT.lexLt b a = false) := List.pairwise_map.mpr (pw.imp_of_mem fun {a b} ha hb h => code_lexLe ((rowL a (memL a ha)).1.trans (rowL b (memL b hb)).1.symm) (rowL a (memL a ha)).2 (rowL b (memL b hb)).2 h)
                    exact (this.and nd).imp fun {a b} ⟨h1, h2⟩ => Bool.of_not_eq_false fun z => h2 (lex_tot z h1)
                  · have nd2 : (isort HT.lexLt (dedup (ks.map (·.2)))).Nodup := (isort_perm _ _).nodup_iff.mpr (nodup_dedup _)
                    exact ((isort_sorted ord_lex _).and nd2).imp fun {a b} ⟨h1, h2⟩ => Bool.of_not_eq_false fun z => h2 (lex_tot z h1)
                have rL := rps_of (L := L') fun p hp => rp p (hsub p (memL p hp))
                have eL : (L'.map fun p => tupI p.2) = (isort HT.lexLt (dedup (ks.map (·.2)))).map tupI := by
                  rw [← e, List.map_map]
                  rfl
                rw [eL] at rL
                exact q _ _ (f'.popV.lstNew hp' rL)
          · exact q.elim
        · exact q.elim
      | _ => exact q.elim
theorem c_sorted : CallJ Y (.builtin "sorted") gSorted := c_sortI.or (c_sortT.or c_sortP)
end
end Fj

set_option Elab.async false
set_option linter.all false
set_option maxRecDepth 100000
set_option maxHeartbeats 4000000
set_option autoImplicit false
/-! A head that tells of tuples bound at the top, too. -/
namespace Fj
open PySem PySem.Spec PyProof.Rows L2

mutual
def mtB (K : PySem.W.Frag) : Value → PyData → Bool
  | u, .none => (match u with
    | .none => true
    | _ => false)
  | u, .bool b => (match u with
    | .bool c => b == c
    | _ => false)
  | u, .int i => (match u with
    | .int j _ => decide (i = j)
    | _ => false)
  | u, .str x => (match u with
    | .str y _ => decide (x = y)
    | _ => false)
  | u, .tuple ds => (match u with
    | .ref a => (match K.lookup a with
      | some ⟨.type c, _, .seq its _, _⟩ => decide (c = "tuple") && (decide (its.size ≤ sizeLine) && mtAll K its.toList ds)
      | _ => false)
    | _ => false)
  | _, .list _ => false
  | _, .dict _ => false
def mtAll (K : PySem.W.Frag) : List Value → List PyData → Bool
  | us, [] => us.isEmpty
  | us, d :: ds => (match us with
    | u :: us => mtB K u d && mtAll K us ds
    | [] => false)
end
mutual
theorem mtB_ok {K : PySem.W.Frag} : ∀ {d : PyData} {u : Value}, mtB K u d = true → ∃ v, RelV v u ∧ ∀ F, Rp K F v d
  | .none, u, h => by
    unfold mtB at h
    split at h
    · exact ⟨.non, rfl, fun _ => .non⟩
    · cases h
  | .bool b, u, h => by
    unfold mtB at h
    split at h
    · have := eq_of_beq h
      subst this
      exact ⟨.bl b, rfl, fun _ => .bl b⟩
    · cases h
  | .int i, u, h => by
    unfold mtB at h
    split at h
    · have := of_decide_eq_true h
      subst this
      exact ⟨.int i, ⟨_, rfl⟩, fun _ => .int i⟩
    · cases h
  | .str x, u, h => by
    unfold mtB at h
    split at h
    · have := of_decide_eq_true h
      subst this
      exact ⟨.str x, ⟨_, rfl⟩, fun _ => .str x⟩
    · cases h
  | .tuple ds, u, h => by
    unfold mtB at h
    split at h
    · rename_i a
      split at h
      · rename_i c od its n osl hq
        obtain ⟨h1, h2⟩ := Bool.and_eq_true_iff.mp h
        obtain ⟨h3, h4⟩ := Bool.and_eq_true_iff.mp h2
        obtain ⟨xs, hv, hr⟩ := mtAll_ok h4
        exact ⟨.ref a, rfl, fun F => .tup (.inr ⟨_, its, n, hq, congrArg Value.type (of_decide_eq_true h1), rfl, of_decide_eq_true h3, hv⟩) (hr F)⟩
      · cases h
    · cases h
  | .list ds, u, h => by
    unfold mtB at h
    cases h
  | .dict ds, u, h => by
    unfold mtB at h
    cases h
theorem mtAll_ok {K : PySem.W.Frag} : ∀ {ds : List PyData} {us : List Value}, mtAll K us ds = true → ∃ xs, Vals xs us ∧ ∀ F, Rps K F xs ds
  | [], us, h => by
    unfold mtAll at h
    have : us = [] := List.isEmpty_iff.mp h
    subst this
    exact ⟨[], .nil, fun _ => .nil⟩
  | d :: ds, us, h => by
    unfold mtAll at h
    split at h
    · obtain ⟨h1, h2⟩ := Bool.and_eq_true_iff.mp h
      obtain ⟨v, a, b⟩ := mtB_ok h1
      obtain ⟨xs, a2, b2⟩ := mtAll_ok h2
      exact ⟨v :: xs, .cons a a2, fun F => .cons (b F) (b2 F)⟩
    · cases h
end
def cstB (K : PySem.W.Frag) (p : Str × PyData) : Bool := match PySem.W.nsIn K mainGlobals p.1 with
  | some (some u) => mtB K u p.2
  | _ => false
theorem cst_ok {K : PySem.W.Frag} {h : Heap} {mg : Str → Option Value} (X : K.In h) (G : h.Ns mainGlobals mg) {p : Str × PyData} (c : cstB K p = true) : ∃ v u, mg p.1 = some u ∧ RelV v u ∧ ∀ F, Rp K F v p.2 := by
  unfold cstB at c
  split at c
  · rename_i u hu
    obtain ⟨v, a, b⟩ := mtB_ok c
    exact ⟨v, u, PySem.W.mg_of X G hu, a, b⟩
  · cases c
abbrev AlC : Type := He.AlD × Bool
def obsC (fa : List He.Fa) (fn : List He.DefD) (cs : List (Str × PyData)) (K : PySem.W.Frag) : AlC := (He.obsD fa fn K, cs.all (cstB K))
def SaysC (fa : List He.Fa) (fn : List He.DefD) (cs : List (Str × PyData)) (K : PySem.W.Frag) : Prop := obsC fa fn cs K = (He.valD fn, true)
theorem SaysC.d {fa : List He.Fa} {fn : List He.DefD} {cs : List (Str × PyData)} {K : PySem.W.Frag} (c : SaysC fa fn cs K) : He.SaysD fa fn K := congrArg Prod.fst c
theorem SaysC.cst {fa : List He.Fa} {fn : List He.DefD} {cs : List (Str × PyData)} {K : PySem.W.Frag} (c : SaysC fa fn cs K) (i : Nat) {p : Str × PyData} (h : cs[i]? = some p := by rfl) : cstB K p = true := by
  have z : cs.all (cstB K) = true := congrArg Prod.snd c
  exact List.all_eq_true.mp z p (List.mem_of_getElem? h)
def obsCG (n : Nat) (fa : List He.Fa) (fn : List He.DefD) (cs : List (Str × PyData)) (g : Addr → Option Obj) : AlC := obsC fa fn cs (He.frG g (He.asD g n))
def hookC (n : Nat) (fa : List He.Fa) (fn : List He.DefD) (cs : List (Str × PyData)) : PySem.W.Hook where
  α := AlC
  obs := fun s => obsCG n fa fn cs s.heap.get?
  val := fun _ => (He.valD fn, true)
  says := fun _ h => ∃ K : PySem.W.Frag, K.In h ∧ SaysC fa fn cs K
  of := fun _ _ e => ⟨_, He.frG_in, e⟩
  keeps := fun _ _ _ ⟨K, hK, c⟩ k => ⟨K, PySem.W.Frag.In.keeps hK k, c⟩
theorem obsCG_eq {n : Nat} {fa : List He.Fa} {fn : List He.DefD} {cs : List (Str × PyData)} {g : Addr → Option Obj} {s : Shared} (h : ∀ a, g a = s.heap.get? a) : obsCG n fa fn cs g = (hookC n fa fn cs).obs s := by
  have e : g = s.heap.get? := funext h
  rw [e] <;> rfl
theorem j_gtup {Y : Fam} {x : Str} {d : PyData} {pos : Pos} (h : ∃ v u, Y.mg x = some u ∧ RelV v u ∧ ∀ F, Rp Y.K F v d) (hg : ∀ j, Gl (Y.X j) x := by intro _; rfl) (hd : (x == ("__debug__" : Str)) = false := by decide) : JV Y (.Name x pos) (mC d) :=
  let ⟨_, _, a, b, c⟩ := h
  j_glob a b c hg hd
/-- isinstance(e, (S, T)) -/
def mIsi2 (S T : String) (m : MV) : MV := fun ρ => match m ρ with
  | none => none
  | some (d, ρ) => match kitB (tyN d) S with
    | some true => some (.bool true, ρ)
    | some false => (kitB (tyN d) T).map fun b => (.bool b, ρ)
    | none => none
theorem j_isi2 {Y : Fam} {e : Expr} {pos : Pos} {m : MV} {x y : Str} {S T : String} {p p2 p3 p4 : Pos} {k0 : Nat} (h : JV Y e m) (hi : Y.mg "isinstance" = none) (hm : Y.mg x = none) (hm2 : Y.mg y = none) (hv : bootBuiltins x = some (.type S) := by decide +kernel) (hv2 : bootBuiltins y = some (.type T) := by decide +kernel)
    (hg : ∀ j, Gl (Y.X j) "isinstance" := by intro _; rfl) (hg2 : ∀ j, Gl (Y.X j) x := by intro _; rfl) (hg3 : ∀ j, Gl (Y.X j) y := by intro _; rfl) (hn : x ≠ "__name__" := by decide) (hdb : (x == ("__debug__" : Str)) = false := by decide) (hn2 : y ≠ "__name__" := by decide) (hdb2 : (y == ("__debug__" : Str)) = false := by decide)
    (hs1 : ∀ j, starEach [e, .Tuple [.Name x p2, .Name y p3] k0 p4] (Y.X j).env = (false, eval e (Y.X j).env) :: starEach [.Tuple [.Name x p2, .Name y p3] k0 p4] (Y.X j).env := by intro _; rfl)
    (hs2 : ∀ j, starEach [.Tuple [.Name x p2, .Name y p3] k0 p4] (Y.X j).env = (false, eval (.Tuple [.Name x p2, .Name y p3] k0 p4) (Y.X j).env) :: starEach [] (Y.X j).env := by intro _; rfl)
    (hs3 : ∀ j, starEach [.Name x p2, .Name y p3] (Y.X j).env = (false, eval (.Name x p2) (Y.X j).env) :: starEach [.Name y p3] (Y.X j).env := by intro _; rfl) (hs4 : ∀ j, starEach [.Name y p3] (Y.X j).env = (false, eval (.Name y p3) (Y.X j).env) :: starEach [] (Y.X j).env := by intro _; rfl)
    (hpl : ∀ j, (backTo pos (starEach [.Tuple [.Name x p2, .Name y p3] k0 p4] (Y.X j).env)).any (·.1) = false := by intro _; rfl) : JV Y (.Call (.Name "isinstance" p) [e, .Tuple [.Name x p2, .Name y p3] k0 p4] [] pos) (mIsi2 S T m) := by
  obtain ⟨t, pa, s⟩ := h
  refine ⟨tCB (rIsiT Y.K) (tCons t (tCons (tTup (tCons (tC (.ty S)) (tCons (tC (.ty T)) tNil))) tNil)), fun j => by
    rw [← Y.hK j]
    exact pe_callB call_isiT (hg j) (by rw [Y.hmg j]; exact hi) (by decide +kernel) (pa_cons (pa j) (pa_cons (pe_tup (pa_cons (pe_bltn (hg2 j) (by rw [Y.hmg j]; exact hm) hv rfl hn hdb) (pa_cons (pe_bltn (hg3 j) (by rw [Y.hmg j]; exact hm2) hv2 rfl hn2 hdb2) pa_nil (hs4 j)) (hs3 j))) pa_nil (hs2 j)) (hs1 j)) (by decide) (by decide) (hs1 j) (hpl j), fun c σ ρ T' H Q re q => s c σ ρ T' H _ re ?_⟩
  unfold mIsi2 at q
  cases hm : m ρ with
  | none =>
    rw [hm] at q
    exact q
  | some z =>
    obtain ⟨d, ρ1⟩ := z
    rw [hm] at q
    simp only at q
    intro v H1 r1
    refine ⟨sz5 (by show 2 ≤ 100000; omega), fun p hp => ?_⟩
    have r2 := r1.fresh hp (.tup [.ty S, .ty T])
    have cls : Paired ClsV [V.ty S, V.ty T] [Value.type S, Value.type T] := .cons (.ty S) (.cons (.ty T) .nil)
    have go : ∀ b, PySem.W.kitAny Y.K (.type (tyN d)) [.type S, .type T] = some b → (∀ v H', Rel Y.K c σ ρ1 ((v, .val (.bool b)) :: T') H' → Q v H') → ∃ (x : V) (tp : Addr) (cs : List V) (t : Value) (us : List Value) (b : Bool), [v, V.ref p] = [x, .ref tp] ∧ upd H1 p (.tup [.ty S, .ty T]) tp = some (.tup cs) ∧ Paired ClsV cs us ∧ TyX Y.K (upd H1 p (.tup [.ty S, .ty T])) x t ∧ PySem.W.kitAny Y.K t us = some b ∧ Q (.bl b) (upd H1 p (.tup [.ty S, .ty T])) :=
      fun b hb q => ⟨v, p, _, _, _, b, rfl, upd_same, cls, r2.top.ty, hb, q _ _ (r2.pop.pushB b)⟩
    cases hk : kitB (tyN d) S with
    | none =>
      rw [hk] at q
      exact q.elim
    | some a =>
      rw [hk] at q
      cases a with
      | true => exact go true (kitAny_cons (kit_ty hk) (fun z => by cases z) fun _ => rfl) q
      | false =>
        simp only at q
        cases hk2 : kitB (tyN d) T with
        | none =>
          rw [hk2] at q
          exact q.elim
        | some b =>
          rw [hk2] at q
          refine go b (kitAny_cons (kit_ty hk) (fun _ => kitAny_cons (kit_ty hk2) (fun hb => ?_) fun hb => hb) fun z => by cases z) q
          rw [hb]
          exact kitAny_nil
end Fj

set_option Elab.async false
set_option linter.all false
set_option maxRecDepth 100000
set_option maxHeartbeats 4000000
set_option autoImplicit false
/-! pop(i) of an own list; list(range(n)); {}. -/
namespace Fj
open PySem PySem.Spec PyProof.Rows L2
section
variable {K : PySem.W.Frag} {c : Ct} {σ : L2.St} {ρ : En} {T : Tm} {H : Hp} {v : V} {F : Hp}
theorem Rps.del {vs : List V} {ds : List PyData} (h : Rps K F vs ds) : ∀ k : Nat, Rps K F (vs.eraseIdx k) (ds.eraseIdx k) := by
  induction ds generalizing vs with
  | nil =>
    intro k
    cases h
    exact .nil
  | cons d ds ih =>
    intro k
    cases h with
    | cons r t =>
      cases k with
      | zero => exact t
      | succ k => exact .cons r (ih t k)
/-- an item of the own list on top, laid beside it -/
theorem Rel.beside {fr : Bool} {ds : List PyData} {k : Nat} {d : PyData} (r : Rel K c σ ρ ((v, .own fr (.lst ds)) :: T) H) (hk : ds[k]? = some d) : ∃ a vs y, v = .ref a ∧ H a = some (.lst vs) ∧ vs[k]? = some y ∧ Rel K c σ ρ ((v, .own fr (.lst ds)) :: (y, .val d) :: T) H := by
  obtain ⟨F, fp, r⟩ := r
  obtain ⟨fc, fq, e, q, r1⟩ := r.pop
  subst e
  obtain ⟨a, vs, e1, h1, h2⟩ : ∃ a vs, v = .ref a ∧ H a = some (.lst vs) ∧ Rps K F vs ds := by
    cases q with
    | own rc hf =>
      cases rc with
      | @lst a vs _ ha rs => exact ⟨a, vs, rfl, ha, rs⟩
  obtain ⟨y, hy, ry⟩ := h2.get hk
  exact ⟨a, vs, y, e1, h1, hy, F, fc ++ ([] ++ fq), r.f0, r.fh, r.new, r.keep, r.trk, .cons q (.cons (.val ry) r1.sl), r.nd, r.own, r.len, r.pin⟩
end
def mPopAt (j : Nat) (m : MV) : MV := fun ρ => match ρ[j]? with
  | some (.own _ (.lst _)) => match m ρ with
    | some (.int i, ρ) => match ρ[j]? with
      | some (.own fr (.lst ds)) => match L2.ixN ds.length i with
        | some k => match ds[k]? with
          | some d => if ds.length ≤ 100000 then some (d, ρ.set j (.own fr (.lst (ds.eraseIdx k)))) else none
          | none => none
        | none => none
      | _ => none
    | _ => none
  | _ => none
section
variable {Y : Fam} {e : Expr} {apos cpos : Pos}
theorem j_popAt (j : Nat) {x : Str} {p : Pos} {m : MV} (h : JV Y e m) (hN : ∀ i, (Y.X i).N[j]? = some x := by intro _; rfl) (hv : ∀ i, Vis (Y.X i).env.scope x := by first | exact fun _ => Or.inl rfl | exact fun _ => Or.inr (Or.inl rfl) | exact fun _ => Or.inr (Or.inr rfl)) (hd : (x == ("__debug__" : Str)) = false := by decide) (hcd : (x == ("__classdict__" : Str)) = false := by decide)
    (hbase : ∀ i, attributeBase (.Name x p) "pop" (Y.X i).env (eval (.Name x p) (Y.X i).env) = eval (.Name x p) (Y.X i).env := by intro _; rfl)
    (hfew : ∀ i, ((backTo cpos (starEach [e] (Y.X i).env)).all (fun x => !x.1) && (backToKw cpos (keywordEach [] (Y.X i).env)).all (fun x => x.1.isSome) && decide ([e].length + ([] : List Keyword).length + (if ([] : List Keyword).isEmpty then 0 else 1) < 30)) = true := by intro _; rfl)
    (hline : (apos.endLine == cpos.line) = true := by rfl) (hs : ∀ i, starEach [e] (Y.X i).env = (false, eval e (Y.X i).env) :: starEach [] (Y.X i).env := by intro _; rfl) (hplain : ∀ i, (backTo cpos (starEach [] (Y.X i).env)).any (·.1) = false := by intro _; rfl) : JV Y (.Call (.Attribute (.Name x p) "pop" apos) [e] [] cpos) (mPopAt j m) := by
  obtain ⟨t, pa, s⟩ := h
  refine ⟨tBM Y.K "list" rPopAt (tVar j) (tCons t tNil), fun i => by rw [← Y.hK i]; exact pe_bm PySem.F.plainAttrs_list PySem.F.slot_list_pop PySem.F.type_list_pop mt_popAt (pe_var (hN i) (hv i) hd hcd) (pa_cons (pa i) pa_nil (hs i)) (hbase i) (hfew i) hline (hs i) (hplain i), fun c σ ρ T H Q r q => ?_⟩
  unfold mPopAt at q
  split at q
  · rename_i fr0 ds0 he0
    obtain ⟨a0, vs0, hv0, hH0, _⟩ := r.lstOwn he0
    refine ⟨_, hv0, .inl ⟨rfl, vs0, .inl (.inl hH0)⟩, s c σ ρ T H _ r ?_⟩
    cases hm : m ρ with
    | none =>
      rw [hm] at q
      exact q
    | some z =>
      obtain ⟨d, ρ1⟩ := z
      rw [hm] at q
      cases d with
      | int i =>
        simp only at q
        intro vd H1 r1
        have hvd := r1.intTop
        subst hvd
        have r1 := r1.pop
        split at q
        · rename_i fr ds he
          split at q
          · rename_i k hk
            split at q
            · rename_i d hdk
              split at q
              · rename_i hl
                obtain ⟨v, hv'⟩ := r1.ownv he
                have : v = .ref a0 := by
                  rw [hv0] at hv'
                  cases hv'
                  rfl
                subst this
                obtain ⟨a, us, y, e, hH, hy, r2⟩ := (r1.take hv' he).beside hdk
                cases e
                obtain ⟨a2, us2, e, hH2, hlen, r3⟩ := r2.write (fun us => us.eraseIdx k) (ds' := ds.eraseIdx k) fun F fp us f rs => rs.del k
                cases e
                rw [hH] at hH2
                cases hH2
                obtain ⟨q1, q2, q3, q4⟩ := ixN_seq hk
                rw [← hlen] at q1 q3 q4
                refine ⟨a0, us, i, k, y, rfl, rfl, hH, by omega, by omega, q1, hy, q _ _ ?_⟩
                exact r1.put_back he hv' r3
              · exact q.elim
            · exact q.elim
          · exact q.elim
        · exact q.elim
      | _ => exact q.elim
  · exact q.elim
end
/-! sorted(set(t)), t a tuple of whole numbers -/
def rSetTupI (K : PySem.W.Frag) (w : World) : List V → Hp → VK → Prop := fun vs H Q => ∃ (l : Addr) (ns : List Int), vs = [V.ref l] ∧ SqT K H l (ns.map V.int) ∧ ns.length < 64 ∧ ∀ p n, H p = none → n ≤ ns.length → Q (.ref p) (upd H p (SetO w p (fun j => decide (j ∈ ns)) n))
theorem cr_setTupI {X : Cx} (hc : X.calm = true) : CallR X (.type "set") (rSetTupI X.K X.w) := by
  intro pins s σ H vs us Q I r h
  obtain ⟨l, ns, rfl, hs, hn, q⟩ := h
  obtain ⟨its, rv, hT, hz⟩ := I.tuple hs
  rw [Vals.ref1 r]
  have hb : ns.length + 1 < scanBound := Nat.lt_of_lt_of_le (by omega : ns.length + 1 < 65) (by decide)
  refine call_set_tupI ns (I.ok.hd hc) hT (by simpa using rv.ints) hb fun h' tk c hS hc' hk => ?_
  exact ⟨.ref _, upd H _ (SetO X.w _ (fun j => decide (j ∈ ns)) c), I.laid (t' := tk) hk (Nat.le_refl _) (setO_new hS), rfl, q _ c (I.hok.fresh (Nat.le_refl _)) hc'⟩
/-- sorted(set(t)) -/
def mSSI (m : MV) : MO := fun ρ => match m ρ with
  | some (.tuple ds, ρ) => match intsD ds with
    | some ns => if ns.length < 64 then some (.own true (.lst ((isort (fun i j => decide (i < j)) (dedup ns)).map .int)), ρ) else none
    | none => none
  | _ => none
section
variable {Y : Fam}
theorem j_sortSetI {e : Expr} {m : MV} {p p2 pos pos2 : Pos} (h : JV Y e m) (hm : Y.mg "sorted" = none) (hm2 : Y.mg "set" = none) (hg : ∀ j, Gl (Y.X j) "sorted" := by intro _; rfl) (hg2 : ∀ j, Gl (Y.X j) "set" := by intro _; rfl)
    (hs : ∀ j, starEach [e] (Y.X j).env = (false, eval e (Y.X j).env) :: starEach [] (Y.X j).env := by intro _; rfl) (hpl : ∀ j, (backTo pos2 (starEach [] (Y.X j).env)).any (·.1) = false := by intro _; rfl)
    (hs1 : ∀ j, starEach [.Call (.Name "set" p2) [e] [] pos2] (Y.X j).env = (false, eval (.Call (.Name "set" p2) [e] [] pos2) (Y.X j).env) :: starEach [] (Y.X j).env := by intro _; rfl) (hpl1 : ∀ j, (backTo pos (starEach [] (Y.X j).env)).any (·.1) = false := by intro _; rfl) :
    JO Y (.Call (.Name "sorted" p) [.Call (.Name "set" p2) [e] [] pos2] [] pos) (mSSI m) := by
  obtain ⟨te, pe, se⟩ := h
  refine ⟨tCB (rSortedSet Y.w) (tCons (tCB (rSetTupI Y.K Y.w) (tCons te tNil)) tNil), fun j => ?_, fun c σ ρ T H Q r q => ?_⟩
  · rw [← Y.hK j, ← Y.hw j]
    exact pe_callB (cr_sortedSet (Y.calm j)) (hg j) (by rw [Y.hmg j]; exact hm) (by decide +kernel) (pa_cons (pe_callTy (cr_setTupI (Y.calm j)) (hg2 j) (by rw [Y.hmg j]; exact hm2) (by decide +kernel) (pa_cons (pe j) pa_nil (hs j)) (by decide) (by decide) (hs j) (hpl j)) pa_nil (hs1 j)) (by decide) (by decide) (hs1 j) (hpl1 j)
  · refine se c σ ρ T H _ r ?_
    unfold mSSI at q
    cases hm : m ρ with
    | none =>
      rw [hm] at q
      exact q
    | some z =>
      obtain ⟨d, ρ1⟩ := z
      rw [hm] at q
      cases d with
      | tuple ds =>
        simp only at q
        split at q
        · rename_i ns hn
          split at q
          · rename_i hok
            have := intsD_eq hn
            subst this
            intro v H1 r1
            obtain ⟨F, fp, f⟩ := id r1
            obtain ⟨l, us, rfl, h1, h2⟩ := f.top.tupAt
            have := h2.nums
            subst this
            refine ⟨l, ns, rfl, same_tup f.fh h1, hok, fun a n ha hna => ?_⟩
            refine ⟨a, _, n, rfl, upd_same, by omega, fun ns' p' pw mem hln hp' => ?_⟩
            have r2 := r1.fresh ha (SetO Y.w a (fun j => decide (j ∈ ns)) n)
            obtain ⟨F', fp', f'⟩ := id r2
            have e : ns' = isort (fun i j => decide (i < j)) (dedup ns) := by
              refine uniq_strict (r := fun a b : Int => a < b) (fun a z => by omega) (fun a b h z => by omega) (fun x => ?_) pw ?_
              · rw [mem x, (isort_perm _ _).mem_iff, mem_dedup, decide_eq_true_iff]
              · have nd2 : (isort (fun i j : Int => decide (i < j)) (dedup ns)).Nodup := (isort_perm _ _).nodup_iff.mpr (nodup_dedup _)
                exact ((isort_sorted ord_int _).and nd2).imp fun {a b} ⟨h1, h2⟩ => by
                  have := of_decide_eq_false h1
                  have : a ≠ b := h2
                  omega
            rw [e]
            exact q _ _ (f'.popV.lstNew hp' rps_ints)
          · exact q.elim
        · exact q.elim
      | _ => exact q.elim
end
end Fj

set_option Elab.async false
set_option linter.all false
set_option maxRecDepth 100000
set_option maxHeartbeats 4000000
set_option autoImplicit false
/-! t[::-1] of a tuple. -/
namespace Fj
open PySem PySem.Spec PyProof.Rows L2 HT
section
variable {prog : Program} {w : World} {A : Around} {E : Value → Shared → Prop} {s : Shared}
theorem adjust_rev (n : Nat) : Builtin.Slice.sliceAdjust none none (-1) (n : Int) = ((n : Int) - 1, -1) := by
  unfold Builtin.Slice.sliceAdjust
  simp
theorem places_rev (n : Nat) : Builtin.Slice.slicePlaces ((n : Int) - 1) (-1) (-1) = n := by
  unfold Builtin.Slice.slicePlaces
  simp
  omega
theorem sliceApplied_rev {sl : Addr} {vl vu vs : Value} {n : Nat} {Q : Int × Int × Nat → Shared → Prop} (hs : s.heap.IsSliceOf sl vl vu vs) (pl : IsPart vl none) (pu : IsPart vu none) (ps : IsPart vs (some (-1)))
    (h : Q ((n : Int) - 1, -1, n) s) : wpAny (model prog w) A (Builtin.Slice.sliceApplied (.ref sl) (pure (n : Int))) Q E s := by
  obtain ⟨os, hos, hcs, hds⟩ := id hs
  unfold Builtin.Slice.sliceApplied Builtin.Slice.sliceFields
  refine wpAny_bind (wpAny_bind (wpAny_field hos hds (x := vl) rfl (wpAny_bind (wpAny_field hos hds (x := vu) rfl (wpAny_bind (wpAny_field hos hds (x := vs) rfl (wpAny_pure ?_)))))))
  refine wpAny_bind (slicePart_ ps ?_)
  show wpAny _ _ (if ((-1 : Int) == 0) = true then _ else _) _ _ s
  rw [if_neg (by decide)]
  refine wpAny_bind (slicePart_ pl (wpAny_bind (slicePart_ pu (wpAny_bind (wpAny_pure ?_)))))
  show wpAny _ _ (match Builtin.Slice.sliceAdjust none none (-1) (n : Int) with | (lo, hi) => pure (lo, (-1 : Int), Builtin.Slice.slicePlaces lo hi (-1))) _ _ s
  rw [adjust_rev n]
  show wpAny _ _ (pure ((n : Int) - 1, (-1 : Int), Builtin.Slice.slicePlaces ((n : Int) - 1) (-1) (-1))) _ _ s
  rw [places_rev]
  exact wpAny_pure h
theorem fm_congr {α β : Type} {f g : α → Option β} : ∀ (l : List α), (∀ x ∈ l, f x = g x) → l.filterMap f = l.filterMap g
  | [], _ => rfl
  | a :: l, h => by
    rw [List.filterMap_cons, List.filterMap_cons, h a (List.mem_cons_self ..), fm_congr l fun x hx => h x (List.mem_cons_of_mem _ hx)]
theorem pick_rev (xs : Array Value) : ((List.range xs.size).filterMap fun (m : Nat) => xs[(((xs.size : Int) - 1) + (m : Int) * (-1)).toNat]?).toArray = xs.toList.reverse.toArray := by
  congr 1
  have h1 := PySem.W.krv_all xs
  have h2 := congrArg List.reverse h1
  rw [← List.filterMap_reverse, ← PySem.W.krv_range, List.filterMap_map] at h2
  rw [← h2]
  refine fm_congr _ fun m hm => ?_
  have := List.mem_range.mp hm
  have e : (((xs.size : Int) - 1) + (m : Int) * (-1)).toNat = xs.size - 1 - m := by omega
  show xs[(((xs.size : Int) - 1) + (m : Int) * (-1)).toNat]? = xs[xs.size - 1 - m]?
  rw [e]
theorem getItem_tuple_rev {t sl : Addr} {items : Array Value} {vl vu vs : Value} {Q : Value → Shared → Prop} (ht : IsTup s.heap t items) (hs : s.heap.IsSliceOf sl vl vu vs) (pl : IsPart vl none) (pu : IsPart vu none) (ps : IsPart vs (some (-1)))
    (h : Q (.ref s.heap.objs.size) { s with heap := s.heap.push { cls := .type "tuple", data := .seq items.toList.reverse.toArray } })
    (hsz : items.size ≤ sizeLine) : wpAny (model prog w) A (getItem (.ref t) (.ref sl)) Q E s := by
  have htake : sizeOk (.seq items.toList.reverse.toArray) := by
    show items.toList.reverse.toArray.size ≤ sizeLine
    rw [List.size_toArray, List.length_reverse, Array.length_toList]
    exact hsz
  obtain ⟨os, hos, hcs, hds⟩ := id hs
  have hTs : s.TypeIs (.ref sl) "slice" := ⟨os, hos, hcs⟩
  unfold getItem
  try with_reducible refine wpAny_holding ?_
  first | refine wpAny_bind (wpAny_pure ?_) | skip
  refine wpAny_bind (wpAny_sequenceKey ht.typeIs (by decide) ?_)
  refine wpAny_bind (wpAny_callSpecial?_slot (name := Str.ofString "__getitem__") ht.typeIs PyProof.Rows.slot_tuple_getitem
    (wpAny_call_entry PyProof.Rows.slot_tuple_getitem ht.typeIs entry_tuple_getitem ?_ (args_tuple_getitem _ _)))
  show wpAny _ _ (Builtin.Tuple.tupleItemsOf (.ref t) >>= _) _ _ s
  refine wpAny_bind (tupleItemsOf_ ht ?_)
  refine wpAny_bind (wpAny_typeOf hTs ?_)
  rw [if_pos (by decide)]
  refine wpAny_bind (sliceApplied_rev hs pl pu ps ?_)
  have hno : ¬ ((((items.size : Int) - 1) == 0 && (-1 : Int) == 1 && items.size == items.size) = true) := by
    intro q
    rw [Bool.and_eq_true, Bool.and_eq_true] at q
    exact absurd q.1.2 (by decide)
  show wpAny _ _ (if (((items.size : Int) - 1) == 0 && (-1 : Int) == 1 && items.size == items.size) = true then _ else _) _ _ s
  rw [if_neg hno, pick_rev]
  first
    | exact wpAny_bind (m := Builtin.Tuple.tupleExact _) (wpAny_newObj_type (wpAny_pure ⟨_, rfl, wpAny_pure h⟩) htake)
    | exact wpAny_bind (m := Builtin.Tuple.tupleExact _) (wpAny_newObj_type (wpAny_bind (wpAny_pure (wpAny_pure ⟨_, rfl, wpAny_pure h⟩))) htake)
    | exact wpAny_bind (wpAny_bind (m := Builtin.Tuple.tupleExact _) (wpAny_newObj_type (wpAny_pure (wpAny_pure ⟨_, rfl, wpAny_pure h⟩)) htake))
    | exact wpAny_bind (wpAny_bind (m := Builtin.Tuple.tupleExact _) (wpAny_newObj_type (wpAny_pure ⟨_, rfl, wpAny_pure h⟩) htake))
end
def tRevT (K : PySem.W.Frag) (te : TE) : TE := fun σ H Q => te σ H fun x H1 => ∃ a xs, x = .ref a ∧ SqT K H1 a xs ∧ ∀ p, H1 p = none → Q (.ref p) (upd H1 p (.tup xs.reverse))
theorem pe_revT {X : Cx} {e : Expr} {te : TE} {k : Nat} {p1 p2 p3 pos : Pos} (he : PE X e te) : PE X (.Subscript e (.Slice none none (some (.UnaryOp .USub (.Constant (.int 1) k p1) p2)) p3) pos) (tRevT X.K te) := by
  refine ⟨fun pins s σ H Q I h => ?_⟩
  refine Subscript_ (thn (he.run pins s σ H _ I h) fun v s1 ⟨x, H1, I1, r1, q1⟩ => ?_)
  obtain ⟨a, xs, ex, hx, q⟩ := q1
  subst ex
  cases r1
  have hst : PO X (some (.UnaryOp .USub (.Constant (.int 1) k p1) p2)) (tPart (tUn (rU fun i => .int (-i)) (tC (.int 1)))) := po_some (pe_un un_neg pe_int)
  refine wpAny_Slice (thn (po_none.run pins s1 σ H1 (fun o H2 => o = none ∧ H2 = H1) I1 ⟨rfl, rfl⟩) fun vl s2 ⟨l, H2, I2, pl, el, e2⟩ => ?_)
  subst el e2
  refine thn (po_none.run pins s2 σ H2 (fun o H3 => o = none ∧ H3 = H2) I2 ⟨rfl, rfl⟩) fun vu s3 ⟨u, H3, I3, pu, eu, e3⟩ => ?_
  subst eu e3
  refine thn (hst.run pins s3 σ H3 (fun o H4 => o = some (-1) ∧ H4 = H3) I3 ⟨1, rfl, -1, rfl, rfl, rfl⟩) fun vs s4 ⟨o, H4, I4, ps, eo, e4⟩ => ?_
  subst eo e4
  have I5 : Inv X pins σ H4 { s4 with heap := s4.heap.push { cls := .type "slice", data := .fields #[vl, vu, vs] } } := I4.kept (t' := s4.toks) fun b ob q => Heap.get?_push_of_some _ q
  obtain ⟨its, r, ht, hz⟩ := I5.tuple hx
  have hlen := r.length
  show wpAny (model X.prog X.w) X.A (subscriptTail e (.Slice none none (some (.UnaryOp .USub (.Constant (.int 1) k p1) p2)) p3) (.ref a) (.ref s4.heap.objs.size)) (EP X pins σ Q) X.xe { s4 with heap := s4.heap.push { cls := .type "slice", data := .fields #[vl, vu, vs] } }
  refine tail_any (ops := [.ref a, .ref s4.heap.objs.size]) ht.typeIs (PyProof.Rows.slot_tuple_getitem.lookup) ?_ (by with_unfolding_all rfl)
  refine getItem_tuple_rev ht (Heap.IsSliceOf.new _ vl vu vs) pl pu ps ?_ (by rw [List.size_toArray]; omega)
  refine ⟨.ref _, _, I5.laid (t' := s4.toks) (o := .tup xs.reverse) (fun b ob q => Heap.get?_push_of_some _ q) (Nat.le_refl _) ?_, rfl, q _ (I5.hok.fresh (Nat.le_refl _))⟩
  exact ⟨by rw [List.length_reverse]; exact hz, _, by simpa using r.reverse, IsTup.new _ _⟩
section
variable {Y : Fam} {e : Expr} {pos : Pos}
/-- xs[::-1], a list's or a tuple's -/
def mRev2 (m : MV) : MO := fun ρ => match m ρ with
  | some (.list ds, ρ) => some (.own true (.lst ds.reverse), ρ)
  | some (.tuple ds, ρ) => some (.val (.tuple ds.reverse), ρ)
  | _ => none
theorem pe_or2 {X : Cx} {e : Expr} {t1 t2 : TE} (h : PE X e t1) (g : PE X e t2) : PE X e (fun σ H Q => t1 σ H Q ∨ t2 σ H Q) := ⟨fun pins s σ H Q I z => z.elim (h.run pins s σ H Q I) (g.run pins s σ H Q I)⟩
theorem j_rev2 {m : MV} {k : Nat} {p1 p2 p3 : Pos} (he : JV Y e m) : JO Y (.Subscript e (.Slice none none (some (.UnaryOp .USub (.Constant (.int 1) k p1) p2)) p3) pos) (mRev2 m) := by
  obtain ⟨t, p, s⟩ := he
  refine ⟨_, fun j => pe_or2 (t1 := tRevL Y.K t) (t2 := tRevT Y.K t) (by rw [← Y.hK j]; exact pe_revL (p j)) (by rw [← Y.hK j]; exact pe_revT (p j)), fun c σ ρ T H Q re q => ?_⟩
  unfold mRev2 at q
  split at q
  · rename_i ds ρ1 hm
    refine .inl (s c σ ρ T H _ re ?_)
    rw [hm]
    intro v H1 r1
    obtain ⟨F, fp, f⟩ := r1
    obtain ⟨p, us, rfl, h1, h2⟩ := f.top.lstAt
    exact ⟨p, us, rfl, .inl (.inl (f.fh _ _ h1)), fun p' hp => q _ _ (f.popV.lstNew hp h2.rev)⟩
  · rename_i ds ρ1 hm
    refine .inr (s c σ ρ T H _ re ?_)
    rw [hm]
    intro v H1 r1
    obtain ⟨F, fp, f⟩ := r1
    obtain ⟨p, us, rfl, h1, h2⟩ := f.top.tupAt
    exact ⟨p, us, rfl, same_tup f.fh h1, fun p' hp => q _ _ (f.popV.tupNew hp h2.rev)⟩
  · exact q.elim
/-- {} -/
theorem j_dct0 : JV Y (.Dict [] [] pos) (mC (.dict [])) := ⟨tDNewK, fun _ => pe_dnewK, fun _ _ _ _ _ _ r q p hp => q _ _ (let ⟨_, _, f⟩ := r; f.dctNewV hp)⟩
/-- str(i) -/
def gStrI : List PyData → Option Ent
  | [.int i] => if i.natAbs.log2 < 1920 then some (.val (.str (toString i : String))) else none
  | _ => none
theorem c_strI : CallJ Y (.type "str") gStrI := by
  refine ⟨_, fun j => call_str_int, fun c σ ρ T H vs ds z Q hl r e q => ?_⟩
  unfold gStrI at e
  split at e
  · split at e
    · rename_i hi
      cases e
      obtain ⟨v, rfl⟩ := len1 hl
      have r : Rel Y.K c σ ρ ((v, .val (.int _)) :: T) H := r
      have hx := r.intTop
      subst hx
      exact ⟨_, rfl, hi, q _ _ (r.pop.pushS _)⟩
    · cases e
  · cases e
/-- list(range(n)) -/
noncomputable def mLR (m : MV) : MO := fun ρ => match m ρ with
  | some (.int n, ρ) => if R1ok n then if n.toNat ≤ 100000 then some (.own true (.lst (rngD 0 n.toNat)), ρ) else none else none
  | _ => none
theorem j_listRg {m : MV} {p p2 pos2 : Pos} (h : JV Y e m) (hm : Y.mg "list" = none) (hm2 : Y.mg "range" = none) (hg : ∀ j, Gl (Y.X j) "list" := by intro _; rfl) (hg2 : ∀ j, Gl (Y.X j) "range" := by intro _; rfl)
    (hs : ∀ j, starEach [e] (Y.X j).env = (false, eval e (Y.X j).env) :: starEach [] (Y.X j).env := by intro _; rfl)
    (hs1 : ∀ j, starEach [.Call (.Name "range" p2) [e] [] pos2] (Y.X j).env = (false, eval (.Call (.Name "range" p2) [e] [] pos2) (Y.X j).env) :: starEach [] (Y.X j).env := by intro _; rfl) :
    JO Y (.Call (.Name "list" p) [.Call (.Name "range" p2) [e] [] pos2] [] pos) (mLR m) := by
  obtain ⟨t, pe, s⟩ := h
  refine ⟨tLstRg (tRg1 t), fun j => pe_listRg (Y.calm j) (hg j) (by rw [Y.hmg j]; exact hm) (prg_1 (hg2 j) (by rw [Y.hmg j]; exact hm2) (pe j) (hs j)) (hs1 j), fun c σ ρ T H Q re q => s c σ ρ T H _ re ?_⟩
  unfold mLR at q
  cases hm : m ρ with
  | none =>
    rw [hm] at q
    exact q
  | some z =>
    obtain ⟨d, ρ1⟩ := z
    rw [hm] at q
    cases d with
    | int n =>
      simp only at q
      split at q
      · rename_i hr
        split at q
        · rename_i hn
          intro v H1 r1
          have hv := r1.intTop
          subst hv
          refine ⟨n, rfl, ⟨by omega, by omega, hr.1, hr.2, by rw [Int.sub_zero]; omega⟩, fun p' hp => q _ _ ?_⟩
          obtain ⟨F, fp, f⟩ := r1
          have e1 : rgV 0 n = ((List.range n.toNat).map fun i => (0 : Int) + (i : Nat)).map V.int := by
            unfold rgV
            rw [Int.sub_zero, List.map_map]
            rfl
          have e2 : rngD 0 n.toNat = ((List.range n.toNat).map fun i => (0 : Int) + (i : Nat)).map .int := by
            unfold rngD
            rw [List.map_map]
            rfl
          rw [e1, e2]
          exact f.popV.lstNew hp rps_ints
        · exact q.elim
      · exact q.elim
    | _ => exact q.elim
end
end Fj

set_option Elab.async false
set_option linter.all false
set_option maxRecDepth 100000
set_option maxHeartbeats 4000000
set_option autoImplicit false
/-! A list held against [], whatever stands in it. -/
namespace Fj
open PySem PySem.Spec PyProof.Rows L2
def rNilL (K : PySem.W.Frag) (neg : Bool) : R2 := fun x y H Q => ∃ a b xs, x = .ref a ∧ y = .ref b ∧ SqL K H a xs ∧ SqL K H b [] ∧ Q (.bl (if neg = true then !xs.isEmpty else xs.isEmpty)) H
theorem op_eqNilL {X : Cx} (hu : X.A.units < cLine) : OpR X (compareOp .Eq) (rNilL X.K false) := by
  intro pins s σ H x y v u Q I rx ry h
  obtain ⟨a, b, xs, rfl, rfl, h1, h2, q⟩ := h
  cases rx
  cases ry
  obtain ⟨its, rv, hl, _⟩ := I.list h1
  obtain ⟨its2, rv2, hl2, _⟩ := I.list h2
  cases rv2
  cases xs with
  | nil =>
    cases rv
    exact SeqAt.eq_listAt (e := fun _ => true) hl.isList hl2.isList rfl hu (fun j h1 _ => absurd h1 (Nat.not_lt_zero _)) ⟨.bl _, H, I, rfl, q⟩
  | cons x xs =>
    cases rv with
    | cons r1 r2 => exact SeqAt.eq_list_lengthsAt hl.isList hl2.isList (by simp) hu ⟨.bl _, H, I, rfl, q⟩
theorem op_neNilL {X : Cx} (hu : X.A.units < cLine) : OpR X (compareOp .NotEq) (rNilL X.K true) := by
  intro pins s σ H x y v u Q I rx ry h
  obtain ⟨a, b, xs, rfl, rfl, h1, h2, q⟩ := h
  cases rx
  cases ry
  obtain ⟨its, rv, hl, _⟩ := I.list h1
  obtain ⟨its2, rv2, hl2, _⟩ := I.list h2
  cases rv2
  cases xs with
  | nil =>
    cases rv
    exact SeqAt.RcNeAt.lists (e := fun _ => true) hl.isList hl2.isList rfl hu (fun j h1 _ => absurd h1 (Nat.not_lt_zero _)) _ _ _ _ ⟨.bl _, H, I, rfl, q⟩
  | cons x xs =>
    cases rv with
    | cons r1 r2 => exact SeqAt.RcNeAt.lists_lengths hl.isList hl2.isList (by simp) hu _ _ _ _ ⟨.bl _, H, I, rfl, q⟩
/-- xs == [] -/
def gEqNl : PyData → PyData → Option PyData
  | .list ds, .list [] => some (.bool ds.isEmpty)
  | _, _ => none
def gNeNl : PyData → PyData → Option PyData
  | .list ds, .list [] => some (.bool (!ds.isEmpty))
  | _, _ => none
section
variable {Y : Fam}
theorem emp_len {α β : Type} {xs : List α} {ys : List β} (h : xs.length = ys.length) : xs.isEmpty = ys.isEmpty := by
  cases xs <;> cases ys <;> first | rfl | cases h
theorem opj_eqNl : OpJ Y (compareOp .Eq) gEqNl := by
  refine ⟨_, fun j => by have := op_eqNilL (X := Y.X j) (by have := units65 (Y.room j); omega); rw [Y.hK j] at this; exact this, fun c σ ρ T H x y dx dy z Q r e q => ?_⟩
  unfold gEqNl at e
  split at e
  · cases e
    obtain ⟨h1, h2⟩ := r.two
    cases h1 with
    | lst a1 b1 =>
      cases h2 with
      | lst a2 b2 =>
        cases b2
        refine ⟨_, _, _, rfl, rfl, .inl (.inl a1), .inl (.inl a2), ?_⟩
        rw [if_neg Bool.false_ne_true, emp_len b1.length]
        exact q _ H (r.pop2.pushB _)
  · cases e
theorem opj_neNl : OpJ Y (compareOp .NotEq) gNeNl := by
  refine ⟨_, fun j => by have := op_neNilL (X := Y.X j) (by have := units65 (Y.room j); omega); rw [Y.hK j] at this; exact this, fun c σ ρ T H x y dx dy z Q r e q => ?_⟩
  unfold gNeNl at e
  split at e
  · cases e
    obtain ⟨h1, h2⟩ := r.two
    cases h1 with
    | lst a1 b1 =>
      cases h2 with
      | lst a2 b2 =>
        cases b2
        refine ⟨_, _, _, rfl, rfl, .inl (.inl a1), .inl (.inl a2), ?_⟩
        rw [if_pos rfl, emp_len b1.length]
        exact q _ H (r.pop2.pushB _)
  · cases e
theorem o_eqN : OpJ Y (compareOp .Eq) (fun x y => (gEqNl x y).or (gEq x y)) := opj_eqNl.or o_eq
theorem o_neN : OpJ Y (compareOp .NotEq) (fun x y => (gNeNl x y).or (gNe x y)) := opj_neNl.or o_ne
def gEqN (x y : PyData) : Option PyData := (gEqNl x y).or (gEq x y)
def gNeN (x y : PyData) : Option PyData := (gNeNl x y).or (gNe x y)
end
end Fj

set_option Elab.async false
set_option linter.all false
set_option maxRecDepth 100000
set_option maxHeartbeats 4000000
set_option autoImplicit false
/-! enumerate(t) of a tuple. -/
namespace Fj
open PySem PySem.Spec PyProof.Rows L2
open AutoSeq1 (wpAny_loadPart')
theorem meets_enumT (l : Addr) (items : Array Value) (n : Nat) (dct : Option Addr) (sl : Array (Option Value)) :
    Meets (Builtin.«enumerate.__new__» ⟨[.type "enumerate", .ref l], []⟩) (fun _ R s => s.heap.get? l = some { cls := .type "tuple", dict := dct, data := .seq items n, slots := sl } ∧
      R (.ok (.ret (.ref (s.heap.push { cls := .type "tuple_iterator", data := .fields #[.ref l, .int 0 0] }).objs.size)))
        { s with heap := (s.heap.push { cls := .type "tuple_iterator", data := .fields #[.ref l, .int 0 0] }).push { cls := .type "enumerate", data := .fields #[.none, .bool false, .ref s.heap.objs.size, rawInt 0, .none, .none] } }) :=
  .of_wp fun prog w A R s h => by
    obtain ⟨hp, g, d, tk, os⟩ := s; obtain ⟨hl, h⟩ := h
    have hsub := sub_enumerate
    have hL : Heap.IsTuple (Shared.heap ⟨hp, g, d, tk, os⟩) l items := ⟨_, hl, rfl, n, rfl⟩
    wp_walk using wpAny_loadPart' hl
    refine wpAny_stack_any fun st => wpAny_pure ?_
    split
    · rename_i c _ _ _ _ _
      cases (c == Value.type "enumerate")
      · wp_walk using wpAny_loadPart' hl, wpAny_pyIter_tuple hL
        exact ⟨_, rfl, h⟩
      · wp_walk using wpAny_loadPart' hl, wpAny_pyIter_tuple hL
        exact ⟨_, rfl, h⟩
    · wp_walk using wpAny_loadPart' hl, wpAny_pyIter_tuple hL
      exact ⟨_, rfl, h⟩
section
variable {prog : Program} {w : World} {A : Around} {E : Value → Shared → Prop} {s : Shared}
theorem call_enumT {l : Addr} {items : Array Value} {Q : Value → Shared → Prop} (hL : s.heap.IsTuple l items)
    (h : ∀ h', IsEnum h' (s.heap.objs.size + 1) s.heap.objs.size 0 .none → h'.IsTupleIter s.heap.objs.size l 0 → h'.objs.size = s.heap.objs.size + 2 →
      (∀ b o, s.heap.get? b = some o → h'.get? b = some o) → Q (.ref (s.heap.objs.size + 1)) { s with heap := h' }) :
    wpAny (model prog w) A (call (.type "enumerate") [.ref l]) Q E s := by
  obtain ⟨⟨c, dct, dt, sl⟩, hl, hc, n, hd⟩ := hL
  replace hc : c = .type "tuple" := hc
  replace hd : dt = .seq items n := hd
  subst hc hd
  refine callType_new F.called_enumerate (by decide) (F.typeCall_enumerate_1 _) (F.newCall_enumerate_1 _) (fun obj => F.args_object_init_2 obj _) F.entry_enumerate_new
    (meets_enumT l items n dct sl) ⟨hl, ?_⟩
  have hz : (s.heap.push { cls := .type "tuple_iterator", data := .fields #[.ref l, .int 0 0] }).objs.size = s.heap.objs.size + 1 := Heap.size_push ..
  show _ ∧ _
  rw [hz]
  have he : IsEnum ((s.heap.push { cls := .type "tuple_iterator", data := .fields #[.ref l, .int 0 0] }).push
      { cls := .type "enumerate", data := .fields #[.none, .bool false, .ref s.heap.objs.size, rawInt 0, .none, .none] }) (s.heap.objs.size + 1) s.heap.objs.size 0 .none := by
    have := Heap.get?_push_size (s.heap.push { cls := .type "tuple_iterator", data := .fields #[.ref l, .int 0 0] })
      (o := { cls := .type "enumerate", data := .fields #[.none, .bool false, .ref s.heap.objs.size, rawInt 0, .none, .none] }) rfl
    rw [hz] at this; exact this
  refine ⟨⟨_, he, rfl⟩, h _ he ⟨_, Heap.get?_push_of_some _ (Heap.get?_push_size _ rfl), rfl, rfl⟩ (by rw [Heap.size_push, hz]) fun b o x => Heap.get?_push_of_some _ (Heap.get?_push_of_some _ x)⟩
end
/-- the tuple at a, each item in a new pair -/
def IteT (K : PySem.W.Frag) (a : Addr) : It :=
  ⟨fun i H => ∃ (xs : List V) (x : V), SqT K H a xs ∧ xs[i]? = some x, fun i H v H' => ∃ T x, v = .ref T ∧ H T = none ∧ H' = upd H T (.tup [.int (i : Nat), x]) ∧ ∀ xs, SqT K H a xs → xs[i]? = some x, fun i H => ∃ xs : List V, SqT K H a xs ∧ xs.length ≤ i⟩
theorem turn_enumT {P : Program} {w : World} {K : PySem.W.Frag} {elts : List Expr} {kk : Nat} {tpos : Pos} (a e it : Addr) :
    Turn P w K (.Tuple elts kk tpos) (IteT K a) [e, it] e (fun i h => (∃ old, IsEnum h e it ((i : Nat) : Int) old) ∧ h.IsTupleIter it a i ∧ e ≠ it ∧ a ≠ it ∧ e ≠ a) where
  mem := by simp
  obj := fun i h st b hb => by
    obtain ⟨⟨old, he⟩, ⟨o, ho, hc, hd⟩, _⟩ := st
    have e' : b = e ∨ b = it := by simpa using hb
    rcases e' with z | z
    · rw [z]; exact ⟨_, he, fun v q => nomatch q⟩
    · rw [z]; exact ⟨o, ho, fun v q => by rw [hd] at q; cases q⟩
  keep := fun i h h' st k => let ⟨⟨old, he⟩, hi, hne, hne2⟩ := st; ⟨⟨old, k e (by simp) _ he⟩, hi.at fun o q => k it (by simp) o q, hne, hne2⟩
  item := by
    intro X hP hw hK hc i pins s σ H E I hf st hg
    subst hP hw hK
    obtain ⟨⟨old, he⟩, hit, hne, hai, hea⟩ := st
    obtain ⟨xs, x, hq, hx⟩ := hg
    obtain ⟨its, rv, p, hz⟩ := I.tuple hq
    obtain ⟨u, hu, ru⟩ := rv.get hx
    have hel : e < s.heap.objs.size := Heap.lt_size he
    have hil : it < s.heap.objs.size := by obtain ⟨_, q, _⟩ := hit; exact Heap.lt_size q
    have hlt : i < its.toArray.size := by
      rcases Nat.lt_or_ge i its.length with z | z
      · simpa using z
      · rw [List.getElem?_eq_none z] at hu; exact nomatch hu
    have hea' : e ∉ [it, a] := by simp [hne, hea]
    refine wpAny_pyNext_enum_itemD (Draws.tuple (A := X.A.in1) (I.ok.hd hc) it a hai its.toArray) he ⟨hit, p⟩ hlt hne hea' fun u' h' tk hu' ho hit' hT hsz hk => ?_
    have eu : u' = u := by
      have z : its.toArray[i]? = some u' := hu'
      rw [List.getElem?_toArray, hu] at z
      exact (Option.some.inj z).symm
    subst eu
    refine ⟨_, rfl, wpAny_letOwnedTupleGo_enum (s := { s with heap := h', toks := tk + 1 }) ho fun h'' he' sb => ?_⟩
    have hT2 : h''.get? s.heap.objs.size = some { cls := .type "tuple", data := .seq #[.int i tk, u'] } := (sb.2 _ (Nat.ne_of_gt hel)).trans hT
    have new : ObjOk X.prog X.w (upd H s.heap.objs.size (.tup [.int (i : Nat), x])) h'' s.heap.objs.size (.tup [.int (i : Nat), x]) :=
      ⟨by show 2 ≤ sizeLine; decide, [.int i tk, u'], .cons ⟨_, rfl⟩ (.cons ru .nil), ⟨_, hT2, rfl, _, rfl⟩⟩
    have I1 : Inv X pins σ (upd H s.heap.objs.size (.tup [.int (i : Nat), x])) { s with heap := h'', toks := tk + 1 } :=
      I.turnedNew (ch := [e, it]) (fun b ob hb q => (sb.2 b (fun z => hb (by simp [z]))).trans (hk b ob (fun z => hb (by simp [z])) (fun z => hb (by simp [z])) q)) hf (Nat.le_refl _) new
    refine ⟨.ref s.heap.objs.size, _, I1, rfl, ⟨_, x, rfl, I.hok.fresh (Nat.le_refl _), rfl, fun ys hy => ?_⟩, ⟨⟨u', ?_⟩, hit'.1.at fun o q => (sb.2 it (Ne.symm hne)).trans q, hne, hai, hea⟩, fun b hb => ?_⟩
    · rw [I.tuple_inj hy hq]
      exact hx
    · have e1 : ((i + 1 : Nat) : Int) = (i : Int) + 1 := by omega
      rw [e1]; exact he'
    · have hb' : b < s.heap.objs.size := by
        have e' : b = e ∨ b = it := by simpa using hb
        rcases e' with z | z
        · rw [z]; exact hel
        · rw [z]; exact hil
      rw [upd_ne (Nat.ne_of_lt hb')]
      exact (hf b hb).1
  done := by
    intro X hP hw hK hc i pins s σ H E I hf st hg
    subst hP hw hK
    obtain ⟨⟨old, he⟩, hit, hne, hai, hea⟩ := st
    obtain ⟨xs, hq, hx⟩ := hg
    obtain ⟨its, rv, p, hz⟩ := I.tuple hq
    obtain ⟨f0, f1, f2, f3, f4, f5⟩ := hf it (by simp)
    have hl := rv.length
    have hT : s.TypeIs (.ref e) "enumerate" := ⟨_, he, rfl⟩
    unfold pyNext
    refine wpAny_bind (wpAny_attempt (wpAny_callSpecial?_slot (name := Str.ofString "__next__") hT F.slot_enumerate_next
      (wpAny_call_entry F.slot_enumerate_next hT F.entry_enumerate_next ?_ (F.args_enumerate_next_1 _))))
    show wpAny _ _ (field (.ref e) 2 >>= _) _ _ _
    refine wpAny_bind (wpAny_field he rfl (x := .ref it) rfl ?_)
    refine wpAny_bind (wpAny_nextOf_tuple_end (I.ok.hd hc) hit p (by simp; omega) fun h' x eb hx' => ?_)
    obtain ⟨o, ho, hcc⟩ := hx'
    refine wpAny_bind (wpAny_isInstance (T := "StopIteration") (b := true) ⟨o, ho, hcc⟩ isSubtype_stop ?_)
    exact wpAny_pure ⟨rfl, I.turned (t' := s.toks) (fun b o hb q => eb b o hb q) f0 f1 f3 f4 f5⟩
  self := fun A i s Q E st h => let ⟨⟨_, he⟩, _⟩ := st; wpAny_pyIter_enum he h
def iEnumT (K : PySem.W.Frag) (ta : TA) : TI := fun σ H R => ta σ H fun vs H1 => ∃ a xs, vs = [.ref a] ∧ ((SqL K H1 a xs ∧ R (Ite K a) H1) ∨ (SqT K H1 a xs ∧ R (IteT K a) H1))
theorem pi_enumT {X : Cx} {e : Expr} {ta : TA} {p pos tpos : Pos} {elts : List Expr} {kk : Nat} (hg : Gl X "enumerate") (hm : X.mg "enumerate" = none) (ha : PA X [e] ta) (hs : starEach [e] X.env = [(false, eval e X.env)] := by rfl) :
    PI X (.Tuple elts kk tpos) (.Call (.Name "enumerate" p) [e] [] pos) (iEnumT X.K ta) := by
  refine ⟨fun pins s σ H R I h => ?_⟩
  refine Call_ (ld_blt I hg hm boot_enumerate (PyProof.Rows.callWith_type1 (thn (ha.run pos pins s σ H _ I h) fun us s1 ⟨vs, H1, I1, r1, q1⟩ => ?_) hs rfl))
  obtain ⟨a, xs, ex, hq⟩ := q1
  subst ex
  cases r1 with
  | cons r rr =>
    cases rr
    cases r
    have fps : ∀ b ∈ [s1.heap.objs.size + 1, s1.heap.objs.size], FpOk X pins H1 b := fun b hb => by
      have e' : b = s1.heap.objs.size + 1 ∨ b = s1.heap.objs.size := by simpa using hb
      have hle : s1.heap.objs.size ≤ b := by
        rcases e' with z | z
        · rw [z]; exact Nat.le_add_right _ _
        · rw [z]; exact Nat.le_refl _
      exact I1.fpOk hle (I1.hok.fresh hle)
    rcases hq with ⟨hq, q⟩ | ⟨hq, q⟩
    · obtain ⟨its, rv, p', hz⟩ := I1.list hq
      refine call_enumerate_list p'.isList fun h' he hit hsz hk => wpAny_pyIter_enum he ?_
      have I2 : Inv X pins σ H1 { s1 with heap := h' } := I1.kept (t' := s1.toks) hk
      exact ⟨s1.heap.objs.size + 1, [s1.heap.objs.size + 1, s1.heap.objs.size], _, _, H1, rfl, I2, turn_enum a (s1.heap.objs.size + 1) s1.heap.objs.size, ⟨⟨.none, he⟩, hit, Nat.succ_ne_self _⟩, fps, q⟩
    · obtain ⟨its, rv, p', hz⟩ := I1.tuple hq
      have hal : a < s1.heap.objs.size := by obtain ⟨_, q, _⟩ := p'; exact Heap.lt_size q
      refine call_enumT p' fun h' he hit hsz hk => wpAny_pyIter_enum he ?_
      have I2 : Inv X pins σ H1 { s1 with heap := h' } := I1.kept (t' := s1.toks) hk
      exact ⟨s1.heap.objs.size + 1, [s1.heap.objs.size + 1, s1.heap.objs.size], _, _, H1, rfl, I2, turn_enumT a (s1.heap.objs.size + 1) s1.heap.objs.size, ⟨⟨.none, he⟩, hit, Nat.succ_ne_self _, Nat.ne_of_lt hal, Nat.ne_of_gt (Nat.lt_succ_of_lt hal)⟩, fps, q⟩
section
variable {K : PySem.W.Frag} {c : Ct}
theorem walk_enumT {a : Addr} {ds : List PyData} : Walk K c (IteT K a) [(.ref a, .val (.tuple ds))] (enumD 0 ds) := fun σ ρ T H r i => by
  obtain ⟨F, fp, f⟩ := r
  have f : RelF K c σ ρ ((.ref a, .val (.tuple ds)) :: T) H F fp := f
  obtain ⟨p, us, e, h1, h2⟩ := f.top.tupAt
  cases e
  have hq : SqT K H a us := same_tup f.fh h1
  refine ⟨fun d hd => ?_, fun hl => ⟨us, hq, by rw [h2.length, ← enumD_length ds 0]; exact hl⟩⟩
  rw [enumD_get, Nat.zero_add] at hd
  obtain ⟨d0, hd0, rfl⟩ := Option.map_eq_some_iff.mp hd
  obtain ⟨v, hv, rv⟩ := h2.get hd0
  refine ⟨⟨us, v, hq, hv⟩, fun x H' y => ?_⟩
  obtain ⟨tt, x', rfl, ht, rfl, y⟩ := y
  have := y us hq
  rw [hv] at this
  cases this
  exact f.tupNew ht (.cons (.int _) (.cons rv .nil))
end
section
variable {Y : Fam} {e : Expr} {p pos tpos : Pos}
/-- enumerate(xs), a list's or a tuple's -/
def mEnum2 (n : MA) : MI := fun ρ => match n ρ with
  | some ([.list ds], ρ) => some (enumD 0 ds, ρ)
  | some ([.tuple ds], ρ) => some (enumD 0 ds, ρ)
  | _ => none
theorem i_enum2 {n : MA} {elts : List Expr} {kk : Nat} (ha : JA Y [e] n) (hm : Y.mg "enumerate" = none) (hg : ∀ j, Gl (Y.X j) "enumerate" := by intro _; rfl) (hs : ∀ j, starEach [e] (Y.X j).env = [(false, eval e (Y.X j).env)] := by intro _; rfl) : JI Y (.Tuple elts kk tpos) (.Call (.Name "enumerate" p) [e] [] pos) (mEnum2 n) := by
  obtain ⟨t, pa, s⟩ := ha
  refine ⟨iEnumT Y.K t, fun j => by rw [← Y.hK j]; exact pi_enumT (hg j) (by rw [Y.hmg j]; exact hm) (pa j) (hs j), fun c σ ρ T H R re q => s c σ ρ T H _ re ?_⟩
  unfold mEnum2 at q
  split at q
  · rename_i ds ρ1 hn
    rw [hn]
    intro vs H1 hl r1
    obtain ⟨v, rfl⟩ := len1 hl
    obtain ⟨F, fp, f⟩ := r1
    have f : RelF Y.K c σ ρ1 ((v, .val (.list ds)) :: T) H1 F fp := f
    obtain ⟨p, us, rfl, h1, h2⟩ := f.top.lstAt
    exact ⟨p, us, rfl, .inl ⟨.inl (.inl (f.fh _ _ h1)), q _ _ _ walk_enum ⟨F, fp, f⟩⟩⟩
  · rename_i ds ρ1 hn
    rw [hn]
    intro vs H1 hl r1
    obtain ⟨v, rfl⟩ := len1 hl
    obtain ⟨F, fp, f⟩ := r1
    have f : RelF Y.K c σ ρ1 ((v, .val (.tuple ds)) :: T) H1 F fp := f
    obtain ⟨p, us, rfl, h1, h2⟩ := f.top.tupAt
    exact ⟨p, us, rfl, .inr ⟨same_tup f.fh h1, q _ _ _ walk_enumT ⟨F, fp, f⟩⟩⟩
  · exact q.elim
end
end Fj

set_option Elab.async false
set_option linter.all false
set_option maxRecDepth 100000
set_option maxHeartbeats 4000000
set_option autoImplicit false
/-! The least of rows of numbers. -/
namespace Fj
open PySem PySem.Spec PyProof.Rows L2
def minRow (n : List Int) (ns : List (List Int)) : List Int := ns.foldl (fun a y => if HT.lexLt y a = true then y else a) n
theorem lt_row : ∀ a b : List Int, decide (a < b) = HT.lexLt a b
  | [], [] => by simp [HT.lexLt]
  | [], y :: ys => by simp [HT.lexLt]
  | x :: xs, [] => by simp [HT.lexLt]
  | x :: xs, y :: ys => by
    rw [HT.lexLt_cons, ← lt_row xs ys]
    by_cases h : x = y
    · subst h
      rw [if_pos rfl]
      exact decide_eq_decide.mpr (by rw [List.cons_lt_cons_iff]; simp)
    · rw [if_neg h]
      exact decide_eq_decide.mpr (by rw [List.cons_lt_cons_iff]; simp [h])
theorem dataLt_row (a b : List Int) : PySem.W.dataLt (tupI a) (tupI b) = HT.lexLt a b := by
  rw [PySem.W.dataLt_tuple, ← lt_row]
  exact PySem.W.dataLt_ints a b
theorem minD_row : ∀ (ns : List (List Int)) (n : List Int), PySem.W.minD (tupI n) (ns.map tupI) = tupI (minRow n ns)
  | [], n => rfl
  | y :: ns, n => by
    have ih := minD_row ns (if HT.lexLt y n = true then y else n)
    unfold PySem.W.minD at ih ⊢
    rw [List.map_cons, List.foldl_cons, dataLt_row]
    have e : (if HT.lexLt y n = true then tupI y else tupI n) = tupI (if HT.lexLt y n = true then y else n) := by split <;> rfl
    rw [e]
    exact ih
theorem alike_row : ∀ a b : List Int, PySem.W.alikeAll (a.map .int) (b.map .int) = true
  | [], b => by
    cases b <;> simp [PySem.W.alikeAll]
  | x :: xs, [] => by simp [PySem.W.alikeAll]
  | x :: xs, y :: ys => by
    have := alike_row xs ys
    simp [PySem.W.alikeAll, PySem.W.alike, this]
theorem alike_rows (nss : List (List Int)) : PySem.W.AlikeAll (nss.map tupI) := by
  refine ⟨fun x hx y hy => ?_, fun x hx => ?_⟩
  · obtain ⟨a, _, rfl⟩ := List.mem_map.mp hx
    obtain ⟨b, _, rfl⟩ := List.mem_map.mp hy
    show PySem.W.alike (.tuple _) (.tuple _) = true
    unfold PySem.W.alike
    exact alike_row a b
  · obtain ⟨a, _, rfl⟩ := List.mem_map.mp hx
    intro z
    cases z
theorem lay_row (a : List Int) : PyData.canLay0 (tupI a) = true := by
  show PyData.canLay0 (.tuple _) = true
  unfold PyData.canLay0
  exact canLay_ints a
theorem lay_rows : ∀ nss : List (List Int), PyData.canLayAll0 (nss.map tupI) = true
  | [] => by simp [PyData.canLayAll0]
  | n :: nss => by
    rw [List.map_cons]
    unfold PyData.canLayAll0
    rw [lay_row, lay_rows nss]
    rfl
theorem depth_rows : ∀ nss : List (List Int), PyData.depthAll (nss.map tupI) ≤ 1
  | [] => Nat.zero_le _
  | n :: nss => by
    have := depth_rows nss
    rw [List.map_cons]
    unfold PyData.depthAll
    have e : PyData.depth (tupI n) = 1 := by
      show PyData.depth (.tuple _) = 1
      unfold PyData.depth
      rw [depth_ints]
    omega
def rMinT (K : PySem.W.Frag) : List V → Hp → VK → Prop := fun vs H Q => ∃ (a : Addr) (xs : List V) (n : List Int) (ns : List (List Int)), vs = [V.ref a] ∧ SqL K H a xs ∧ DpAll K H xs ((n :: ns).map tupI) ∧ ∀ x ∈ xs, (∀ m, TupI K H x m → m = minRow n ns) → Q x H
theorem cr_minT {X : Cx} (hc : X.calm = true) (hu : X.A.units + 65 < cLine) : CallR X (.builtin "min") (rMinT X.K) := by
  intro pins s σ H vs us Q I r h
  obtain ⟨a, xs, n, ns, rfl, hs, hx, q⟩ := h
  obtain ⟨its, rv, hl, hz⟩ := I.list hs
  rw [Vals.ref1 r]
  obtain ⟨as, hr⟩ := Dp.readsAll I _ _ its hx rv
  have hd := depth_rows (n :: ns)
  refine PySem.W.min_list_data (x := tupI n) (xs := ns.map tupI) (I.ok.hd hc) hl.isList (by simpa using hr) (alike_rows (n :: ns)) (by show X.A.units + 1 + PyData.depthAll ((n :: ns).map tupI) < cLine; omega) fun i v h' tk bs hv hread hk => ?_
  rw [minD_row] at hread
  have hv : its[i]? = some v := by simpa using hv
  have hi : i < xs.length := by
    rw [rv.length]
    exact (List.getElem?_eq_some_iff.mp hv).1
  obtain ⟨u, hu1, hu2⟩ := rv.get (List.getElem?_eq_getElem hi)
  rw [hv] at hu1
  cases hu1
  refine ⟨xs[i], H, I.kept (t' := tk) hk, hu2, q _ (List.getElem_mem ..) fun m hm => ?_⟩
  obtain ⟨t, et, ht⟩ := hm
  rw [et] at hu2
  have ev : v = Value.ref t := hu2
  subst ev
  have I' := I.kept (t' := tk) hk
  have hdp : Dp X.K H (.ref t) (tupI m) := .tup ht (by
    clear ht
    induction m with
    | nil => exact .nil
    | cons y m ih => exact .cons (.int y) ih)
  obtain ⟨as2, hr2⟩ := Dp.reads I' (tupI m) (.ref t) (.ref t) hdp rfl
  have e := (hr2.unique _ _ hread).1
  injection e with e
  have := congrArg intsD e
  rw [intsD_map, intsD_map] at this
  exact Option.some.inj this
/-- min of one list -/
def gMin1 : List PyData → Option Ent
  | [.list ds] => match tupsD ds with
    | some (n :: ns) => some (.val (tupI (minRow n ns)))
    | _ => none
  | _ => none
section
variable {Y : Fam}
theorem c_min1 : CallJ Y (.builtin "min") gMin1 := by
  refine ⟨rMinT Y.K, fun j => by rw [← Y.hK j]; exact cr_minT (Y.calm j) (units65 (Y.room j)), fun c σ ρ T H vs ds z Q hl r e q => ?_⟩
  unfold gMin1 at e
  split at e
  · split at e
    · rename_i n ns hn
      cases e
      have := tupsD_eq hn
      subst this
      obtain ⟨v, rfl⟩ := len1 hl
      obtain ⟨F, fp, f⟩ := r
      have f : RelF Y.K c σ ρ ((v, .val (.list ((n :: ns).map tupI))) :: T) H F fp := f
      obtain ⟨p, us, rfl, h1, h2⟩ := f.top.lstAt
      have hul : us.length = (n :: ns).length := by rw [h2.length, List.length_map]
      refine ⟨p, us, n, ns, rfl, .inl (.inl (f.fh _ _ h1)), (Rps.mono f.fh h2).dp (lay_rows _), fun x hx hm => ?_⟩
      obtain ⟨k, hk, e⟩ := List.getElem_of_mem hx
      have hd' : ((n :: ns).map tupI)[k]? = some (tupI ((n :: ns)[k]'(by omega))) := by
        rw [List.getElem?_map, List.getElem?_eq_getElem (by omega : k < (n :: ns).length)]
        rfl
      obtain ⟨x', hx', rx⟩ := h2.get hd'
      rw [List.getElem?_eq_getElem hk, e] at hx'
      cases hx'
      obtain ⟨t, et, ht⟩ := id rx.tupI
      have em := hm _ ⟨t, et, same_tup f.fh ht⟩
      rw [em] at rx
      exact q _ _ ⟨F, fp, f.popV.push rx⟩
    · cases e
  · cases e
end
end Fj

set_option Elab.async false
set_option linter.all false
set_option maxRecDepth 100000
set_option maxHeartbeats 4000000
set_option autoImplicit false
/-! Mirrors by what holds behind them. -/
namespace Fj
open PySem PySem.Spec PyProof.Rows L2

def ownOf : Ent → Option (Bool × Cell)
  | .own fr ce => some (fr, ce)
  | _ => none
def lstOf : Ent → Option (Bool × List PyData)
  | .own fr (.lst ds) => some (fr, ds)
  | _ => none
def dkOf (s : Nat) : Ent → Option (Bool × List Int × Int × Int)
  | .own fr (.deck s' l m t) => if s' = s then some (fr, l, m, t) else none
  | _ => none
def outOf : List Ent → Option Cell
  | .own false ce :: _ => some ce
  | _ => none
def listOf : PyData → Option (List PyData)
  | .list ds => some ds
  | _ => none
def intOf : PyData → Option Int
  | .int i => some i
  | _ => none
def boolOf : PyData → Option Bool
  | .bool b => some b
  | _ => none
def valOf : Ent → Option PyData
  | .val d => some d
  | _ => none
def scrOf : Ent → Option (List Int)
  | .scr ns => some ns
  | _ => none
def rowOf : PyData → Option (List PyData)
  | .list ds => some ds
  | .tuple ds => some ds
  | _ => none
def walkOf : PyData → Option (List PyData)
  | .list ds => some ds
  | .tuple ds => some ds
  | .str x => some (signsD x)
  | _ => none
/-- what a simplifier leaves alone -/
inductive Hid {α : Sort 1} (q : α) : Type where
  | mk : Hid q
def W {α β : Type} (r : Option (α × β)) (Q : α → β → Prop) (_ : Hid Q := .mk) : Prop := match r with
  | some (a, b) => Q a b
  | none => False
def W1 {α : Type} (r : Option α) (Q : α → Prop) (_ : Hid Q := .mk) : Prop := match r with
  | some a => Q a
  | none => False
theorem W_fn {α β : Type} {r : Option (α × β)} {Q Q' : α → β → Prop} (h : ∀ a b, Q a b = Q' a b) : W r Q = W r Q' := by
  rw [show Q = Q' from funext fun a => funext fun b => h a b]
theorem W1_fn {α : Type} {r : Option α} {Q Q' : α → Prop} (h : ∀ a, Q a = Q' a) : W1 r Q = W1 r Q' := by
  rw [show Q = Q' from funext fun a => h a]
theorem W.mono {α β : Type} {r : Option (α × β)} {Q Q' : α → β → Prop} (h : W r Q) (q : ∀ a b, Q a b → Q' a b) : W r Q' := by
  cases r with
  | none => exact h
  | some p => exact q _ _ h
theorem W1.mono {α : Type} {r : Option α} {Q Q' : α → Prop} (h : W1 r Q) (q : ∀ a, Q a → Q' a) : W1 r Q' := by
  cases r with
  | none => exact h
  | some p => exact q _ h
theorem W.at_ {α β : Type} {r : Option (α × β)} {Q : α → β → Prop} (h : W r Q) : ∃ a b, r = some (a, b) ∧ Q a b := by
  cases r with
  | none => exact h.elim
  | some p => exact ⟨_, _, rfl, h⟩
theorem W1.at_ {α : Type} {r : Option α} {Q : α → Prop} (h : W1 r Q) : ∃ a, r = some a ∧ Q a := by
  cases r with
  | none => exact h.elim
  | some p => exact ⟨_, rfl, h⟩
structure IfB (b : Bool) (X Y : Prop) (_ : Hid X := .mk) (_ : Hid Y := .mk) : Prop where
  mk ::
  t : b = true → X
  f : b = false → Y
theorem eq_t (p q : Prop) : p = IfB true p q := propext ⟨fun h => ⟨fun _ => h, (fun z => by cases z)⟩, fun h => h.t rfl⟩
theorem eq_f (p q : Prop) : q = IfB false p q := propext ⟨fun h => ⟨(fun z => by cases z), fun _ => h⟩, fun h => h.f rfl⟩
theorem IfB_true {X Y : Prop} : IfB true X Y = X := (eq_t X Y).symm
theorem IfB_false {X Y : Prop} : IfB false X Y = Y := (eq_f X Y).symm
section
variable {α β : Type} {ρ : En} {Q : PyData → En → Prop} {R : Bool → En → Prop} {S : Ent → En → Prop} {Z : Fl → Prop} {A : List PyData → En → Prop}
theorem W_some {a : α} {b : β} {Q : α → β → Prop} : W (some (a, b)) Q = Q a b := rfl
theorem W_none {Q : α → β → Prop} : W (none : Option (α × β)) Q = False := rfl
theorem W1_some {a : α} {Q : α → Prop} : W1 (some a) Q = Q a := rfl
theorem W1_none {Q : α → Prop} : W1 (none : Option α) Q = False := rfl
theorem W_ite {c : Prop} [Decidable c] {x y : Option (α × β)} {Q : α → β → Prop} : W (if c then x else y) Q = ((c → W x Q) ∧ (¬ c → W y Q)) := by
  by_cases h : c
  · rw [if_pos h]
    exact propext ⟨fun z => ⟨fun _ => z, fun w => absurd h w⟩, fun z => z.1 h⟩
  · rw [if_neg h]
    exact propext ⟨fun z => ⟨fun w => absurd w h, fun _ => z⟩, fun z => z.2 h⟩
theorem W1_ite {c : Prop} [Decidable c] {x y : Option α} {Q : α → Prop} : W1 (if c then x else y) Q = ((c → W1 x Q) ∧ (¬ c → W1 y Q)) := by
  by_cases h : c
  · rw [if_pos h]
    exact propext ⟨fun z => ⟨fun _ => z, fun w => absurd h w⟩, fun z => z.1 h⟩
  · rw [if_neg h]
    exact propext ⟨fun z => ⟨fun w => absurd w h, fun _ => z⟩, fun z => z.2 h⟩
theorem W1_if {c : Prop} [Decidable c] {x : α} {Q : α → Prop} : W1 (if c then some x else none) Q = (c ∧ Q x) := by
  by_cases h : c
  · rw [if_pos h]
    exact propext ⟨fun z => ⟨h, z⟩, fun z => z.2⟩
  · rw [if_neg h]
    exact propext ⟨fun z => z.elim, fun z => absurd z.1 h⟩
theorem w_C {d : PyData} : W (mC d ρ) Q = Q d ρ := rfl
theorem w_var {i : Nat} : W (mVar i ρ) Q = W1 ρ[i]? fun e => W1 (valOf e) fun d => Q d ρ := by
  unfold mVar
  cases h : ρ[i]? with
  | none => rfl
  | some e => cases e <;> rfl
theorem w_fz {m : MO} : W (mFz m ρ) Q = W (m ρ) fun e ρ => W1 (fz e) fun d => Q d ρ := by
  unfold mFz
  cases m ρ with
  | none => rfl
  | some p =>
    obtain ⟨e, ρ⟩ := p
    show W ((fz e).map fun d => (d, ρ)) Q = W1 (fz e) _
    cases fz e <;> rfl
theorem w_val {m : MV} : W (mVal m ρ) S = W (m ρ) fun d ρ => S (.val d) ρ := by
  unfold mVal
  cases m ρ <;> rfl
theorem w_bin {g : PyData → PyData → Option PyData} {a b : MV} : W (mBin g a b ρ) Q = W (a ρ) fun x ρ => W (b ρ) fun y ρ => W1 (g x y) fun z => Q z ρ := by
  unfold mBin
  cases a ρ with
  | none => rfl
  | some p =>
    obtain ⟨x, ρ⟩ := p
    show W (match b ρ with
      | none => none
      | some (y, ρ) => (g x y).map fun z => (z, ρ)) Q = W (b ρ) _
    cases b ρ with
    | none => rfl
    | some p =>
      obtain ⟨y, ρ⟩ := p
      show W ((g x y).map fun z => (z, ρ)) Q = W1 (g x y) _
      cases g x y <;> rfl
theorem w_test {m : MV} : W (mTest m ρ) R = W (m ρ) fun d ρ => W1 (boolOf d) fun b => R b ρ := by
  unfold mTest
  cases m ρ with
  | none => rfl
  | some p =>
    obtain ⟨d, ρ⟩ := p
    cases d <;> rfl
theorem w_tnot {m : MT} : W (mTNot m ρ) R = W (m ρ) fun b ρ => R (!b) ρ := by
  unfold mTNot
  cases m ρ <;> rfl
theorem w_tand {m n : MT} : W (mTAnd m n ρ) R = W (m ρ) fun b ρ => IfB b (W (n ρ) R) (R false ρ) := by
  unfold mTAnd
  cases m ρ with
  | none => rfl
  | some p =>
    obtain ⟨b, ρ⟩ := p
    cases b <;> first | exact eq_t _ _ | exact eq_f _ _
theorem w_tor {m n : MT} : W (mTOr m n ρ) R = W (m ρ) fun b ρ => IfB b (R true ρ) (W (n ρ) R) := by
  unfold mTOr
  cases m ρ with
  | none => rfl
  | some p =>
    obtain ⟨b, ρ⟩ := p
    cases b <;> first | exact eq_t _ _ | exact eq_f _ _
theorem w_not {m : MV} : W (mNot m ρ) Q = W (m ρ) fun d ρ => W1 (boolOf d) fun b => Q (.bool (!b)) ρ := by
  unfold mNot
  cases m ρ with
  | none => rfl
  | some p =>
    obtain ⟨d, ρ⟩ := p
    cases d <;> rfl
theorem w_andV {m n : MV} : W (mAnd m n ρ) Q = W (m ρ) fun d ρ => W1 (boolOf d) fun b => IfB b (W (n ρ) Q) (Q (.bool false) ρ) := by
  unfold mAnd
  cases m ρ with
  | none => rfl
  | some p =>
    obtain ⟨d, ρ⟩ := p
    cases d with
    | bool b => cases b <;> first | exact eq_t _ _ | exact eq_f _ _
    | _ => rfl
theorem w_orV {m n : MV} : W (mOr m n ρ) Q = W (m ρ) fun d ρ => W1 (boolOf d) fun b => IfB b (Q (.bool true) ρ) (W (n ρ) Q) := by
  unfold mOr
  cases m ρ with
  | none => rfl
  | some p =>
    obtain ⟨d, ρ⟩ := p
    cases d with
    | bool b => cases b <;> first | exact eq_t _ _ | exact eq_f _ _
    | _ => rfl
theorem w_if {t : MT} {m n : En → Option (α × β)} {Q : α → β → Prop} : W (mIf t m n ρ) Q = W (t ρ) fun b ρ => IfB b (W (m ρ) Q) (W (n ρ) Q) := by
  unfold mIf
  cases t ρ with
  | none => rfl
  | some p =>
    obtain ⟨b, ρ⟩ := p
    cases b <;> first | exact eq_t _ _ | exact eq_f _ _
theorem w_ifS {t : MT} {m n : MS} : W1 (mIf t m n ρ) Z = W (t ρ) fun b ρ => IfB b (W1 (m ρ) Z) (W1 (n ρ) Z) := by
  unfold mIf
  cases t ρ with
  | none => rfl
  | some p =>
    obtain ⟨b, ρ⟩ := p
    cases b <;> first | exact eq_t _ _ | exact eq_f _ _
theorem w_chain {g g' : PyData → PyData → Option PyData} {a b c : MV} : W (mChain g g' a b c ρ) Q = W (a ρ) fun x ρ => W (b ρ) fun y ρ => W1 (g x y) fun r => W1 (boolOf r) fun k => IfB k (W (c ρ) fun z ρ => W1 (g' y z) fun r => Q r ρ) (Q (.bool false) ρ) := by
  unfold mChain
  cases a ρ with
  | none => rfl
  | some p =>
    obtain ⟨x, ρ⟩ := p
    simp only [W_some]
    cases b ρ with
    | none => rfl
    | some p =>
      obtain ⟨y, ρ⟩ := p
      simp only [W_some]
      cases g x y with
      | none => rfl
      | some r =>
        cases r with
        | bool k =>
          cases k with
          | false => exact propext ⟨fun h => ⟨(fun z => by cases z), fun _ => h⟩, fun h => h.2 rfl⟩
          | true =>
            refine propext ⟨fun h => ⟨fun _ => ?_, (fun z => by cases z)⟩, fun h => ?_⟩
            · cases hc : c ρ with
              | none => rw [hc] at h; exact h
              | some p =>
                rw [hc] at h
                obtain ⟨z, ρ⟩ := p
                simp only [W_some] at h ⊢
                cases hg : g' y z with
                | none => rw [hg] at h; exact h
                | some r => rw [hg] at h; exact h
            · have h := h.1 rfl
              cases hc : c ρ with
              | none => rw [hc] at h; exact h
              | some p =>
                rw [hc] at h
                obtain ⟨z, ρ⟩ := p
                simp only [W_some] at h ⊢
                cases hg : g' y z with
                | none => rw [hg] at h; exact h
                | some r => rw [hg] at h; exact h
        | _ => rfl
theorem w_nil : W (mNil ρ) A = A [] ρ := rfl
theorem w_cons {m : MV} {n : MA} : W (mCons m n ρ) A = W (m ρ) fun d ρ => W (n ρ) fun ds ρ => A (d :: ds) ρ := by
  unfold mCons
  cases m ρ with
  | none => rfl
  | some p =>
    obtain ⟨d, ρ⟩ := p
    simp only [W_some]
    cases n ρ <;> rfl
theorem w_tup {n : MA} : W (mTup n ρ) Q = W (n ρ) fun ds ρ => ds.length ≤ 100000 ∧ Q (.tuple ds) ρ := by
  unfold mTup
  cases n ρ with
  | none => rfl
  | some p =>
    obtain ⟨ds, ρ⟩ := p
    show W (if ds.length ≤ 100000 then some (.tuple ds, ρ) else none) Q = (ds.length ≤ 100000 ∧ Q (.tuple ds) ρ)
    by_cases h : ds.length ≤ 100000
    · rw [if_pos h]
      exact propext ⟨fun z => ⟨h, z⟩, fun z => z.2⟩
    · rw [if_neg h]
      exact propext ⟨fun z => z.elim, fun z => absurd z.1 h⟩
theorem w_lst {n : MA} : W (mLst n ρ) S = W (n ρ) fun ds ρ => ds.length ≤ 100000 ∧ S (.own true (.lst ds)) ρ := by
  unfold mLst
  cases n ρ with
  | none => rfl
  | some p =>
    obtain ⟨ds, ρ⟩ := p
    show W (if ds.length ≤ 100000 then some (.own true (.lst ds), ρ) else none) S = (ds.length ≤ 100000 ∧ S (.own true (.lst ds)) ρ)
    by_cases h : ds.length ≤ 100000
    · rw [if_pos h]
      exact propext ⟨fun z => ⟨h, z⟩, fun z => z.2⟩
    · rw [if_neg h]
      exact propext ⟨fun z => z.elim, fun z => absurd z.1 h⟩
theorem w_cat {a b : MV} : W (mCat a b ρ) S = W (a ρ) fun x ρ => W (b ρ) fun y ρ => ∃ xs ys, x = .list xs ∧ y = .list ys ∧ xs.length + ys.length ≤ 100000 ∧ S (.own true (.lst (xs ++ ys))) ρ := by
  unfold mCat
  cases a ρ with
  | none => rfl
  | some p =>
    obtain ⟨x, ρ⟩ := p
    simp only [W_some]
    cases b ρ with
    | none => rfl
    | some p =>
      obtain ⟨y, ρ⟩ := p
      simp only [W_some]
      cases x with
      | list xs =>
        cases y with
        | list ys =>
          refine propext ⟨fun h => ?_, fun ⟨xs, ys, e1, e2, h1, h2⟩ => ?_⟩
          · simp only at h
            split at h
            · rename_i hl
              exact ⟨xs, ys, rfl, rfl, hl, h⟩
            · exact h.elim
          · cases e1
            cases e2
            simp only [h1, if_true]
            exact h2
        | _ => exact propext ⟨fun h => h.elim, fun ⟨xs, ys, e1, e2, h1, h2⟩ => by cases e2⟩
      | _ => exact propext ⟨fun h => h.elim, fun ⟨xs, ys, e1, e2, h1, h2⟩ => by cases e1⟩
theorem w_p0 {B : Option Int → En → Prop} : W (mP0 ρ) B = B none ρ := rfl
theorem w_p1 {m : MV} {B : Option Int → En → Prop} : W (mP1 m ρ) B = W (m ρ) fun d ρ => W1 (intOf d) fun i => B (some i) ρ := by
  unfold mP1
  cases m ρ with
  | none => rfl
  | some p =>
    obtain ⟨d, ρ⟩ := p
    cases d <;> rfl
theorem w_sl {m : MV} {l h : MP} : W (mSl m l h ρ) S = W (m ρ) fun d ρ => W (l ρ) fun lo ρ => W (h ρ) fun hi ρ => W1 (gSl d lo hi) fun z => S z ρ := by
  unfold mSl
  cases m ρ with
  | none => rfl
  | some p =>
    obtain ⟨d, ρ⟩ := p
    simp only [W_some]
    cases l ρ with
    | none => rfl
    | some p =>
      obtain ⟨lo, ρ⟩ := p
      simp only [W_some]
      cases h ρ with
      | none => rfl
      | some p =>
        obtain ⟨hi, ρ⟩ := p
        simp only [W_some]
        cases gSl d lo hi <;> rfl
theorem w_rev {m : MV} : W (mRev m ρ) S = W (m ρ) fun d ρ => W1 (listOf d) fun ds => S (.own true (.lst ds.reverse)) ρ := by
  unfold mRev
  cases m ρ with
  | none => rfl
  | some p =>
    obtain ⟨d, ρ⟩ := p
    cases d <;> rfl
theorem w_neg {m : MV} : W (mNeg m ρ) Q = W (m ρ) fun d ρ => W1 (intOf d) fun i => Q (.int (-i)) ρ := by
  unfold mNeg
  cases m ρ with
  | none => rfl
  | some p =>
    obtain ⟨d, ρ⟩ := p
    cases d <;> rfl
theorem w_scrSl {i : Nat} {l h : MP} : W (mScrSl i l h ρ) S = W1 ρ[i]? fun e => W1 (scrOf e) fun ns => W (l ρ) fun lo ρ => W (h ρ) fun hi ρ => S (.own true (.lst (cutD (ns.map .int) lo hi))) ρ := by
  unfold mScrSl
  cases ρ[i]? with
  | none => rfl
  | some e =>
    cases e with
    | scr ns =>
      simp only [W1_some]
      cases l ρ with
      | none => rfl
      | some p =>
        obtain ⟨lo, ρ⟩ := p
        simp only [W_some]
        cases h ρ <;> rfl
    | _ => rfl
theorem w_cb {g : List PyData → Option Ent} {n : MA} : W (mCB g n ρ) S = W (n ρ) fun ds ρ => W1 (g ds) fun z => S z ρ := by
  unfold mCB
  cases n ρ with
  | none => rfl
  | some p =>
    obtain ⟨ds, ρ⟩ := p
    simp only [W_some]
    cases g ds <;> rfl
theorem w_isi {T : String} {m : MV} : W (mIsi T m ρ) Q = W (m ρ) fun d ρ => W1 (kitB (tyN d) T) fun b => Q (.bool b) ρ := by
  unfold mIsi
  cases m ρ with
  | none => rfl
  | some p =>
    obtain ⟨d, ρ⟩ := p
    simp only [W_some]
    cases kitB (tyN d) T <;> rfl
theorem w_it {m : MV} : W (mIt m ρ) A = W (m ρ) fun d ρ => W1 (walkOf d) fun ds => A ds ρ := by
  unfold mIt
  cases m ρ with
  | none => rfl
  | some p =>
    obtain ⟨d, ρ⟩ := p
    cases d <;> rfl
theorem w_r1 {n : MA} : W (mR1 n ρ) A = W (n ρ) fun ds ρ => ∃ j, ds = [.int j] ∧ (-(2 ^ 62) ≤ j ∧ j < 2 ^ 62) ∧ A (rngD 0 j.toNat) ρ := by
  unfold mR1
  cases n ρ with
  | none => rfl
  | some p =>
    obtain ⟨ds, ρ⟩ := p
    simp only [W_some]
    refine propext ⟨fun h => ?_, fun ⟨j, e, h1, h2⟩ => ?_⟩
    · split at h
      · rename_i j _ hh
        cases hh
        split at h
        · rename_i hl
          exact ⟨j, rfl, hl, h⟩
        · exact h.elim
      · exact h.elim
    · subst e
      have h1 : R1ok j := h1
      simp only [if_pos h1]
      exact h2
theorem w_r2 {n : MA} : W (mR2 n ρ) A = W (n ρ) fun ds ρ => ∃ i j, ds = [.int i, .int j] ∧ (-(2 ^ 62) ≤ i ∧ i < 2 ^ 62 ∧ -(2 ^ 62) ≤ j ∧ j < 2 ^ 62) ∧ A (rngD i (j - i).toNat) ρ := by
  unfold mR2
  cases n ρ with
  | none => rfl
  | some p =>
    obtain ⟨ds, ρ⟩ := p
    simp only [W_some]
    refine propext ⟨fun h => ?_, fun ⟨i, j, e, h1, h2⟩ => ?_⟩
    · split at h
      · rename_i i j _ hh
        cases hh
        split at h
        · rename_i hl
          exact ⟨i, j, rfl, hl, h⟩
        · exact h.elim
      · exact h.elim
    · subst e
      have h1 : R2ok i j := h1
      simp only [if_pos h1]
      exact h2
theorem w_enum {n : MA} : W (mEnum n ρ) A = W (n ρ) fun ds ρ => ∃ xs, ds = [.list xs] ∧ A (enumD 0 xs) ρ := by
  unfold mEnum
  cases n ρ with
  | none => rfl
  | some p =>
    obtain ⟨ds, ρ⟩ := p
    simp only [W_some]
    refine propext ⟨fun h => ?_, fun ⟨xs, e, h2⟩ => ?_⟩
    · split at h
      · rename_i xs _ hh
        cases hh
        exact ⟨xs, rfl, h⟩
      · exact h.elim
    · subst e
      exact h2
-- targets
theorem w_N {i : Nat} {d : PyData} {B : En → Prop} : W1 (mN i d ρ) B = (freeE ρ i = true ∧ B (ρ.set i (.val d))) := by
  unfold mN
  exact W1_if
theorem w_N0 {B : En → Prop} : W1 (mN0 [] ρ) B = B ρ := rfl
theorem w_N1 {m : MG} {n : List PyData → En → Option En} {d : PyData} {ds : List PyData} {B : En → Prop} : W1 (mN1 m n (d :: ds) ρ) B = W1 (m d ρ) fun ρ => W1 (n ds ρ) B := by
  show W1 ((m d ρ).bind fun ρ => n ds ρ) B = _
  cases m d ρ <;> rfl
theorem w_TupG {k : Nat} {n : List PyData → En → Option En} {d : PyData} {B : En → Prop} : W1 (mTupG k n d ρ) B = W1 (rowOf d) fun ds => ds.length = k ∧ W1 (n ds ρ) B := by
  unfold mTupG
  cases d with
  | tuple ds =>
    show W1 (if ds.length = k then n ds ρ else none) B = (ds.length = k ∧ W1 (n ds ρ) B)
    by_cases h : ds.length = k
    · rw [if_pos h]
      exact propext ⟨fun z => ⟨h, z⟩, fun z => z.2⟩
    · rw [if_neg h]
      exact propext ⟨fun z => z.elim, fun z => absurd z.1 h⟩
  | list ds =>
    show W1 (if ds.length = k then n ds ρ else none) B = (ds.length = k ∧ W1 (n ds ρ) B)
    by_cases h : ds.length = k
    · rw [if_pos h]
      exact propext ⟨fun z => ⟨h, z⟩, fun z => z.2⟩
    · rw [if_neg h]
      exact propext ⟨fun z => z.elim, fun z => absurd z.1 h⟩
  | _ => rfl
-- statements
theorem w_nx : W1 (mNx ρ) Z = Z (.nx ρ) := rfl
def nxt (Q : En → Prop) (Z : Fl → Prop) : Fl → Prop
  | .nx ρ => Q ρ
  | f => Z f
theorem nxt_nx {Q : En → Prop} : nxt Q Z (.nx ρ) = Q ρ := rfl
theorem nxt_rt {Q : En → Prop} {e : Ent} : nxt Q Z (.rt e ρ) = Z (.rt e ρ) := rfl
theorem nxt_bk {Q : En → Prop} : nxt Q Z (.bk ρ) = Z (.bk ρ) := rfl
theorem nxt_ct {Q : En → Prop} : nxt Q Z (.ct ρ) = Z (.ct ρ) := rfl
theorem w_seq {m n : MS} : W1 (mSeq m n ρ) Z = W1 (m ρ) (nxt (fun ρ => W1 (n ρ) Z) Z) := by
  unfold mSeq
  cases m ρ with
  | none => rfl
  | some f => cases f <;> rfl
theorem w_frz {i : Nat} {m : MS} : W1 (mFrz i m ρ) Z = W1 (m (frz i ρ)) Z := rfl
theorem w_asg {m : MV} {g : MG} : W1 (mAsg m g ρ) Z = W (m ρ) fun d ρ => W1 (g d ρ) fun ρ => Z (.nx ρ) := by
  unfold mAsg
  cases m ρ with
  | none => rfl
  | some p =>
    obtain ⟨d, ρ⟩ := p
    simp only [W_some]
    cases g d ρ <;> rfl
theorem w_own {m : MO} {i : Nat} : W1 (mOwn m i ρ) Z = W (m ρ) fun e ρ => freeE ρ i = true ∧ Z (.nx (ρ.set i e)) := by
  unfold mOwn
  cases m ρ with
  | none => rfl
  | some p =>
    obtain ⟨d, ρ⟩ := p
    simp only [W_some]
    exact W1_if
theorem w_ret {m : MO} : W1 (mRet m ρ) Z = W (m ρ) fun e ρ => Z (.rt e ρ) := by
  unfold mRet
  cases m ρ <;> rfl
theorem w_drop {m : MO} : W1 (mDrop m ρ) Z = W (m ρ) fun _ ρ => Z (.nx ρ) := by
  unfold mDrop
  cases m ρ <;> rfl
theorem w_bad : W1 (mBad ρ) Z = False := rfl
theorem w_for {n : MI} {g : MG} {m : MS} : W1 (mFor n g m ρ) Z = W (n ρ) fun ds ρ => W1 (forL g m ds ρ) Z := by
  unfold mFor
  cases n ρ <;> rfl
theorem w_app {j : Nat} {m : MV} : W (mApp j m ρ) S = W1 ρ[j]? fun e => (match e with | .own _ (.lst _) => True | _ => False) ∧ W (m ρ) fun d ρ => W1 ρ[j]? fun e => ∃ fr ds, e = .own fr (.lst ds) ∧ ds.length < 100000 ∧ S (.val .none) (ρ.set j (.own fr (.lst (ds ++ [d])))) := by
  unfold mApp
  cases ρ[j]? with
  | none => rfl
  | some e =>
    cases e with
    | own fr ce =>
      cases ce with
      | lst ds =>
        simp only [W1_some, true_and]
        cases m ρ with
        | none => rfl
        | some p =>
          obtain ⟨d, ρ⟩ := p
          simp only [W_some]
          cases ρ[j]? with
          | none => rfl
          | some e =>
            refine propext ⟨fun h => ?_, fun h => ?_⟩
            · simp only [W1_some]
              split at h
              · rename_i fr ds hh
                cases hh
                split at h
                · rename_i hl
                  exact ⟨fr, ds, rfl, hl, h⟩
                · exact h.elim
              · exact h.elim
            · obtain ⟨fr, ds, rfl, hl, h⟩ := h
              simp only [hl, if_true]
              exact h
      | _ => exact propext ⟨fun h => h.elim, fun h => h.1.elim⟩
    | _ => exact propext ⟨fun h => h.elim, fun h => h.1.elim⟩
theorem w_ext {j : Nat} {m : MV} : W (mExt j m ρ) S = W1 ρ[j]? fun e => (match e with | .own _ (.lst _) => True | _ => False) ∧ W (m ρ) fun d ρ => W1 (listOf d) fun es => W1 ρ[j]? fun e => ∃ fr ds, e = .own fr (.lst ds) ∧ ds.length + es.length ≤ 100000 ∧ S (.val .none) (ρ.set j (.own fr (.lst (ds ++ es)))) := by
  unfold mExt
  cases ρ[j]? with
  | none => rfl
  | some e =>
    cases e with
    | own fr ce =>
      cases ce with
      | lst ds =>
        simp only [W1_some, true_and]
        cases m ρ with
        | none => rfl
        | some p =>
          obtain ⟨d, ρ⟩ := p
          simp only [W_some]
          cases d with
          | list es =>
            simp only [W1_some]
            cases ρ[j]? with
            | none => rfl
            | some e =>
              refine propext ⟨fun h => ?_, fun h => ?_⟩
              · simp only [W1_some]
                split at h
                · rename_i fr ds hh
                  cases hh
                  split at h
                  · rename_i hl
                    exact ⟨fr, ds, rfl, hl, h⟩
                  · exact h.elim
                · exact h.elim
              · obtain ⟨fr, ds, rfl, hl, h⟩ := h
                simp only [hl, if_true]
                exact h
          | _ => rfl
      | _ => exact propext ⟨fun h => h.elim, fun h => h.1.elim⟩
    | _ => exact propext ⟨fun h => h.elim, fun h => h.1.elim⟩
-- calls
def endF (ins : List Ent) (S : Ent → List Ent → Prop) : Fl → Prop
  | .rt e ρ => S e (outsE ins ρ)
  | .nx ρ => S (.val .none) (outsE ins ρ)
  | _ => False
theorem endF_rt {ins : List Ent} {S : Ent → List Ent → Prop} {e : Ent} : endF ins S (.rt e ρ) = S e (outsE ins ρ) := rfl
theorem endF_nx {ins : List Ent} {S : Ent → List Ent → Prop} : endF ins S (.nx ρ) = S (.val .none) (outsE ins ρ) := rfl
theorem w_fn {n : Nat} {body : MS} {ins : List Ent} {S : Ent → List Ent → Prop} : W (mFn n body ins) S = W1 (body (ins ++ List.replicate (n - ins.length) Ent.no)) (endF ins S) := by
  unfold mFn
  cases body (ins ++ List.replicate (n - ins.length) Ent.no) with
  | none => rfl
  | some f => cases f <;> rfl
theorem w_call {f : MF} {p : List Nat} {dd : List PyData} {n nk : MA} : W (mCall f p dd n nk ρ) S = W (n ρ) fun ds ρ => W (nk ρ) fun es ρ => W (f ((pick p (ds ++ es ++ dd)).map .val)) fun e _ => resE e = true ∧ S e ρ := by
  unfold mCall
  cases n ρ with
  | none => rfl
  | some z =>
    obtain ⟨ds, ρ⟩ := z
    simp only [W_some]
    cases nk ρ with
    | none => rfl
    | some z =>
      obtain ⟨es, ρ⟩ := z
      simp only [W_some]
      cases f ((pick p (ds ++ es ++ dd)).map .val) with
      | none => rfl
      | some z =>
        obtain ⟨e, o⟩ := z
        simp only [W_some]
        by_cases h : resE e = true
        · rw [if_pos h]
          exact propext ⟨fun z => ⟨h, z⟩, fun z => z.2⟩
        · rw [if_neg h]
          exact propext ⟨fun z => z.elim, fun z => absurd z.1 h⟩
theorem w_lend {i : Nat} {f : MF} {p : List Nat} {dd : List PyData} {n nk : MA} : W (mLend i f p dd n nk ρ) S = W1 ρ[i]? fun e => (match e with | .own _ _ => True | _ => False) ∧ W (n ρ) fun ds ρ => W (nk ρ) fun es ρ => W1 ρ[i]? fun e => ∃ fr ce, e = .own fr ce ∧
    W (f (.own false ce :: (pick p (ds ++ es ++ dd)).map .val)) fun e o => ∃ ce' r, o = .own false ce' :: r ∧ resE e = true ∧ S e (ρ.set i (.own fr ce')) := by
  unfold mLend
  cases ρ[i]? with
  | none => rfl
  | some e =>
    cases e with
    | own fr ce =>
      simp only [W1_some, true_and]
      cases n ρ with
      | none => rfl
      | some z =>
        obtain ⟨ds, ρ⟩ := z
        simp only [W_some]
        cases nk ρ with
        | none => rfl
        | some z =>
          obtain ⟨es, ρ⟩ := z
          simp only [W_some]
          cases ρ[i]? with
          | none => rfl
          | some e =>
            simp only [W1_some]
            cases e with
            | own fr ce =>
              simp only
              cases hf : f (.own false ce :: (pick p (ds ++ es ++ dd)).map .val) with
              | none =>
                refine propext ⟨fun z => z.elim, fun ⟨fr', ce', e, h⟩ => ?_⟩
                cases e
                rw [hf] at h
                exact h.elim
              | some z =>
                obtain ⟨e, o⟩ := z
                refine propext ⟨fun h => ⟨fr, ce, rfl, ?_⟩, fun ⟨fr', ce', e', h⟩ => ?_⟩
                · rw [hf]
                  split at h
                  · rename_i e1 ce' r hh
                    cases hh
                    split at h
                    · rename_i hr
                      exact ⟨ce', r, rfl, hr, h⟩
                    · exact h.elim
                  · exact h.elim
                · cases e'
                  rw [hf] at h
                  obtain ⟨ce', r, rfl, hr, h⟩ := h
                  simp only [hr, if_true]
                  exact h
            | _ => exact propext ⟨fun z => z.elim, fun ⟨fr', ce', e, h⟩ => by cases e⟩
    | _ => exact propext ⟨fun h => h.elim, fun h => h.1.elim⟩
theorem w_scr {i : Nat} {f : MF} : W (mScr i f ρ) S = W1 ρ[i]? fun e => W1 (scrOf e) fun ns => W (f [.scr ns]) fun e _ => resE e = true ∧ S e ρ := by
  unfold mScr
  cases ρ[i]? with
  | none => rfl
  | some e =>
    cases e with
    | scr ns =>
      simp only [W1_some, scrOf]
      cases f [.scr ns] with
      | none => rfl
      | some z =>
        obtain ⟨e, o⟩ := z
        simp only [W_some]
        by_cases h : resE e = true
        · rw [if_pos h]
          exact propext ⟨fun z => ⟨h, z⟩, fun z => z.2⟩
        · rw [if_neg h]
          exact propext ⟨fun z => z.elim, fun z => absurd z.1 h⟩
    | _ => rfl
theorem w_bor {m : MO} : W (mBor m ρ) S = (borOk ρ = true ∧ W (m (ρ.map borS)) fun e ρ2 => nlE e = true ∧ dkKept ρ ρ2 = true ∧ S e (merE ρ ρ2)) := by
  unfold mBor
  by_cases h : borOk ρ = true
  · rw [if_pos h]
    cases hm : m (ρ.map borS) with
    | none => exact propext ⟨fun z => z.elim, fun z => z.2.elim⟩
    | some z =>
      obtain ⟨e, ρ2⟩ := z
      refine propext ⟨fun z => ⟨h, ?_⟩, fun z => ?_⟩
      · simp only at z
        split at z
        · rename_i hh
          exact ⟨hh.1, hh.2, z⟩
        · exact z.elim
      · obtain ⟨_, h1, h2, h3⟩ := z
        simp only [h1, h2, and_self, if_true]
        exact h3
  · rw [if_neg h]
    exact propext ⟨fun z => z.elim, fun z => absurd z.1 h⟩
theorem w_borT {m : MT} : W (mBorT m ρ) R = (borOk ρ = true ∧ W (m (ρ.map borS)) fun e ρ2 => dkKept ρ ρ2 = true ∧ R e (merE ρ ρ2)) := by
  unfold mBorT
  by_cases h : borOk ρ = true
  · rw [if_pos h]
    cases hm : m (ρ.map borS) with
    | none => exact propext ⟨fun z => z.elim, fun z => z.2.elim⟩
    | some z =>
      obtain ⟨e, ρ2⟩ := z
      refine propext ⟨fun z => ⟨h, ?_⟩, fun z => ?_⟩
      · simp only at z
        split at z
        · rename_i hh
          exact ⟨hh, z⟩
        · exact z.elim
      · obtain ⟨_, h1, h2⟩ := z
        simp only [h1, if_true]
        exact h2
  · rw [if_neg h]
    exact propext ⟨fun z => z.elim, fun z => absurd z.1 h⟩
theorem w_lc {n : MI} {g : MG} {t : MT} {m : MV} {vs : List Nat} : W (mLc n g t m vs ρ) S = W (n ρ) fun ds ρ => vs.all (freeE ρ) = true ∧ W (lcL g t m vs ds [] (wipeE ρ vs)) fun ys ρ => S (.own true (.lst ys)) ρ := by
  unfold mLc
  cases n ρ with
  | none => rfl
  | some z =>
    obtain ⟨ds, ρ⟩ := z
    simp only [W_some]
    by_cases h : vs.all (freeE ρ) = true
    · rw [if_pos h]
      cases lcL g t m vs ds [] (wipeE ρ vs) with
      | none => exact propext ⟨fun z => z.elim, fun z => z.2.elim⟩
      | some p => exact propext ⟨fun z => ⟨h, z⟩, fun z => z.2⟩
    · rw [if_neg h]
      exact propext ⟨fun z => z.elim, fun z => absurd z.1 h⟩
theorem w_move {i : Nat} : W (mMove i ρ) S = W1 ρ[i]? fun e => (∃ d, e = .val d ∧ S (.val d) ρ) ∨ ∃ ce, e = .own true ce ∧ S (.own true ce) (ρ.set i .lent) := by
  unfold mMove
  cases ρ[i]? with
  | none => rfl
  | some e =>
    refine propext ⟨fun h => ?_, fun h => ?_⟩
    · split at h
      · rename_i d hh
        cases hh
        exact .inl ⟨d, rfl, h⟩
      · rename_i ce hh
        cases hh
        exact .inr ⟨ce, rfl, h⟩
      · exact h.elim
    · rcases h with ⟨d, rfl, h⟩ | ⟨ce, rfl, h⟩ <;> exact h
theorem w_ownV {m : MV} {i : Nat} : W1 (mOwnV m i ρ) Z = W (m ρ) fun d ρ => freeE ρ i = true ∧ Z (.nx (ρ.set i (.val d))) := by
  unfold mOwnV
  rw [w_own, w_val]
theorem w_yes : W (mYes ρ) R = R true ρ := rfl
-- decks
theorem w_dkM {s i : Nat} : W (mDkM s i ρ) Q = W1 ρ[i]? fun e => ∃ fr l m t, e = .own fr (.deck s l m t) ∧ Q (.int m) ρ := by
  unfold mDkM
  cases ρ[i]? with
  | none => rfl
  | some e =>
    refine propext ⟨fun h => ?_, fun h => ?_⟩
    · split at h
      · rename_i fr s1 l m t hh
        cases hh
        split at h
        · rename_i hs
          subst hs
          exact ⟨fr, l, m, t, rfl, h⟩
        · exact h.elim
      · exact h.elim
    · obtain ⟨fr, l, m, t, rfl, h⟩ := h
      simp only [if_true]
      exact h
theorem w_dkT {s i : Nat} : W (mDkT s i ρ) Q = W1 ρ[i]? fun e => ∃ fr l m t, e = .own fr (.deck s l m t) ∧ Q (.int t) ρ := by
  unfold mDkT
  cases ρ[i]? with
  | none => rfl
  | some e =>
    refine propext ⟨fun h => ?_, fun h => ?_⟩
    · split at h
      · rename_i fr s1 l m t hh
        cases hh
        split at h
        · rename_i hs
          subst hs
          exact ⟨fr, l, m, t, rfl, h⟩
        · exact h.elim
      · exact h.elim
    · obtain ⟨fr, l, m, t, rfl, h⟩ := h
      simp only [if_true]
      exact h
theorem w_dkL {s i : Nat} : W (mDkL s i ρ) R = W1 ρ[i]? fun e => ∃ fr l m t, e = .own fr (.deck s l m t) ∧ R (!l.isEmpty) ρ := by
  unfold mDkL
  cases ρ[i]? with
  | none => rfl
  | some e =>
    refine propext ⟨fun h => ?_, fun h => ?_⟩
    · split at h
      · rename_i fr s1 l m t hh
        cases hh
        split at h
        · rename_i hs
          subst hs
          exact ⟨fr, l, m, t, rfl, h⟩
        · exact h.elim
      · exact h.elim
    · obtain ⟨fr, l, m, t, rfl, h⟩ := h
      simp only [if_true]
      exact h
theorem w_dkPop {s i : Nat} : W (mDkPop s i ρ) Q = W1 ρ[i]? fun e => ∃ fr l m t, e = .own fr (.deck s l m t) ∧ ∃ x, l.getLast? = some x ∧ Q (.int x) (ρ.set i (.own fr (.deck s l.dropLast m t))) := by
  unfold mDkPop
  cases ρ[i]? with
  | none => rfl
  | some e =>
    refine propext ⟨fun h => ?_, fun h => ?_⟩
    · split at h
      · rename_i fr s1 l m t hh
        cases hh
        split at h
        · rename_i hs
          subst hs
          split at h
          · rename_i x hx
            exact ⟨fr, l, m, t, rfl, x, hx, h⟩
          · exact h.elim
        · exact h.elim
      · exact h.elim
    · obtain ⟨fr, l, m, t, rfl, x, hx, h⟩ := h
      simp only [if_true, hx]
      exact h
theorem w_dkApp {s i : Nat} {m : MV} : W (mDkApp s i m ρ) S = W1 ρ[i]? fun e => ∃ fr l mx t, e = .own fr (.deck s l mx t) ∧ l.length < 100000 ∧ W (m (ρ.map valS)) fun d _ => W1 (intOf d) fun x => S (.val .none) (ρ.set i (.own fr (.deck s (l ++ [x]) mx t))) := by
  unfold mDkApp
  cases ρ[i]? with
  | none => rfl
  | some e =>
    refine propext ⟨fun h => ?_, fun h => ?_⟩
    · split at h
      · rename_i fr s1 l mx t hh
        cases hh
        split at h
        · rename_i hs
          obtain ⟨hs, hl⟩ := hs
          subst hs
          refine ⟨fr, l, mx, t, rfl, hl, ?_⟩
          cases hm : m (ρ.map valS) with
          | none => rw [hm] at h; exact h
          | some z =>
            obtain ⟨d, ρ2⟩ := z
            rw [hm] at h
            cases d <;> exact h
        · exact h.elim
      · exact h.elim
    · obtain ⟨fr, l, mx, t, rfl, hl, h⟩ := h
      simp only [hl, and_self, if_true]
      cases hm : m (ρ.map valS) with
      | none => rw [hm] at h; exact h
      | some z =>
        obtain ⟨d, ρ2⟩ := z
        rw [hm] at h
        cases d <;> exact h
theorem w_dkSetM {s i : Nat} {m : MV} : W1 (mDkSetM s i m ρ) Z = W (m ρ) fun d ρ => W1 (intOf d) fun x => W1 ρ[i]? fun e => ∃ fr l mx t, e = .own fr (.deck s l mx t) ∧ Z (.nx (ρ.set i (.own fr (.deck s l x t)))) := by
  unfold mDkSetM
  cases m ρ with
  | none => rfl
  | some z =>
    obtain ⟨d, ρ⟩ := z
    cases d with
    | int x =>
      simp only [W_some, W1_some]
      cases ρ[i]? with
      | none => rfl
      | some e =>
        refine propext ⟨fun h => ?_, fun h => ?_⟩
        · split at h
          · rename_i fr s1 l mx t hh
            cases hh
            split at h
            · rename_i hs
              subst hs
              exact ⟨fr, l, mx, t, rfl, h⟩
            · exact h.elim
          · exact h.elim
        · obtain ⟨fr, l, mx, t, rfl, h⟩ := h
          simp only [if_true]
          exact h
    | _ => rfl
theorem w_dkSetT {s i : Nat} {m : MV} : W1 (mDkSetT s i m ρ) Z = W (m ρ) fun d ρ => W1 (intOf d) fun x => W1 ρ[i]? fun e => ∃ fr l mx t, e = .own fr (.deck s l mx t) ∧ Z (.nx (ρ.set i (.own fr (.deck s l mx x)))) := by
  unfold mDkSetT
  cases m ρ with
  | none => rfl
  | some z =>
    obtain ⟨d, ρ⟩ := z
    cases d with
    | int x =>
      simp only [W_some, W1_some]
      cases ρ[i]? with
      | none => rfl
      | some e =>
        refine propext ⟨fun h => ?_, fun h => ?_⟩
        · split at h
          · rename_i fr s1 l mx t hh
            cases hh
            split at h
            · rename_i hs
              subst hs
              exact ⟨fr, l, mx, t, rfl, h⟩
            · exact h.elim
          · exact h.elim
        · obtain ⟨fr, l, mx, t, rfl, h⟩ := h
          simp only [if_true]
          exact h
    | _ => rfl
theorem w_dkNew {s : Nat} {a : MO} {b c : MV} : W (mDkNew s a b c ρ) S = W (a ρ) fun e ρ => ∃ ns : List Int, e = .own true (.lst (ns.map .int)) ∧ W (b ρ) fun d ρ => ∃ m, d = .int m ∧ W (c ρ) fun d ρ => ∃ t, d = .int t ∧ S (.own true (.deck s ns m t)) ρ := by
  unfold mDkNew
  cases a ρ with
  | none => rfl
  | some z =>
    obtain ⟨e, ρ⟩ := z
    simp only [W_some]
    refine propext ⟨fun h => ?_, fun h => ?_⟩
    · split at h
      · rename_i ds ρ1 hh
        cases hh
        split at h
        · rename_i l hl
          have := intsD_eq hl
          subst this
          refine ⟨l, rfl, ?_⟩
          cases hb : b ρ with
          | none => rw [hb] at h; exact h
          | some z =>
            obtain ⟨d, ρ2⟩ := z
            rw [hb] at h
            cases d with
            | int m =>
              refine ⟨m, rfl, ?_⟩
              simp only at h
              cases hc : c ρ2 with
              | none => rw [hc] at h; exact h
              | some z =>
                obtain ⟨d, ρ3⟩ := z
                rw [hc] at h
                cases d with
                | int t => exact ⟨t, rfl, h⟩
                | _ => exact h.elim
            | _ => exact h.elim
        · exact h.elim
      · exact h.elim
    · obtain ⟨ns, rfl, h⟩ := h
      simp only [intsD_map]
      cases hb : b ρ with
      | none => rw [hb] at h; exact h
      | some z =>
        obtain ⟨d, ρ2⟩ := z
        rw [hb] at h
        obtain ⟨m, rfl, h⟩ := h
        simp only
        cases hc : c ρ2 with
        | none => rw [hc] at h; exact h
        | some z =>
          obtain ⟨d, ρ3⟩ := z
          rw [hc] at h
          obtain ⟨t, rfl, h⟩ := h
          exact h
end
/-! ### loops -/
/-- a loop's invariant: I of what is still to be walked -/
theorem w_forL {g : MG} {m : MS} {Z : Fl → Prop} (I : List PyData → En → Prop) (body : ∀ d ds ρ, I (d :: ds) ρ → W1 (g d ρ) fun ρ => W1 (m ρ) fun f => match f with | .nx ρ => I ds ρ | .ct ρ => I ds ρ | .bk ρ => Z (.nx ρ) | .rt e ρ => Z (.rt e ρ)) (fin : ∀ ρ, I [] ρ → Z (.nx ρ)) :
    ∀ (ds : List PyData) (ρ : En), I ds ρ → W1 (forL g m ds ρ) Z
  | [], ρ, h => fin ρ h
  | d :: ds, ρ, h => by
    have b := body d ds ρ h
    unfold forL
    cases hg : g d ρ with
    | none =>
      rw [hg] at b
      exact b
    | some ρ1 =>
      rw [hg] at b
      simp only [W1_some] at b
      simp only
      cases hm : m ρ1 with
      | none =>
        rw [hm] at b
        exact b
      | some f =>
        rw [hm] at b
        cases f with
        | nx ρ2 => exact w_forL I body fin ds ρ2 b
        | ct ρ2 => exact w_forL I body fin ds ρ2 b
        | bk ρ2 => exact b
        | rt e ρ2 => exact b
theorem w_lcL {g : MG} {t : MT} {m : MV} {vs : List Nat} {Q : List PyData → En → Prop} (I : List PyData → List PyData → En → Prop)
    (body : ∀ d ds acc ρ, I (d :: ds) acc ρ → W1 (g d ρ) fun ρ => W (t ρ) fun b ρ => (b = true → W (m ρ) fun y ρ => acc.length < 100000 ∧ vs.all (freeE ρ) = true ∧ I ds (acc ++ [y]) (wipeE ρ vs)) ∧ (b = false → vs.all (freeE ρ) = true ∧ I ds acc (wipeE ρ vs))) (fin : ∀ acc ρ, I [] acc ρ → Q acc ρ) :
    ∀ (ds acc : List PyData) (ρ : En), I ds acc ρ → W (lcL g t m vs ds acc ρ) Q
  | [], acc, ρ, h => fin acc ρ h
  | d :: ds, acc, ρ, h => by
    have b := body d ds acc ρ h
    unfold lcL
    cases hg : g d ρ with
    | none =>
      rw [hg] at b
      exact b
    | some ρ1 =>
      rw [hg] at b
      simp only [W1_some] at b
      simp only
      cases ht : t ρ1 with
      | none =>
        rw [ht] at b
        exact b
      | some z =>
        obtain ⟨k, ρ2⟩ := z
        rw [ht] at b
        simp only [W_some] at b
        cases k with
        | false =>
          obtain ⟨h1, h2⟩ := b.2 rfl
          simp only [h1, if_true]
          exact w_lcL I body fin ds acc _ h2
        | true =>
          have b := b.1 rfl
          simp only
          cases hm : m ρ2 with
          | none =>
            rw [hm] at b
            exact b
          | some z =>
            obtain ⟨y, ρ3⟩ := z
            rw [hm] at b
            obtain ⟨h0, h1, h2⟩ := b
            simp only [h0, h1, and_self, if_true]
            exact w_lcL I body fin ds _ _ h2
end Fj

set_option Elab.async false
set_option linter.all false
set_option maxRecDepth 100000
set_option maxHeartbeats 4000000
set_option autoImplicit false
/-! What the operations say of numbers; decks. -/
namespace Fj
open PySem PySem.Spec PyProof.Rows L2

section
variable {Q : PyData → Prop} {S : Ent → Prop} {i j : Int}
theorem g_add : W1 (gAdd (.int i) (.int j)) Q = Q (.int (i + j)) := rfl
theorem g_sub : W1 (gSub (.int i) (.int j)) Q = Q (.int (i - j)) := rfl
theorem g_addT {xs ys : List PyData} : W1 (gAdd (.tuple xs) (.tuple ys)) Q = (xs.length + ys.length ≤ 100000 ∧ Q (.tuple (xs ++ ys))) := by
  unfold gAdd gI gAddS gAddT gAddL
  simp only [Option.none_or, Option.or_none]
  exact W1_if
theorem g_addL {xs ys : List PyData} : W1 (gAdd (.list xs) (.list ys)) Q = (xs.length + ys.length ≤ 100000 ∧ Q (.list (xs ++ ys))) := by
  unfold gAdd gI gAddS gAddT gAddL
  simp only [Option.none_or]
  exact W1_if
theorem g_addS {x y : Str} : W1 (gAdd (.str x) (.str y)) Q = (x.length + y.length ≤ 100000 ∧ Q (.str (x ++ y))) := by
  unfold gAdd gI gAddS gAddT gAddL
  simp only [Option.none_or, Option.or_none]
  exact W1_if
theorem g_mul : W1 (gMul (.int i) (.int j)) Q = (gMulC i j = true ∧ Q (.int (i * j))) := by
  unfold gMul gMulI gMulL gI
  simp only [Option.or_none]
  exact W1_if
theorem g_div : W1 (gDiv (.int i) (.int j)) Q = (gDivC i j = true ∧ Q (.int (i / j))) := by
  unfold gDiv gI
  exact W1_if
theorem g_mod : W1 (gMod (.int i) (.int j)) Q = (0 < j ∧ Q (.int (i % j))) := by
  unfold gMod gI
  refine W1_if.trans ?_
  unfold gModC
  rw [decide_eq_true_eq]
theorem g_pow : W1 (gPow (.int i) (.int j)) Q = (gPowC i j = true ∧ Q (.int (i ^ j.toNat))) := by
  unfold gPow gI
  exact W1_if
theorem g_lt : W1 (gLt (.int i) (.int j)) Q = Q (.bool (decide (i < j))) := rfl
theorem g_le : W1 (gLe (.int i) (.int j)) Q = Q (.bool (decide (i ≤ j))) := rfl
theorem g_gt : W1 (gGt (.int i) (.int j)) Q = Q (.bool (decide (j < i))) := rfl
theorem g_ge : W1 (gGe (.int i) (.int j)) Q = Q (.bool (decide (j ≤ i))) := rfl
theorem shaped_int : SeqAt.shaped (.int i) = true := by
  unfold SeqAt.shaped
  simp [PyData.canLay0, PyData.depth]
theorem shaped_nil : SeqAt.shaped (.list []) = true := by decide
theorem eqv_int : PyData.eqv (.int i) (.int j) = decide (i = j) := by
  unfold PyData.eqv
  by_cases h : i = j
  · rw [h, decide_eq_true rfl]
    exact beq_self_eq_true j
  · rw [decide_eq_false h]
    exact beq_false_of_ne h
theorem g_eq : W1 (gEq (.int i) (.int j)) Q = Q (.bool (decide (i = j))) := by
  unfold gEq gEqS gEqD
  simp only [Option.none_or]
  rw [shaped_int, shaped_int]
  simp only [Bool.and_self, if_true, W1_some, eqv_int]
theorem g_ne : W1 (gNe (.int i) (.int j)) Q = Q (.bool (!decide (i = j))) := by
  unfold gNe gNeS gNeD
  simp only [Option.none_or]
  rw [shaped_int, shaped_int]
  simp only [Bool.and_self, if_true, W1_some, eqv_int]
theorem eqv_nilL (ds : List PyData) : PyData.eqv (.list ds) (.list []) = ds.isEmpty := by
  cases ds <;> simp [PyData.eqv, PyData.eqvAll]
theorem g_neNil {ds : List PyData} : W1 (gNe (.list ds) (.list [])) Q = (SeqAt.shaped (.list ds) = true ∧ Q (.bool (!ds.isEmpty))) := by
  unfold gNe gNeS gNeD
  simp only [Option.none_or]
  rw [shaped_nil, Bool.and_true, eqv_nilL]
  exact W1_if
theorem g_eqNil {ds : List PyData} : W1 (gEq (.list ds) (.list [])) Q = (SeqAt.shaped (.list ds) = true ∧ Q (.bool ds.isEmpty)) := by
  unfold gEq gEqS gEqD
  simp only [Option.none_or]
  rw [shaped_nil, Bool.and_true, eqv_nilL]
  exact W1_if
theorem g_eqS {x y : Str} : W1 (gEq (.str x) (.str y)) Q = Q (.bool (decide (x = y))) := rfl
theorem g_neS {x y : Str} : W1 (gNe (.str x) (.str y)) Q = Q (.bool (!decide (x = y))) := rfl
theorem g_lenL {ds : List PyData} : W1 (gLen [.list ds]) S = S (.val (.int ds.length)) := rfl
theorem g_lenT {ds : List PyData} : W1 (gLen [.tuple ds]) S = S (.val (.int ds.length)) := rfl
theorem g_int : W1 (gInt [.int i]) S = S (.val (.int i)) := rfl
theorem g_max : W1 (gMax2 [.int i, .int j]) S = S (.val (.int (if j > i then j else i))) := rfl
theorem g_min : W1 (gMin2 [.int i, .int j]) S = S (.val (.int (if j < i then j else i))) := rfl
theorem g_list {ds : List PyData} : W1 (gList [.list ds]) S = S (.own true (.lst ds)) := rfl
theorem g_listT {ds : List PyData} : W1 (gList [.tuple ds]) S = S (.own true (.lst ds)) := rfl
theorem g_tupT {ds : List PyData} : W1 (gTuple [.tuple ds]) S = S (.val (.tuple ds)) := rfl
theorem g_tupL {ds : List PyData} : W1 (gTuple [.list ds]) S = S (.val (.tuple ds)) := rfl
theorem g_ixL {ds : List PyData} : W1 (gIx (.list ds) (.int i)) Q = W1 (L2.atI ds i) Q := rfl
theorem g_ixT {ds : List PyData} : W1 (gIx (.tuple ds) (.int i)) Q = W1 (L2.atI ds i) Q := rfl
/-! ### what is there -/
theorem ex_dk {s : Nat} {fr0 : Bool} {l0 : List Int} {m0 t0 : Int} {R : Bool → List Int → Int → Int → Prop} : (∃ fr l m t, Ent.own fr0 (.deck s l0 m0 t0) = .own fr (.deck s l m t) ∧ R fr l m t) = R fr0 l0 m0 t0 :=
  propext ⟨fun ⟨fr, l, m, t, e, h⟩ => by
    cases e
    exact h, fun h => ⟨_, _, _, _, rfl, h⟩⟩
theorem ex_own {fr0 : Bool} {c0 : Cell} {R : Bool → Cell → Prop} : (∃ fr ce, Ent.own fr0 c0 = .own fr ce ∧ R fr ce) = R fr0 c0 :=
  propext ⟨fun ⟨fr, ce, e, h⟩ => by
    cases e
    exact h, fun h => ⟨_, _, rfl, h⟩⟩
theorem ex_lst {fr0 : Bool} {d0 : List PyData} {R : Bool → List PyData → Prop} : (∃ fr ds, Ent.own fr0 (.lst d0) = .own fr (.lst ds) ∧ R fr ds) = R fr0 d0 :=
  propext ⟨fun ⟨fr, ds, e, h⟩ => by
    cases e
    exact h, fun h => ⟨_, _, rfl, h⟩⟩
theorem ex_out {c0 : Cell} {r0 : List Ent} {R : Cell → List Ent → Prop} : (∃ ce r, (Ent.own false c0 :: r0) = .own false ce :: r ∧ R ce r) = R c0 r0 :=
  propext ⟨fun ⟨ce, r, e, h⟩ => by
    cases e
    exact h, fun h => ⟨_, _, rfl, h⟩⟩
theorem ex_int {R : Int → Prop} : (∃ m, PyData.int i = .int m ∧ R m) = R i :=
  propext ⟨fun ⟨m, e, h⟩ => by
    cases e
    exact h, fun h => ⟨_, rfl, h⟩⟩
theorem ex_r1 {A : Prop} {R : Int → Prop} : (∃ j', [PyData.int j] = [.int j'] ∧ A ∧ R j') = (A ∧ R j) :=
  propext ⟨fun ⟨m, e, h⟩ => by
    cases e
    exact h, fun h => ⟨_, rfl, h⟩⟩
theorem ex_ls {xs ys : List PyData} {R : List PyData → List PyData → Prop} : (∃ xs' ys', PyData.list xs = .list xs' ∧ PyData.list ys = .list ys' ∧ R xs' ys') = R xs ys :=
  propext ⟨fun ⟨_, _, e1, e2, h⟩ => by
    cases e1
    cases e2
    exact h, fun h => ⟨_, _, rfl, rfl, h⟩⟩
theorem ex_en {xs : List PyData} {R : List PyData → Prop} : (∃ xs', [PyData.list xs] = [.list xs'] ∧ R xs') = R xs :=
  propext ⟨fun ⟨_, e1, h⟩ => by
    cases e1
    exact h, fun h => ⟨_, rfl, h⟩⟩
end
theorem pin_no : pinE .no = false := rfl
theorem pin_val {d : PyData} : pinE (.val d) = false := rfl
theorem pin_t {ce : Cell} : pinE (.own true ce) = false := rfl
theorem pin_f {ce : Cell} : pinE (.own false ce) = true := rfl
theorem pin_lent : pinE .lent = true := rfl
theorem pin_scr {ns : List Int} : pinE (.scr ns) = false := rfl
/-! ### the rules, each step seen by what it looks at -/
section
variable {ρ : En} {Q : PyData → En → Prop} {R : Bool → En → Prop} {S : Ent → En → Prop} {Z : Fl → Prop} {A : List PyData → En → Prop}
theorem own_of {fr : Bool} {ce : Cell} : ownOf (.own fr ce) = some (fr, ce) := rfl
theorem lst_of {fr : Bool} {ds : List PyData} : lstOf (.own fr (.lst ds)) = some (fr, ds) := rfl
theorem dk_of {s : Nat} {fr : Bool} {l : List Int} {m t : Int} : dkOf s (.own fr (.deck s l m t)) = some (fr, l, m, t) := if_pos rfl
theorem out_of {ce : Cell} {r : List Ent} : outOf (.own false ce :: r) = some ce := rfl
theorem list_of {ds : List PyData} : listOf (.list ds) = some ds := rfl
theorem bool_of {b : Bool} : boolOf (.bool b) = some b := rfl
theorem val_of {d : PyData} : valOf (.val d) = some d := rfl
theorem scr_of {ns : List Int} : scrOf (.scr ns) = some ns := rfl
theorem row_ofL {ds : List PyData} : rowOf (.list ds) = some ds := rfl
theorem row_ofT {ds : List PyData} : rowOf (.tuple ds) = some ds := rfl
theorem walk_ofL {ds : List PyData} : walkOf (.list ds) = some ds := rfl
theorem walk_ofT {ds : List PyData} : walkOf (.tuple ds) = some ds := rfl
theorem walk_ofS {x : Str} : walkOf (.str x) = some (signsD x) := rfl
theorem int_of {i : Int} : intOf (.int i) = some i := rfl
theorem exW_own {e : Ent} {R : Bool → Cell → Prop} : (∃ fr ce, e = .own fr ce ∧ R fr ce) = W1 (ownOf e) fun q => R q.1 q.2 := by
  refine propext ⟨fun ⟨fr, ce, h, r⟩ => by
    cases h
    exact r, fun h => ?_⟩
  cases e with
  | own fr ce => exact ⟨_, _, rfl, h⟩
  | _ => exact h.elim
theorem exW_lst {e : Ent} {R : Bool → List PyData → Prop} : (∃ fr ds, e = .own fr (.lst ds) ∧ R fr ds) = W1 (lstOf e) fun q => R q.1 q.2 := by
  refine propext ⟨fun ⟨fr, ce, h, r⟩ => by
    cases h
    exact r, fun h => ?_⟩
  cases e with
  | own fr ce =>
    cases ce with
    | lst ds => exact ⟨_, _, rfl, h⟩
    | _ => exact h.elim
  | _ => exact h.elim
theorem exW_dk {s : Nat} {e : Ent} {R : Bool → List Int → Int → Int → Prop} : (∃ fr l m t, e = .own fr (.deck s l m t) ∧ R fr l m t) = W1 (dkOf s e) fun q => R q.1 q.2.1 q.2.2.1 q.2.2.2 := by
  refine propext ⟨fun ⟨fr, l, m, t, h, r⟩ => by
    cases h
    rw [dk_of]
    exact r, fun h => ?_⟩
  cases e with
  | own fr ce =>
    cases ce with
    | deck s' l m t =>
      by_cases hs : s' = s
      · subst hs
        rw [dk_of] at h
        exact ⟨_, _, _, _, rfl, h⟩
      · have e : dkOf s (.own fr (.deck s' l m t)) = none := if_neg hs
        rw [e] at h
        exact h.elim
    | _ => exact h.elim
  | _ => exact h.elim
theorem exW_out {o : List Ent} {R : Cell → Prop} : (∃ ce r, o = .own false ce :: r ∧ R ce) = W1 (outOf o) R := by
  refine propext ⟨fun ⟨ce, r, h, q⟩ => by
    cases h
    exact q, fun h => ?_⟩
  cases o with
  | nil => exact h.elim
  | cons e r =>
    cases e with
    | own fr ce =>
      cases fr with
      | false => exact ⟨_, _, rfl, h⟩
      | true => exact h.elim
    | _ => exact h.elim
theorem exW_list {d : PyData} {R : List PyData → Prop} : (∃ ds, d = .list ds ∧ R ds) = W1 (listOf d) R := by
  refine propext ⟨fun ⟨ds, h, r⟩ => by
    cases h
    exact r, fun h => ?_⟩
  cases d with
  | list ds => exact ⟨_, rfl, h⟩
  | _ => exact h.elim
theorem exW_int {d : PyData} {R : Int → Prop} : (∃ i, d = .int i ∧ R i) = W1 (intOf d) R := by
  refine propext ⟨fun ⟨ds, h, r⟩ => by
    cases h
    exact r, fun h => ?_⟩
  cases d with
  | int i => exact ⟨_, rfl, h⟩
  | _ => exact h.elim
theorem x_lend {i : Nat} {f : MF} {p : List Nat} {dd : List PyData} {n nk : MA} : W (mLend i f p dd n nk ρ) S = W1 ρ[i]? fun e => W1 (ownOf e) fun _ => W (n ρ) fun ds ρ => W (nk ρ) fun es ρ => W1 ρ[i]? fun e => W1 (ownOf e) fun q =>
    W (f (.own false q.2 :: (pick p (ds ++ es ++ dd)).map .val)) fun e o => W1 (outOf o) fun ce => resE e = true ∧ S e (ρ.set i (.own q.1 ce)) := by
  rw [w_lend]
  refine W1_fn fun e => ?_
  refine Eq.trans ?_ (exW_own (R := fun _ _ => _))
  have inner : (W (n ρ) fun ds ρ => W (nk ρ) fun es ρ => W1 ρ[i]? fun e => ∃ fr ce, e = .own fr ce ∧ W (f (.own false ce :: (pick p (ds ++ es ++ dd)).map .val)) fun e o => ∃ ce' r, o = .own false ce' :: r ∧ resE e = true ∧ S e (ρ.set i (.own fr ce'))) =
      W (n ρ) fun ds ρ => W (nk ρ) fun es ρ => W1 ρ[i]? fun e => W1 (ownOf e) fun q => W (f (.own false q.2 :: (pick p (ds ++ es ++ dd)).map .val)) fun e o => W1 (outOf o) fun ce => resE e = true ∧ S e (ρ.set i (.own q.1 ce)) :=
    W_fn fun ds ρ => W_fn fun es ρ => W1_fn fun e => exW_own.trans (W1_fn fun q => W_fn fun e o => exW_out)
  rw [inner]
  refine propext ⟨fun ⟨h1, h2⟩ => ?_, fun ⟨fr, ce, h1, h2⟩ => ?_⟩
  · cases e with
    | own fr ce => exact ⟨fr, ce, rfl, h2⟩
    | _ => exact h1.elim
  · subst h1
    exact ⟨trivial, h2⟩
theorem x_app {j : Nat} {m : MV} : W (mApp j m ρ) S = W1 ρ[j]? fun e => W1 (lstOf e) fun _ => W (m ρ) fun d ρ => W1 ρ[j]? fun e => W1 (lstOf e) fun q => q.2.length < 100000 ∧ S (.val .none) (ρ.set j (.own q.1 (.lst (q.2 ++ [d])))) := by
  rw [w_app]
  refine W1_fn fun e => ?_
  refine Eq.trans ?_ (exW_lst (R := fun _ _ => _))
  have inner : (W (m ρ) fun d ρ => W1 ρ[j]? fun e => ∃ fr ds, e = .own fr (.lst ds) ∧ ds.length < 100000 ∧ S (.val .none) (ρ.set j (.own fr (.lst (ds ++ [d]))))) = W (m ρ) fun d ρ => W1 ρ[j]? fun e => W1 (lstOf e) fun q => q.2.length < 100000 ∧ S (.val .none) (ρ.set j (.own q.1 (.lst (q.2 ++ [d])))) :=
    W_fn fun d ρ => W1_fn fun e => exW_lst
  rw [inner]
  refine propext ⟨fun ⟨h1, h2⟩ => ?_, fun ⟨fr, ce, h1, h2⟩ => ?_⟩
  · cases e with
    | own fr ce =>
      cases ce with
      | lst ds => exact ⟨fr, ds, rfl, h2⟩
      | _ => exact h1.elim
    | _ => exact h1.elim
  · subst h1
    exact ⟨trivial, h2⟩
theorem x_ext {j : Nat} {m : MV} : W (mExt j m ρ) S = W1 ρ[j]? fun e => W1 (lstOf e) fun _ => W (m ρ) fun d ρ => W1 (listOf d) fun es => W1 ρ[j]? fun e => W1 (lstOf e) fun q => q.2.length + es.length ≤ 100000 ∧ S (.val .none) (ρ.set j (.own q.1 (.lst (q.2 ++ es)))) := by
  rw [w_ext]
  refine W1_fn fun e => ?_
  refine Eq.trans ?_ (exW_lst (R := fun _ _ => _))
  have inner : (W (m ρ) fun d ρ => W1 (listOf d) fun es => W1 ρ[j]? fun e => ∃ fr ds, e = .own fr (.lst ds) ∧ ds.length + es.length ≤ 100000 ∧ S (.val .none) (ρ.set j (.own fr (.lst (ds ++ es))))) = W (m ρ) fun d ρ => W1 (listOf d) fun es => W1 ρ[j]? fun e => W1 (lstOf e) fun q => q.2.length + es.length ≤ 100000 ∧ S (.val .none) (ρ.set j (.own q.1 (.lst (q.2 ++ es)))) :=
    W_fn fun d ρ => W1_fn fun es => W1_fn fun e => exW_lst
  rw [inner]
  refine propext ⟨fun ⟨h1, h2⟩ => ?_, fun ⟨fr, ce, h1, h2⟩ => ?_⟩
  · cases e with
    | own fr ce =>
      cases ce with
      | lst ds => exact ⟨fr, ds, rfl, h2⟩
      | _ => exact h1.elim
    | _ => exact h1.elim
  · subst h1
    exact ⟨trivial, h2⟩
theorem x_dkM {s i : Nat} : W (mDkM s i ρ) Q = W1 ρ[i]? fun e => W1 (dkOf s e) fun q => Q (.int q.2.2.1) ρ := by
  rw [w_dkM]
  refine W1_fn fun e => ?_
  exact exW_dk (R := fun _ _ m _ => Q (.int m) ρ)
theorem x_dkT {s i : Nat} : W (mDkT s i ρ) Q = W1 ρ[i]? fun e => W1 (dkOf s e) fun q => Q (.int q.2.2.2) ρ := by
  rw [w_dkT]
  refine W1_fn fun e => ?_
  exact exW_dk (R := fun _ _ _ t => Q (.int t) ρ)
theorem x_dkL {s i : Nat} : W (mDkL s i ρ) R = W1 ρ[i]? fun e => W1 (dkOf s e) fun q => R (!q.2.1.isEmpty) ρ := by
  rw [w_dkL]
  refine W1_fn fun e => ?_
  exact exW_dk (R := fun _ l _ _ => R (!l.isEmpty) ρ)
theorem x_dkPop {s i : Nat} : W (mDkPop s i ρ) Q = W1 ρ[i]? fun e => W1 (dkOf s e) fun q => W1 q.2.1.getLast? fun x => Q (.int x) (ρ.set i (.own q.1 (.deck s q.2.1.dropLast q.2.2.1 q.2.2.2))) := by
  rw [w_dkPop]
  refine W1_fn fun e => ?_
  refine (exW_dk (R := fun fr l m t => ∃ x, l.getLast? = some x ∧ Q (.int x) (ρ.set i (.own fr (.deck s l.dropLast m t))))).trans ?_
  refine W1_fn fun q => ?_
  cases q.2.1.getLast? with
  | none => exact propext ⟨fun ⟨x, h, _⟩ => (by cases h), fun h => h.elim⟩
  | some y => exact propext ⟨fun ⟨x, h, r⟩ => (by
      cases h
      exact r), fun h => ⟨_, rfl, h⟩⟩
theorem x_dkApp {s i : Nat} {m : MV} : W (mDkApp s i m ρ) S = W1 ρ[i]? fun e => W1 (dkOf s e) fun q => q.2.1.length < 100000 ∧ W (m (ρ.map valS)) fun d _ => W1 (intOf d) fun x => S (.val .none) (ρ.set i (.own q.1 (.deck s (q.2.1 ++ [x]) q.2.2.1 q.2.2.2))) := by
  rw [w_dkApp]
  refine W1_fn fun e => ?_
  exact exW_dk (R := fun fr l mx t => l.length < 100000 ∧ W (m (ρ.map valS)) fun d _ => W1 (intOf d) fun x => S (.val .none) (ρ.set i (.own fr (.deck s (l ++ [x]) mx t))))
theorem x_dkSetM {s i : Nat} {m : MV} : W1 (mDkSetM s i m ρ) Z = W (m ρ) fun d ρ => W1 (intOf d) fun x => W1 ρ[i]? fun e => W1 (dkOf s e) fun q => Z (.nx (ρ.set i (.own q.1 (.deck s q.2.1 x q.2.2.2)))) := by
  rw [w_dkSetM]
  show W (m ρ) (fun d ρ => W1 (intOf d) fun x => _) = _
  refine W_fn fun d ρ => ?_
  refine W1_fn fun x => ?_
  refine W1_fn fun e => ?_
  exact exW_dk (R := fun fr l _ t => Z (.nx (ρ.set i (.own fr (.deck s l x t)))))
theorem x_dkSetT {s i : Nat} {m : MV} : W1 (mDkSetT s i m ρ) Z = W (m ρ) fun d ρ => W1 (intOf d) fun x => W1 ρ[i]? fun e => W1 (dkOf s e) fun q => Z (.nx (ρ.set i (.own q.1 (.deck s q.2.1 q.2.2.1 x)))) := by
  rw [w_dkSetT]
  show W (m ρ) (fun d ρ => W1 (intOf d) fun x => _) = _
  refine W_fn fun d ρ => ?_
  refine W1_fn fun x => ?_
  refine W1_fn fun e => ?_
  exact exW_dk (R := fun fr l mx _ => Z (.nx (ρ.set i (.own fr (.deck s l mx x)))))
theorem x_cat {a b : MV} : W (mCat a b ρ) S = W (a ρ) fun x ρ => W (b ρ) fun y ρ => W1 (listOf x) fun xs => W1 (listOf y) fun ys => xs.length + ys.length ≤ 100000 ∧ S (.own true (.lst (xs ++ ys))) ρ := by
  rw [w_cat]
  refine W_fn fun x ρ => ?_
  refine W_fn fun y ρ => ?_
  refine propext ⟨fun ⟨xs, ys, h1, h2, h3⟩ => by
    subst h1 h2
    exact h3, fun h => ?_⟩
  cases x with
  | list xs =>
    cases y with
    | list ys => exact ⟨_, _, rfl, rfl, h⟩
    | _ => exact h.elim
  | _ => exact h.elim
def int1 : List PyData → Option Int
  | [.int i] => some i
  | _ => none
def int2 : List PyData → Option (Int × Int)
  | [.int i, .int j] => some (i, j)
  | _ => none
def list1 : List PyData → Option (List PyData)
  | [.list ds] => some ds
  | _ => none
theorem int1_of {i : Int} : int1 [.int i] = some i := rfl
theorem int2_of {i j : Int} : int2 [.int i, .int j] = some (i, j) := rfl
theorem list1_of {ds : List PyData} : list1 [.list ds] = some ds := rfl
theorem x_r1 {n : MA} : W (mR1 n ρ) A = W (n ρ) fun ds ρ => W1 (int1 ds) fun j => (-(2 ^ 62) ≤ j ∧ j < 2 ^ 62) ∧ A (rngD 0 j.toNat) ρ := by
  rw [w_r1]
  refine W_fn fun ds ρ => ?_
  refine propext ⟨fun ⟨j, h, r⟩ => by
    subst h
    exact r, fun h => ?_⟩
  unfold int1 at h
  split at h
  · exact ⟨_, rfl, h⟩
  · exact h.elim
theorem x_r2 {n : MA} : W (mR2 n ρ) A = W (n ρ) fun ds ρ => W1 (int2 ds) fun q => (-(2 ^ 62) ≤ q.1 ∧ q.1 < 2 ^ 62 ∧ -(2 ^ 62) ≤ q.2 ∧ q.2 < 2 ^ 62) ∧ A (rngD q.1 (q.2 - q.1).toNat) ρ := by
  rw [w_r2]
  refine W_fn fun ds ρ => ?_
  refine propext ⟨fun ⟨i, j, h, r⟩ => by
    subst h
    exact r, fun h => ?_⟩
  unfold int2 at h
  split at h
  · exact ⟨_, _, rfl, h⟩
  · exact h.elim
theorem x_enum {n : MA} : W (mEnum n ρ) A = W (n ρ) fun ds ρ => W1 (list1 ds) fun xs => A (enumD 0 xs) ρ := by
  rw [w_enum]
  refine W_fn fun ds ρ => ?_
  refine propext ⟨fun ⟨j, h, r⟩ => by
    subst h
    exact r, fun h => ?_⟩
  unfold list1 at h
  split at h
  · exact ⟨_, rfl, h⟩
  · exact h.elim
theorem x_dkNew {s : Nat} {a : MO} {b c : MV} : W (mDkNew s a b c ρ) S = W (a ρ) fun e ρ => W1 (lstOf e) fun q => q.1 = true ∧ W1 (intsD q.2) fun ns => W (b ρ) fun d ρ => W1 (intOf d) fun m => W (c ρ) fun d ρ => W1 (intOf d) fun t => S (.own true (.deck s ns m t)) ρ := by
  rw [w_dkNew]
  refine W_fn fun e ρ => ?_
  have inner : ∀ ns : List Int, (W (b ρ) fun d ρ => ∃ m, d = .int m ∧ W (c ρ) fun d ρ => ∃ t, d = .int t ∧ S (.own true (.deck s ns m t)) ρ) = W (b ρ) fun d ρ => W1 (intOf d) fun m => W (c ρ) fun d ρ => W1 (intOf d) fun t => S (.own true (.deck s ns m t)) ρ := fun ns => by
    refine W_fn fun d ρ => exW_int.trans (W1_fn fun m => W_fn fun d ρ => exW_int)
  refine propext ⟨fun ⟨ns, h, r⟩ => ?_, fun h => ?_⟩
  · subst h
    refine ⟨rfl, ?_⟩
    rw [inner] at r
    show W1 (intsD (ns.map PyData.int)) _
    rw [intsD_map]
    exact r
  · cases e with
    | own fr ce =>
      cases ce with
      | lst ds =>
        obtain ⟨h1, h2⟩ := h
        obtain ⟨ns, e, _⟩ := h2.at_
        have := intsD_eq e
        subst this
        have h1 : fr = true := h1
        subst h1
        refine ⟨ns, rfl, ?_⟩
        rw [inner]
        have h2 : W1 (intsD (ns.map PyData.int)) (fun ns => W (b ρ) fun d ρ => W1 (intOf d) fun m => W (c ρ) fun d ρ => W1 (intOf d) fun t => S (.own true (.deck s ns m t)) ρ) := h2
        rw [intsD_map] at h2
        exact h2
      | _ => exact h.elim
    | _ => exact h.elim
end
/-! ### numbers -/
theorem log2_small {i : Int} {k : Nat} (h : i.natAbs < 2 ^ k) (hk : 0 < k) : i.natAbs.log2 < k := by
  by_cases z : i.natAbs = 0
  · rw [z, Nat.log2_zero]
    exact hk
  · exact (Nat.log2_lt z).mpr h
theorem mulC {i j : Int} (h : i.natAbs < 2 ^ 128) (h' : j.natAbs < 2 ^ 128) : gMulC i j = true := by
  unfold gMulC
  refine decide_eq_true ?_
  have a := log2_small h (by decide)
  have b := log2_small h' (by decide)
  omega
theorem divC {i j : Int} (h : 0 < j) (h' : j.natAbs < 2 ^ 128) : gDivC i j = true := by
  unfold gDivC
  have b := log2_small h' (by decide)
  simp only [Bool.and_eq_true, decide_eq_true_eq]
  exact ⟨h, by omega⟩
/-- a deck in order: as many draws at most -/
def DkOk (n : Nat) (l : List Int) (m t : Int) : Prop := 0 ≤ m ∧ m < 4611686018427387904 ∧ 0 ≤ t ∧ t ≤ n ∧ l.length ≤ 63
theorem mulCi {i j : Int} (h0 : 0 ≤ i) (h1 : i < 2 ^ 120) (h2 : 0 ≤ j) (h3 : j < 2 ^ 120) : gMulC i j = true := mulC (by omega) (by omega)
theorem divCi {i j : Int} (h : 0 < j) (h' : j < 2 ^ 120) : gDivC i j = true := divC h (by omega)
theorem atI_mem {ds : List PyData} {r : Int} (h0 : 0 ≤ r) (h1 : r < ds.length) : ∃ d, L2.atI ds r = some d ∧ d ∈ ds ∧ ds[r.toNat]? = some d := by
  have hr : r.toNat < ds.length := by omega
  refine ⟨ds[r.toNat], ?_, List.getElem_mem hr, List.getElem?_eq_getElem hr⟩
  unfold L2.atI L2.ixN
  rw [if_pos h0, if_pos h1]
  exact List.getElem?_eq_getElem hr
theorem dk_end {s n : Nat} {l : List Int} {m t : Int} {below x : Int} (hb : 0 < below) (h : DkOk (n + 1) l m t) : ∃ (r : Int) (l' : List Int) (m' t' : Int) (o : List Ent), Ent.val (PyData.int (x % below)) = Ent.val (PyData.int r) ∧ 0 ≤ r ∧ r < below ∧ [Ent.own false (Cell.deck s l m t), Ent.no] = Ent.own false (Cell.deck s l' m' t') :: o ∧ DkOk (n + 1) l' m' t' :=
  ⟨_, _, _, _, _, rfl, Int.emod_nonneg _ (by omega), Int.emod_lt_of_pos _ hb, rfl, h⟩
/-- what a draw does -/
def DrawS (s : Nat) (f : MF) : Prop := ∀ (n : Nat) (l : List Int) (m t below : Int), DkOk n l m t → n < 2 ^ 64 → 0 < below → below < 2 ^ 100 → W (f [.own false (.deck s l m t), .val (.int below)]) fun e outs => ∃ r l' m' t' o, e = .val (.int r) ∧ 0 ≤ r ∧ r < below ∧ outs = .own false (.deck s l' m' t') :: o ∧ DkOk (n + 1) l' m' t'
/-- what a pick does -/
def PickS (s : Nat) (f : MF) : Prop := ∀ (n : Nat) (l : List Int) (m t : Int) (ds : List PyData), DkOk n l m t → n < 2 ^ 64 → ds ≠ [] → ds.length ≤ 100000 → W (f [.own false (.deck s l m t), .val (.list ds)]) fun e outs => ∃ d l' m' t' o, d ∈ ds ∧ e = .val d ∧ outs = .own false (.deck s l' m' t') :: o ∧ DkOk (n + 1) l' m' t'
theorem cut63 {xs : List PyData} (h : xs.length ≤ 63) : cutD xs none (some 63) = xs := by
  unfold cutD HT.sIx
  simp only [List.drop_zero]
  refine List.take_of_length_le ?_
  simp
  omega
/-- the deck of a script -/
def DeckS (s : Nat) (f : MF) : Prop := ∀ ns : List Int, ns.length ≤ 63 → W (f [.scr ns]) fun e _ => ∃ l m t, e = .own true (.deck s l m t) ∧ DkOk 0 l m t
/-- texts of rows of numbers -/
theorem shown_ints {ns : List Int} (h : ∀ i ∈ ns, i.natAbs < 10 ^ 12) (hl : ns.length ≤ 1000) : (PyData.tuple (ns.map .int)).showable = true ∧ SeqAt.shaped (.tuple (ns.map .int)) = true ∧ (PyData.tuple (ns.map .int)).shown.length ≤ 100000 := by
  have h1 : ∀ ns : List Int, (∀ i ∈ ns, i.natAbs < 10 ^ 12) → PyData.showableAll (ns.map .int) = true ∧ PyData.leavesShortAll 13 (ns.map .int) = true ∧ PyData.bulkAll (ns.map .int) = ns.length := by
    intro ns
    induction ns with
    | nil => exact fun _ => ⟨rfl, rfl, rfl⟩
    | cons i ns ih =>
      intro h
      obtain ⟨a, b, c⟩ := ih fun j hj => h j (List.mem_cons_of_mem _ hj)
      have hi := h i (List.mem_cons_self ..)
      have hl : i.natAbs.log2 < 1920 := log2_small (Nat.lt_of_lt_of_le hi (Nat.le_trans (by decide : (10:Nat) ^ 12 ≤ 2 ^ 128) (Nat.pow_le_pow_right (by decide) (by decide)))) (by decide)
      refine ⟨?_, ?_, ?_⟩
      · rw [List.map_cons]
        unfold PyData.showableAll
        rw [a, Bool.and_true]
        unfold PyData.showable
        exact decide_eq_true hl
      · rw [List.map_cons]
        unfold PyData.leavesShortAll
        rw [b, Bool.and_true]
        unfold PyData.leavesShort
        exact decide_eq_true (PyData.shown_int_le hi)
      · rw [List.map_cons]
        unfold PyData.bulkAll
        rw [c, List.length_cons]
        simp only [PyData.bulk]
        omega
  obtain ⟨a, b, c⟩ := h1 ns h
  refine ⟨by unfold PyData.showable; exact a, ?_, ?_⟩
  · unfold SeqAt.shaped
    rw [show PyData.canLay0 (.tuple (ns.map .int)) = true from by unfold PyData.canLay0; exact canLay_ints ns]
    rw [show PyData.depth (.tuple (ns.map .int)) = 1 from by unfold PyData.depth; rw [depth_ints]]
    rfl
  · have := PyData.shown_le_bulk 13 (by decide) (.tuple (ns.map .int)) (by unfold PyData.leavesShort; exact b)
    have e : PyData.bulk (.tuple (ns.map .int)) = ns.length := by unfold PyData.bulk; exact c
    rw [e] at this
    omega
theorem g_repr {S : Ent → Prop} {d : PyData} (h : d.showable = true ∧ SeqAt.shaped d = true ∧ d.shown.length ≤ 100000) : W1 (gRepr [d]) S = S (.val (.str d.shown)) := by
  unfold gRepr
  simp only [h.1, h.2.1, h.2.2, decide_true, Bool.and_self, if_true]
  rfl
end Fj

set_option Elab.async false
set_option linter.all false
set_option maxRecDepth 100000
set_option maxHeartbeats 4000000
set_option autoImplicit false
/-! More of what mirrors say. -/
namespace Fj
open PySem PySem.Spec PyProof.Rows L2

theorem kt_NoneType_int : kitB "NoneType" "int" = some false := by decide +kernel
theorem kt_NoneType_bool : kitB "NoneType" "bool" = some false := by decide +kernel
theorem kt_NoneType_str : kitB "NoneType" "str" = some false := by decide +kernel
theorem kt_NoneType_list : kitB "NoneType" "list" = some false := by decide +kernel
theorem kt_NoneType_tuple : kitB "NoneType" "tuple" = some false := by decide +kernel
theorem kt_NoneType_dict : kitB "NoneType" "dict" = some false := by decide +kernel
theorem kt_bool_int : kitB "bool" "int" = some true := by decide +kernel
theorem kt_bool_bool : kitB "bool" "bool" = some true := by decide +kernel
theorem kt_bool_str : kitB "bool" "str" = some false := by decide +kernel
theorem kt_bool_list : kitB "bool" "list" = some false := by decide +kernel
theorem kt_bool_tuple : kitB "bool" "tuple" = some false := by decide +kernel
theorem kt_bool_dict : kitB "bool" "dict" = some false := by decide +kernel
theorem kt_int_int : kitB "int" "int" = some true := by decide +kernel
theorem kt_int_bool : kitB "int" "bool" = some false := by decide +kernel
theorem kt_int_str : kitB "int" "str" = some false := by decide +kernel
theorem kt_int_list : kitB "int" "list" = some false := by decide +kernel
theorem kt_int_tuple : kitB "int" "tuple" = some false := by decide +kernel
theorem kt_int_dict : kitB "int" "dict" = some false := by decide +kernel
theorem kt_str_int : kitB "str" "int" = some false := by decide +kernel
theorem kt_str_bool : kitB "str" "bool" = some false := by decide +kernel
theorem kt_str_str : kitB "str" "str" = some true := by decide +kernel
theorem kt_str_list : kitB "str" "list" = some false := by decide +kernel
theorem kt_str_tuple : kitB "str" "tuple" = some false := by decide +kernel
theorem kt_str_dict : kitB "str" "dict" = some false := by decide +kernel
theorem kt_list_int : kitB "list" "int" = some false := by decide +kernel
theorem kt_list_bool : kitB "list" "bool" = some false := by decide +kernel
theorem kt_list_str : kitB "list" "str" = some false := by decide +kernel
theorem kt_list_list : kitB "list" "list" = some true := by decide +kernel
theorem kt_list_tuple : kitB "list" "tuple" = some false := by decide +kernel
theorem kt_list_dict : kitB "list" "dict" = some false := by decide +kernel
theorem kt_tuple_int : kitB "tuple" "int" = some false := by decide +kernel
theorem kt_tuple_bool : kitB "tuple" "bool" = some false := by decide +kernel
theorem kt_tuple_str : kitB "tuple" "str" = some false := by decide +kernel
theorem kt_tuple_list : kitB "tuple" "list" = some false := by decide +kernel
theorem kt_tuple_tuple : kitB "tuple" "tuple" = some true := by decide +kernel
theorem kt_tuple_dict : kitB "tuple" "dict" = some false := by decide +kernel
theorem kt_dict_int : kitB "dict" "int" = some false := by decide +kernel
theorem kt_dict_bool : kitB "dict" "bool" = some false := by decide +kernel
theorem kt_dict_str : kitB "dict" "str" = some false := by decide +kernel
theorem kt_dict_list : kitB "dict" "list" = some false := by decide +kernel
theorem kt_dict_tuple : kitB "dict" "tuple" = some false := by decide +kernel
theorem kt_dict_dict : kitB "dict" "dict" = some true := by decide +kernel
section
variable {ρ : En} {Q : PyData → Prop} {S : Ent → Prop} {i j : Int}
theorem w_lcNil {g : MG} {t : MT} {m : MV} {vs : List Nat} {acc : List PyData} {A : List PyData → En → Prop} : W (lcL g t m vs [] acc ρ) A = A acc ρ := rfl
theorem w_lcCons {g : MG} {t : MT} {m : MV} {vs : List Nat} {d : PyData} {ds acc : List PyData} {A : List PyData → En → Prop} : W (lcL g t m vs (d :: ds) acc ρ) A = W1 (g d ρ) fun ρ => W (t ρ) fun b ρ =>
    IfB b (W (m ρ) fun y ρ => (acc.length < 100000 ∧ vs.all (freeE ρ) = true) ∧ W (lcL g t m vs ds (acc ++ [y]) (wipeE ρ vs)) A) (vs.all (freeE ρ) = true ∧ W (lcL g t m vs ds acc (wipeE ρ vs)) A) := by
  show W (match g d ρ with
      | none => none
      | some ρ => match t ρ with
        | none => none
        | some (false, ρ) => if vs.all (freeE ρ) = true then lcL g t m vs ds acc (wipeE ρ vs) else none
        | some (true, ρ) => match m ρ with
          | none => none
          | some (y, ρ) => if acc.length < 100000 ∧ vs.all (freeE ρ) = true then lcL g t m vs ds (acc ++ [y]) (wipeE ρ vs) else none) A = _
  cases g d ρ with
  | none => rfl
  | some ρ1 =>
    simp only [W1_some]
    cases t ρ1 with
    | none => rfl
    | some z =>
      obtain ⟨b, ρ2⟩ := z
      simp only [W_some]
      cases b with
      | false =>
        refine Eq.trans ?_ (eq_f _ _)
        simp only [W_ite, W_none]
        by_cases h : vs.all (freeE ρ2) = true
        · simp [h]
        · simp [h]
      | true =>
        refine Eq.trans ?_ (eq_t _ _)
        simp only
        cases m ρ2 with
        | none => rfl
        | some z =>
          obtain ⟨y, ρ3⟩ := z
          simp only [W_some, W_ite, W_none]
          by_cases h : acc.length < 100000 ∧ vs.all (freeE ρ3) = true
          · simp [h]
          · simp only [h, false_and, not_false_eq_true, false_implies, true_implies, and_false]
theorem g_all {ds : List PyData} : W1 (gAll [.list ds]) S = W1 (boolsD ds) fun bs => S (.val (.bool (bs.all id))) := by
  unfold gAll
  simp only
  cases boolsD ds <;> rfl
theorem g_any {ds : List PyData} : W1 (gAny [.list ds]) S = W1 (boolsD ds) fun bs => S (.val (.bool (bs.any id))) := by
  unfold gAny
  simp only
  cases boolsD ds <;> rfl
theorem g_sum {ds : List PyData} : W1 (gSum [.list ds]) S = W1 (intsD ds) fun bs => S (.val (.int bs.sum)) := by
  unfold gSum
  simp only
  cases intsD ds <;> rfl
theorem g_bools0 {R : List Bool → Prop} : W1 (boolsD []) R = R [] := rfl
theorem g_bools1 {b : Bool} {ds : List PyData} {R : List Bool → Prop} : W1 (boolsD (.bool b :: ds)) R = W1 (boolsD ds) fun bs => R (b :: bs) := by
  show W1 ((boolsD ds).map fun l => b :: l) R = _
  cases boolsD ds <;> rfl
theorem g_ltT {xs ys : List PyData} : W1 (gLt (.tuple xs) (.tuple ys)) Q = W1 (intsD xs) fun ns => W1 (intsD ys) fun ms => Q (.bool (HT.lexLt ns ms)) := by
  unfold gLt gB gLtS gLtT
  simp only [Option.none_or]
  cases intsD xs with
  | none => rfl
  | some ns =>
    simp only [W1_some]
    cases intsD ys <;> rfl
theorem g_ints0 {R : List Int → Prop} : W1 (intsD []) R = R [] := rfl
theorem g_ints1 {i : Int} {ds : List PyData} {R : List Int → Prop} : W1 (intsD (.int i :: ds)) R = W1 (intsD ds) fun bs => R (i :: bs) := by
  show W1 ((intsD ds).map fun l => i :: l) R = _
  cases intsD ds <;> rfl
theorem g_intsM {ns : List Int} {R : List Int → Prop} : W1 (intsD (ns.map .int)) R = R ns := by
  rw [intsD_map]
  rfl
theorem g_slT {ds : List PyData} {lo hi : Option Int} : W1 (gSl (.tuple ds) lo hi) S = S (.val (.tuple (cutD ds lo hi))) := rfl
theorem g_slL {ds : List PyData} {lo hi : Option Int} : W1 (gSl (.list ds) lo hi) S = S (.own true (.lst (cutD ds lo hi))) := rfl
theorem g_isTrue {b : Bool} : W1 (gIs (.bool b) (.bool true)) Q = Q (.bool b) := by
  cases b <;> rfl
theorem g_notTrue {b : Bool} : W1 (gNot (.bool b) (.bool true)) Q = Q (.bool (!b)) := by
  cases b <;> rfl
theorem g_isNone {d : PyData} : W1 (gIs d .none) Q = Q (.bool (isND d)) := by
  cases d <;> rfl
theorem g_notNone {d : PyData} : W1 (gNot d .none) Q = Q (.bool (!isND d)) := by
  cases d <;> rfl
theorem W_eq {α β : Type} {r : Option (α × β)} {a : α} {b : β} (h : W r fun x y => x = a ∧ y = b) : r = some (a, b) := by
  obtain ⟨x, y, e, rfl, rfl⟩ := h.at_
  exact e
theorem at_lit {ds : List PyData} {k : Nat} : L2.atI ds (@OfNat.ofNat Int k instOfNat) = ds[k]? := by
  show L2.atI ds ((k : Nat) : Int) = ds[k]?
  unfold L2.atI L2.ixN
  rw [if_pos (Int.natCast_nonneg k)]
  by_cases h : k < ds.length
  · rw [if_pos (by omega)]
    rfl
  · rw [if_neg (by omega), List.getElem?_eq_none (by omega)]
    rfl
theorem at_0 {x0 : PyData} {l : List PyData} : L2.atI (x0 :: l) 0 = some x0 := @at_lit (x0 :: l) 0
theorem at_1 {x0 x1 : PyData} {l : List PyData} : L2.atI (x0 :: x1 :: l) 1 = some x1 := @at_lit (x0 :: x1 :: l) 1
theorem at_2 {x0 x1 x2 : PyData} {l : List PyData} : L2.atI (x0 :: x1 :: x2 :: l) 2 = some x2 := @at_lit (x0 :: x1 :: x2 :: l) 2
theorem at_3 {x0 x1 x2 x3 : PyData} {l : List PyData} : L2.atI (x0 :: x1 :: x2 :: x3 :: l) 3 = some x3 := @at_lit (x0 :: x1 :: x2 :: x3 :: l) 3
theorem at_4 {x0 x1 x2 x3 x4 : PyData} {l : List PyData} : L2.atI (x0 :: x1 :: x2 :: x3 :: x4 :: l) 4 = some x4 := @at_lit (x0 :: x1 :: x2 :: x3 :: x4 :: l) 4
theorem at_5 {x0 x1 x2 x3 x4 x5 : PyData} {l : List PyData} : L2.atI (x0 :: x1 :: x2 :: x3 :: x4 :: x5 :: l) 5 = some x5 := @at_lit (x0 :: x1 :: x2 :: x3 :: x4 :: x5 :: l) 5
theorem at_6 {x0 x1 x2 x3 x4 x5 x6 : PyData} {l : List PyData} : L2.atI (x0 :: x1 :: x2 :: x3 :: x4 :: x5 :: x6 :: l) 6 = some x6 := @at_lit (x0 :: x1 :: x2 :: x3 :: x4 :: x5 :: x6 :: l) 6
theorem at_7 {x0 x1 x2 x3 x4 x5 x6 x7 : PyData} {l : List PyData} : L2.atI (x0 :: x1 :: x2 :: x3 :: x4 :: x5 :: x6 :: x7 :: l) 7 = some x7 := @at_lit (x0 :: x1 :: x2 :: x3 :: x4 :: x5 :: x6 :: x7 :: l) 7
theorem at_8 {x0 x1 x2 x3 x4 x5 x6 x7 x8 : PyData} {l : List PyData} : L2.atI (x0 :: x1 :: x2 :: x3 :: x4 :: x5 :: x6 :: x7 :: x8 :: l) 8 = some x8 := @at_lit (x0 :: x1 :: x2 :: x3 :: x4 :: x5 :: x6 :: x7 :: x8 :: l) 8
theorem at_9 {x0 x1 x2 x3 x4 x5 x6 x7 x8 x9 : PyData} {l : List PyData} : L2.atI (x0 :: x1 :: x2 :: x3 :: x4 :: x5 :: x6 :: x7 :: x8 :: x9 :: l) 9 = some x9 := @at_lit (x0 :: x1 :: x2 :: x3 :: x4 :: x5 :: x6 :: x7 :: x8 :: x9 :: l) 9
theorem nc_0 : ((0 : Nat) : Int) = 0 := rfl
theorem nc_1 : ((1 : Nat) : Int) = 1 := rfl
theorem nc_2 : ((2 : Nat) : Int) = 2 := rfl
theorem nc_3 : ((3 : Nat) : Int) = 3 := rfl
theorem nc_4 : ((4 : Nat) : Int) = 4 := rfl
theorem nc_5 : ((5 : Nat) : Int) = 5 := rfl
theorem nc_6 : ((6 : Nat) : Int) = 6 := rfl
theorem nc_7 : ((7 : Nat) : Int) = 7 := rfl
theorem nc_8 : ((8 : Nat) : Int) = 8 := rfl
theorem nc_9 : ((9 : Nat) : Int) = 9 := rfl
theorem nc_10 : ((10 : Nat) : Int) = 10 := rfl
theorem nc_11 : ((11 : Nat) : Int) = 11 := rfl
theorem nc_12 : ((12 : Nat) : Int) = 12 := rfl
theorem nc_13 : ((13 : Nat) : Int) = 13 := rfl
theorem nc_14 : ((14 : Nat) : Int) = 14 := rfl
theorem nc_15 : ((15 : Nat) : Int) = 15 := rfl
theorem nc_16 : ((16 : Nat) : Int) = 16 := rfl
theorem nc_17 : ((17 : Nat) : Int) = 17 := rfl
theorem nc_18 : ((18 : Nat) : Int) = 18 := rfl
theorem nc_19 : ((19 : Nat) : Int) = 19 := rfl
theorem nc_20 : ((20 : Nat) : Int) = 20 := rfl
theorem DkOk.mono {n n' : Nat} {l : List Int} {m t : Int} (h : DkOk n l m t) (hn : n ≤ n') : DkOk n' l m t := ⟨h.1, h.2.1, h.2.2.1, by have := h.2.2.2.1; omega, h.2.2.2.2⟩
theorem rng_len (lo : Int) (n : Nat) : (rngD lo n).length = n := by
  unfold rngD
  rw [List.length_map, List.length_range]
theorem rng_zero (lo : Int) : rngD lo 0 = [] := rfl
theorem rng_succ (lo : Int) (n : Nat) : rngD lo (n + 1) = .int lo :: rngD (lo + 1) n := by
  unfold rngD
  rw [List.range_succ_eq_map, List.map_cons, List.map_map]
  congr 1
  · show PyData.int (lo + ((0 : Nat) : Int)) = _
    rw [Int.natCast_zero, Int.add_zero]
  · refine List.map_congr_left fun i _ => ?_
    show PyData.int (lo + ((i + 1 : Nat) : Int)) = PyData.int (lo + 1 + (i : Int))
    congr 1
    omega
end
theorem eb_no  : borS .no = .no := rfl
theorem ev_no  : valS .no = .no := rfl
theorem ed_no  : isDk .no = false := rfl
theorem ef_no  {k : Bool} : dkFit k .no = true := rfl
theorem em_no  {x : Ent} : merS .no x = .no := rfl
theorem ek_no  : keepS .no = .no := rfl
theorem eo_no  {x : Ent} : outE .no x = .no := rfl
theorem eb_val {d : PyData} : borS (.val d) = .val d := rfl
theorem ev_val {d : PyData} : valS (.val d) = .val d := rfl
theorem ed_val {d : PyData} : isDk (.val d) = false := rfl
theorem ef_val {d : PyData} {k : Bool} : dkFit k (.val d) = true := rfl
theorem em_val {d : PyData} {x : Ent} : merS (.val d) x = (.val d) := rfl
theorem ek_val {d : PyData} : keepS (.val d) = (.val d) := rfl
theorem eo_val {d : PyData} {x : Ent} : outE (.val d) x = .no := rfl
theorem eb_lst {fr : Bool} {ds : List PyData} : borS (.own fr (.lst ds)) = .val (.list ds) := rfl
theorem ev_lst {fr : Bool} {ds : List PyData} : valS (.own fr (.lst ds)) = .no := rfl
theorem ed_lst {fr : Bool} {ds : List PyData} : isDk (.own fr (.lst ds)) = false := rfl
theorem ef_lst {fr : Bool} {ds : List PyData} {k : Bool} : dkFit k (.own fr (.lst ds)) = true := rfl
theorem em_lst {fr : Bool} {ds : List PyData} {x : Ent} : merS (.own fr (.lst ds)) x = (.own fr (.lst ds)) := rfl
theorem ek_lst {fr : Bool} {ds : List PyData} : keepS (.own fr (.lst ds)) = (.own fr (.lst ds)) := rfl
theorem eb_dk {fr : Bool} {s : Nat} {l : List Int} {m t : Int} : borS (.own fr (.deck s l m t)) = .own false (.deck s l m t) := rfl
theorem ev_dk {fr : Bool} {s : Nat} {l : List Int} {m t : Int} : valS (.own fr (.deck s l m t)) = .no := rfl
theorem ed_dk {fr : Bool} {s : Nat} {l : List Int} {m t : Int} : isDk (.own fr (.deck s l m t)) = true := rfl
theorem ef_dk {fr : Bool} {s : Nat} {l : List Int} {m t : Int} {k : Bool} : dkFit k (.own fr (.deck s l m t)) = (fr == k) := rfl
theorem eb_scr {ns : List Int} : borS (.scr ns) = .no := rfl
theorem ev_scr {ns : List Int} : valS (.scr ns) = .no := rfl
theorem ed_scr {ns : List Int} : isDk (.scr ns) = false := rfl
theorem ef_scr {ns : List Int} {k : Bool} : dkFit k (.scr ns) = true := rfl
theorem em_scr {ns : List Int} {x : Ent} : merS (.scr ns) x = (.scr ns) := rfl
theorem ek_scr {ns : List Int} : keepS (.scr ns) = (.scr ns) := rfl
theorem eo_scr {ns : List Int} {x : Ent} : outE (.scr ns) x = .no := rfl
theorem eb_lent  : borS .lent = .no := rfl
theorem ev_lent  : valS .lent = .no := rfl
theorem ed_lent  : isDk .lent = false := rfl
theorem ef_lent  {k : Bool} : dkFit k .lent = true := rfl
theorem em_lent  {x : Ent} : merS .lent x = .lent := rfl
theorem ek_lent  : keepS .lent = .lent := rfl
theorem eo_lent  {x : Ent} : outE .lent x = .no := rfl
theorem em_dk {fr fr2 : Bool} {s s2 : Nat} {l l2 : List Int} {m t m2 t2 : Int} : merS (.own fr (.deck s l m t)) (.own fr2 (.deck s2 l2 m2 t2)) = .own fr (.deck s2 l2 m2 t2) := rfl
theorem eo_own {fr fr2 : Bool} {c c2 : Cell} : outE (.own fr c) (.own fr2 c2) = .own fr2 c2 := rfl
theorem er_val {d : PyData} : resE (.val d) = true := rfl
theorem er_own {c : Cell} : resE (.own true c) = true := rfl
theorem ez_val {d : PyData} : fz (.val d) = some d := rfl
theorem ez_own {ds : List PyData} : fz (.own true (.lst ds)) = some (.list ds) := rfl
theorem en_val {d : PyData} : nlE (.val d) = nlD d := rfl
theorem en_own {ds : List PyData} : nlE (.own true (.lst ds)) = nlAll ds := rfl
theorem bq_tt : (true == true) = true := rfl
theorem bq_tf : (true == false) = false := rfl
theorem bq_ft : (false == true) = false := rfl
theorem bq_ff : (false == false) = true := rfl
theorem frz_t {ρ : En} {i : Nat} {ds : List PyData} (h : ρ[i]? = some (.own true (.lst ds))) : frz i ρ = ρ.set i (.val (.list ds)) := by
  unfold frz
  rw [h]
theorem cut_take {xs : List PyData} (k : Nat) (h : k ≤ xs.length) : cutD xs none (some (k : Int)) = xs.take k := by
  have e1 : HT.sIx xs.length 0 none = 0 := rfl
  have e2 : HT.sIx xs.length xs.length (some (k : Int)) = k := by
    unfold HT.sIx
    simp only
    rw [if_neg (by omega), Int.toNat_natCast]
    omega
  unfold cutD
  rw [e1, e2]
  rfl
theorem cut_drop {xs : List PyData} (k : Nat) (h : k ≤ xs.length) : cutD xs (some (k : Int)) none = xs.drop k := by
  have e1 : HT.sIx xs.length xs.length none = xs.length := rfl
  have e2 : HT.sIx xs.length 0 (some (k : Int)) = k := by
    unfold HT.sIx
    simp only
    rw [if_neg (by omega), Int.toNat_natCast]
    omega
  unfold cutD
  rw [e1, e2]
  exact List.take_of_length_le (by rw [List.length_drop]; exact Nat.le_refl _)
theorem cT_1 {x0 : PyData} {l : List PyData} : cutD (x0 :: l) none (some 1) = [x0] := cut_take 1 (by simp)
theorem cD_1 {x0 : PyData} {l : List PyData} : cutD (x0 :: l) (some 1) none = l := cut_drop 1 (by simp)
theorem cT_2 {x0 x1 : PyData} {l : List PyData} : cutD (x0 :: x1 :: l) none (some 2) = [x0, x1] := cut_take 2 (by simp)
theorem cD_2 {x0 x1 : PyData} {l : List PyData} : cutD (x0 :: x1 :: l) (some 2) none = l := cut_drop 2 (by simp)
theorem cT_3 {x0 x1 x2 : PyData} {l : List PyData} : cutD (x0 :: x1 :: x2 :: l) none (some 3) = [x0, x1, x2] := cut_take 3 (by simp)
theorem cD_3 {x0 x1 x2 : PyData} {l : List PyData} : cutD (x0 :: x1 :: x2 :: l) (some 3) none = l := cut_drop 3 (by simp)
theorem cT_4 {x0 x1 x2 x3 : PyData} {l : List PyData} : cutD (x0 :: x1 :: x2 :: x3 :: l) none (some 4) = [x0, x1, x2, x3] := cut_take 4 (by simp)
theorem cD_4 {x0 x1 x2 x3 : PyData} {l : List PyData} : cutD (x0 :: x1 :: x2 :: x3 :: l) (some 4) none = l := cut_drop 4 (by simp)
theorem cT_5 {x0 x1 x2 x3 x4 : PyData} {l : List PyData} : cutD (x0 :: x1 :: x2 :: x3 :: x4 :: l) none (some 5) = [x0, x1, x2, x3, x4] := cut_take 5 (by simp)
theorem cD_5 {x0 x1 x2 x3 x4 : PyData} {l : List PyData} : cutD (x0 :: x1 :: x2 :: x3 :: x4 :: l) (some 5) none = l := cut_drop 5 (by simp)
theorem cT_6 {x0 x1 x2 x3 x4 x5 : PyData} {l : List PyData} : cutD (x0 :: x1 :: x2 :: x3 :: x4 :: x5 :: l) none (some 6) = [x0, x1, x2, x3, x4, x5] := cut_take 6 (by simp)
theorem cD_6 {x0 x1 x2 x3 x4 x5 : PyData} {l : List PyData} : cutD (x0 :: x1 :: x2 :: x3 :: x4 :: x5 :: l) (some 6) none = l := cut_drop 6 (by simp)
theorem cT_7 {x0 x1 x2 x3 x4 x5 x6 : PyData} {l : List PyData} : cutD (x0 :: x1 :: x2 :: x3 :: x4 :: x5 :: x6 :: l) none (some 7) = [x0, x1, x2, x3, x4, x5, x6] := cut_take 7 (by simp)
theorem cD_7 {x0 x1 x2 x3 x4 x5 x6 : PyData} {l : List PyData} : cutD (x0 :: x1 :: x2 :: x3 :: x4 :: x5 :: x6 :: l) (some 7) none = l := cut_drop 7 (by simp)
/-- an entry that is no cell -/
def Pl (e : Ent) : Prop := e = .no ∨ ∃ d, e = .val d
theorem Pl.no : Pl .no := .inl rfl
theorem Pl.val {d : PyData} : Pl (.val d) := .inr ⟨d, rfl⟩
theorem Pl.bor {e : Ent} (h : Pl e) : borS e = e := by
  rcases h with rfl | ⟨d, rfl⟩ <;> rfl
theorem Pl.fit {e : Ent} (h : Pl e) {fr : Bool} : dkFit fr e = true := by
  rcases h with rfl | ⟨d, rfl⟩ <;> rfl
theorem Pl.dk {e : Ent} (h : Pl e) : isDk e = false := by
  rcases h with rfl | ⟨d, rfl⟩ <;> rfl
theorem Pl.mer {e x : Ent} (h : Pl e) : merS e x = e := by
  rcases h with rfl | ⟨d, rfl⟩ <;> rfl
theorem Pl.pin {e : Ent} (h : Pl e) : pinE e = false := by
  rcases h with rfl | ⟨d, rfl⟩ <;> rfl
theorem Pl.vs {e : Ent} (h : Pl e) : valS e = e := by
  rcases h with rfl | ⟨d, rfl⟩ <;> rfl
theorem lex5 {a b c d e a' b' c' d' e' : Int} : HT.lexLt [a, b, c, d, e] [a', b', c', d', e'] = decide (a < a' ∨ a = a' ∧ (b < b' ∨ b = b' ∧ (c < c' ∨ c = c' ∧ (d < d' ∨ d = d' ∧ e < e')))) := by
  simp only [HT.lexLt]
  repeat' split
  all_goals rw [Bool.eq_iff_iff]
  all_goals simp only [decide_eq_true_eq, Bool.false_eq_true, false_iff]
  all_goals omega
theorem enum_nil (n : Nat) : enumD n [] = [] := rfl
theorem enum_cons (n : Nat) (d : PyData) (ds : List PyData) : enumD n (d :: ds) = .tuple [.int n, d] :: enumD (n + 1) ds := rfl
end Fj

set_option Elab.async false
set_option linter.all false
set_option maxRecDepth 100000
set_option maxHeartbeats 4000000
set_option autoImplicit false
/-! More rules: several names, sorted, isinstance of two. -/
namespace Fj
open PySem PySem.Spec PyProof.Rows L2

section
variable {ρ : En} {Q : PyData → En → Prop} {S : Ent → En → Prop} {Z : Fl → Prop} {A : List PyData → En → Prop} {E : List Ent → En → Prop} {B : En → Prop}
theorem w_E0 : W (mE0 ρ) E = E [] ρ := rfl
theorem w_E1 {m : MO} {n : ME} : W (mE1 m n ρ) E = W (m ρ) fun e ρ => W (n ρ) fun es ρ => E (e :: es) ρ := by
  unfold mE1
  cases m ρ with
  | none => rfl
  | some p =>
    obtain ⟨e, ρ⟩ := p
    simp only [W_some]
    cases n ρ <;> rfl
theorem w_par {is : List Nat} {n : ME} : W1 (mPar is n ρ) Z = W (n ρ) fun es ρ => W1 (mPuts is es ρ) fun ρ => Z (.nx ρ) := by
  unfold mPar
  cases n ρ with
  | none => rfl
  | some p =>
    obtain ⟨es, ρ⟩ := p
    simp only [W_some]
    cases mPuts is es ρ <;> rfl
theorem w_puts0 : W1 (mPuts [] [] ρ) B = B ρ := rfl
theorem w_puts1 {i : Nat} {is : List Nat} {e : Ent} {es : List Ent} : W1 (mPuts (i :: is) (e :: es) ρ) B = (freeE ρ i = true ∧ W1 (mPuts is es (ρ.set i e)) B) := by
  show W1 (if freeE ρ i = true then mPuts is es (ρ.set i e) else none) B = _
  by_cases h : freeE ρ i = true
  · rw [if_pos h]
    exact propext ⟨fun z => ⟨h, z⟩, fun z => z.2⟩
  · rw [if_neg h]
    exact propext ⟨fun z => z.elim, fun z => absurd z.1 h⟩
theorem w_ss {m : MV} : W (mSS m ρ) S = W (m ρ) fun d ρ => W1 (listOf d) fun ds => W1 (tupsD ds) fun nss => tupsOk nss = true ∧ S (.own true (.lst ((isort HT.lexLt (dedup nss)).map tupI))) ρ := by
  unfold mSS
  cases m ρ with
  | none => rfl
  | some p =>
    obtain ⟨d, ρ⟩ := p
    cases d with
    | list ds =>
      simp only [W_some, listOf, W1_some]
      cases tupsD ds with
      | none => rfl
      | some nss =>
        simp only [W1_some]
        by_cases h : tupsOk nss = true
        · rw [if_pos h]
          exact propext ⟨fun z => ⟨h, z⟩, fun z => z.2⟩
        · rw [if_neg h]
          exact propext ⟨fun z => z.elim, fun z => absurd z.1 h⟩
    | _ => rfl
theorem w_tups {nss : List (List Int)} {R : List (List Int) → Prop} : W1 (tupsD (nss.map tupI)) R = R nss := by
  rw [tupsD_map]
  rfl
theorem g_sortI {ns : List Int} {R : Ent → Prop} : W1 (gSorted [.list (ns.map .int)]) R = R (.own true (.lst ((isort (fun i j => decide (i < j)) ns).map .int))) := by
  unfold gSorted gSortI
  simp only [intsD_map, Option.map_some]
  rfl
theorem g_sortT {nss : List (List Int)} (h : tupsOk nss = true) {R : Ent → Prop} : W1 (gSorted [.list (nss.map tupI)]) R = R (.own true (.lst ((isort HT.lexLt nss).map tupI))) := by
  cases nss with
  | nil => rfl
  | cons n nss =>
    have e : gSortI [.list ((n :: nss).map tupI)] = none := rfl
    unfold gSorted
    rw [e, Option.none_or]
    unfold gSortT
    simp only [tupsD_map, h, if_true]
    rfl
theorem g_sortP {nss : List (List Int)} (h : ∀ n ∈ nss, n.length = 2) {R : Ent → Prop} : W1 (gSorted [.list (nss.map tupI)]) R = R (.own true (.lst ((isort HT.lexLt nss).map tupI))) := by
  cases nss with
  | nil => rfl
  | cons n nss =>
    have e : gSortI [.list ((n :: nss).map tupI)] = none := rfl
    have e2 : ((n :: nss).all fun ns => ns.length == 2) = true := List.all_eq_true.mpr fun m hm => beq_iff_eq.mpr (h m hm)
    have e3 : gSortP [.list ((n :: nss).map tupI)] = some (.own true (.lst ((isort HT.lexLt (n :: nss)).map tupI))) := by
      unfold gSortP
      simp only [tupsD_map, e2, if_true]
    by_cases ok : tupsOk (n :: nss) = true
    · exact g_sortT ok
    · have e4 : gSortT [.list ((n :: nss).map tupI)] = none := by
        unfold gSortT
        simp only [tupsD_map, if_neg ok]
      unfold gSorted
      rw [e, Option.none_or, e4, Option.none_or, e3]
      rfl
theorem w_isi2 {T U : String} {m : MV} : W (mIsi2 T U m ρ) Q = W (m ρ) fun d ρ => W1 (kitB (tyN d) T) fun a => IfB a (Q (.bool true) ρ) (W1 (kitB (tyN d) U) fun b => Q (.bool b) ρ) := by
  unfold mIsi2
  cases m ρ with
  | none => rfl
  | some p =>
    obtain ⟨d, ρ⟩ := p
    simp only [W_some]
    cases kitB (tyN d) T with
    | none => rfl
    | some a =>
      simp only [W1_some]
      cases a with
      | true => exact eq_t _ _
      | false =>
        refine Eq.trans ?_ (eq_f _ _)
        simp only
        cases kitB (tyN d) U <;> rfl
def mvOf : Ent → Option (Ent × Bool)
  | .val d => some (.val d, false)
  | .own true ce => some (.own true ce, true)
  | _ => none
theorem mv_val {d : PyData} : mvOf (.val d) = some (.val d, false) := rfl
theorem mv_own {ce : Cell} : mvOf (.own true ce) = some (.own true ce, true) := rfl
theorem x_move {i : Nat} : W (mMove i ρ) S = W1 ρ[i]? fun e => W1 (mvOf e) fun q => S q.1 (if q.2 = true then ρ.set i .lent else ρ) := by
  rw [w_move]
  refine W1_fn fun e => ?_
  apply propext
  constructor
  · rintro (⟨d, rfl, h⟩ | ⟨ce, rfl, h⟩)
    · exact h
    · exact h
  · intro h
    cases e with
    | val d => exact .inl ⟨d, rfl, h⟩
    | own fr ce =>
      cases fr with
      | true => exact .inr ⟨ce, rfl, h⟩
      | false => exact h.elim
    | no => exact h.elim
    | scr ns => exact h.elim
    | lent => exact h.elim
def int3 : List PyData → Option (Int × Int × Int)
  | [.int i, .int j, .int k] => some (i, j, k)
  | _ => none
theorem int3_of {i j k : Int} : int3 [.int i, .int j, .int k] = some (i, j, k) := rfl
theorem w_r3 {n : MA} : W (mR3 n ρ) A = W (n ρ) fun ds ρ => W1 (int3 ds) fun q => R3ok q.1 q.2.1 q.2.2 ∧ A (rngCD q.1 q.2.2 (Builtin.Range.rangeSize q.1 q.2.1 q.2.2).toNat) ρ := by
  unfold mR3
  cases n ρ with
  | none => rfl
  | some p =>
    obtain ⟨ds, ρ⟩ := p
    simp only [W_some]
    apply propext
    constructor
    · intro h
      split at h
      · rename_i i j k _ hh
        cases hh
        split at h
        · rename_i hc
          exact ⟨hc, h⟩
        · exact h.elim
      · exact h.elim
    · intro h
      unfold int3 at h
      split at h
      · obtain ⟨hc, h⟩ := h
        simp only [if_pos hc]
        exact h
      · exact h.elim
def zip2 : List PyData → Option (List PyData)
  | [.list xs, .list ys] => some (zipD xs ys)
  | [.tuple xs, .tuple ys] => some (zipD xs ys)
  | _ => none
theorem zip2_L {xs ys : List PyData} : zip2 [.list xs, .list ys] = some (zipD xs ys) := rfl
theorem zip2_T {xs ys : List PyData} : zip2 [.tuple xs, .tuple ys] = some (zipD xs ys) := rfl
theorem w_zip {n : MA} : W (mZip n ρ) A = W (n ρ) fun ds ρ => W1 (zip2 ds) fun zs => A zs ρ := by
  unfold mZip
  cases n ρ with
  | none => rfl
  | some p =>
    obtain ⟨ds, ρ⟩ := p
    rcases ds with _ | ⟨d, _ | ⟨e, _ | ⟨f, r⟩⟩⟩
    · rfl
    · cases d <;> rfl
    · cases d <;> cases e <;> rfl
    · cases d <;> cases e <;> rfl
end
end Fj

set_option Elab.async false
set_option linter.all false
set_option maxRecDepth 100000
set_option maxHeartbeats 4000000
set_option autoImplicit false
/-! Data of all kinds: shape, text, likeness; comprehensions that keep their surroundings. -/
namespace Fj
open PySem PySem.Spec PyProof.Rows L2

/-- data of depth k, bulk w, with short leaves -/
structure Dat (k w : Nat) (d : PyData) : Prop where
  lay : PyData.canLay0 d = true
  dep : PyData.depth d ≤ k
  sho : PyData.showable d = true
  sht : PyData.leavesShort 13 d = true
  blk : PyData.bulk d ≤ w
structure DatL (k w : Nat) (ds : List PyData) : Prop where
  lay : PyData.canLayAll0 ds = true
  dep : PyData.depthAll ds ≤ k
  sho : PyData.showableAll ds = true
  sht : PyData.leavesShortAll 13 ds = true
  blk : PyData.bulkAll ds ≤ w
theorem Dat.mono {k w k' w' : Nat} {d : PyData} (h : Dat k w d) (hk : k ≤ k') (hw : w ≤ w') : Dat k' w' d := ⟨h.lay, Nat.le_trans h.dep hk, h.sho, h.sht, Nat.le_trans h.blk hw⟩
theorem DatL.mono {k w k' w' : Nat} {d : List PyData} (h : DatL k w d) (hk : k ≤ k') (hw : w ≤ w') : DatL k' w' d := ⟨h.lay, Nat.le_trans h.dep hk, h.sho, h.sht, Nat.le_trans h.blk hw⟩
theorem Dat.none {k w : Nat} : Dat k w .none := ⟨by simp [PyData.canLay0], by simp [PyData.depth], by simp [PyData.showable], by simp [PyData.leavesShort], by simp [PyData.bulk]⟩
theorem Dat.bool {k w : Nat} {b : Bool} : Dat k w (.bool b) := ⟨by simp [PyData.canLay0], by simp [PyData.depth], by simp [PyData.showable], by simp [PyData.leavesShort], by simp [PyData.bulk]⟩
theorem Dat.int {k w : Nat} {i : Int} (h : i.natAbs < 10 ^ 12) : Dat k w (.int i) := by
  have hl : i.natAbs.log2 < 1920 := log2_small (Nat.lt_of_lt_of_le h (Nat.le_trans (by decide : (10:Nat) ^ 12 ≤ 2 ^ 128) (Nat.pow_le_pow_right (by decide) (by decide)))) (by decide)
  refine ⟨by simp [PyData.canLay0], by simp [PyData.depth], ?_, ?_, by simp [PyData.bulk]⟩
  · unfold PyData.showable
    exact decide_eq_true hl
  · unfold PyData.leavesShort
    exact decide_eq_true (PyData.shown_int_le h)
theorem DatL.nil {k w : Nat} : DatL k w [] := ⟨by simp [PyData.canLayAll0], by simp [PyData.depthAll], by simp [PyData.showableAll], by simp [PyData.leavesShortAll], by simp [PyData.bulkAll]⟩
theorem DatL.cons {k a b : Nat} {d : PyData} {ds : List PyData} (h : Dat k a d) (t : DatL k b ds) : DatL k (a + 1 + b) (d :: ds) := by
  obtain ⟨h1, h2, h3, h4, h5⟩ := h
  obtain ⟨t1, t2, t3, t4, t5⟩ := t
  refine ⟨by unfold PyData.canLayAll0; rw [h1, t1]; rfl, by unfold PyData.depthAll; omega, by unfold PyData.showableAll; rw [h3, t3]; rfl, by unfold PyData.leavesShortAll; rw [h4, t4]; rfl, by unfold PyData.bulkAll; omega⟩
theorem DatL.of {k w : Nat} : ∀ {ds : List PyData}, (∀ d ∈ ds, Dat k w d) → DatL k ((w + 1) * ds.length) ds
  | [], _ => .nil
  | d :: ds, h => by
    have := DatL.cons (h d (List.mem_cons_self ..)) (DatL.of fun x hx => h x (List.mem_cons_of_mem _ hx))
    refine this.mono (Nat.le_refl _) ?_
    rw [List.length_cons, Nat.mul_add, Nat.mul_one]
    omega
theorem Dat.tup {k w : Nat} {ds : List PyData} (h : DatL k w ds) : Dat (k + 1) w (.tuple ds) :=
  ⟨by unfold PyData.canLay0; exact h.lay, by unfold PyData.depth; exact Nat.succ_le_succ h.dep, by unfold PyData.showable; exact h.sho, by unfold PyData.leavesShort; exact h.sht, by unfold PyData.bulk; exact h.blk⟩
theorem Dat.lst {k w : Nat} {ds : List PyData} (h : DatL k w ds) : Dat (k + 1) w (.list ds) :=
  ⟨by unfold PyData.canLay0; exact h.lay, by unfold PyData.depth; exact Nat.succ_le_succ h.dep, by unfold PyData.showable; exact h.sho, by unfold PyData.leavesShort; exact h.sht, by unfold PyData.bulk; exact h.blk⟩
theorem Dat.shaped {k w : Nat} {d : PyData} (h : Dat k w d) (hk : k ≤ 64) : SeqAt.shaped d = true := by
  unfold SeqAt.shaped
  rw [h.lay]
  exact decide_eq_true (Nat.le_trans h.dep hk)
theorem Dat.rep {k w : Nat} {d : PyData} (h : Dat k w d) (hk : k ≤ 64) (hw : w ≤ 6000) : d.showable = true ∧ SeqAt.shaped d = true ∧ d.shown.length ≤ 100000 := by
  refine ⟨h.sho, h.shaped hk, ?_⟩
  have := PyData.shown_le_bulk 13 (by decide) d h.sht
  have := h.blk
  omega
/-! likeness -/
mutual
def sim : PyData → Bool
  | .none => true
  | .int _ => true
  | .str _ => true
  | .list xs => simAll xs
  | .tuple xs => simAll xs
  | .bool _ => false
  | .dict _ => false
def simAll : List PyData → Bool
  | [] => true
  | x :: xs => sim x && simAll xs
end
mutual
theorem eqv_iff : ∀ x y : PyData, sim x = true → sim y = true → (PyData.eqv x y = true ↔ x = y)
  | .none, y, _, hy => by cases y <;> simp [PyData.eqv]
  | .int i, y, _, hy => by
    cases y with
    | bool b => simp [sim] at hy
    | _ => simp [PyData.eqv]
  | .str i, y, _, hy => by cases y <;> simp [PyData.eqv]
  | .list xs, y, hx, hy => by
    cases y with
    | list ys =>
      have := eqvAll_iff xs ys (by simpa [sim] using hx) (by simpa [sim] using hy)
      simpa [PyData.eqv] using this
    | _ => simp [PyData.eqv]
  | .tuple xs, y, hx, hy => by
    cases y with
    | tuple ys =>
      have := eqvAll_iff xs ys (by simpa [sim] using hx) (by simpa [sim] using hy)
      simpa [PyData.eqv] using this
    | _ => simp [PyData.eqv]
  | .bool b, y, hx, _ => by simp [sim] at hx
  | .dict b, y, hx, _ => by simp [sim] at hx
theorem eqvAll_iff : ∀ xs ys : List PyData, simAll xs = true → simAll ys = true → (PyData.eqvAll xs ys = true ↔ xs = ys)
  | [], [], _, _ => by simp [PyData.eqvAll]
  | [], y :: ys, _, _ => by simp [PyData.eqvAll]
  | x :: xs, [], _, _ => by simp [PyData.eqvAll]
  | x :: xs, y :: ys, hx, hy => by
    have hx' : sim x = true ∧ simAll xs = true := by simpa [simAll] using hx
    have hy' : sim y = true ∧ simAll ys = true := by simpa [simAll] using hy
    have h1 := eqv_iff x y hx'.1 hy'.1
    have h2 := eqvAll_iff xs ys hx'.2 hy'.2
    simp [PyData.eqvAll, h1, h2]
end
theorem simAll_of : ∀ {ds : List PyData}, (∀ d ∈ ds, sim d = true) → simAll ds = true
  | [], _ => by simp [simAll]
  | d :: ds, h => by
    unfold simAll
    rw [h d (List.mem_cons_self ..), simAll_of fun x hx => h x (List.mem_cons_of_mem _ hx)]
    rfl
theorem simAll_ints : ∀ ns : List Int, simAll (ns.map .int) = true
  | [] => by simp [simAll]
  | n :: ns => by
    rw [List.map_cons]
    unfold simAll
    rw [simAll_ints ns]
    simp [sim]
theorem g_eqD {xs ys : List PyData} {Q : PyData → Prop} (h1 : SeqAt.shaped (.tuple xs) = true) (h2 : SeqAt.shaped (.tuple ys) = true) (s1 : simAll xs = true) (s2 : simAll ys = true) {b : Bool} (hb : b = true ↔ xs = ys) : W1 (gEq (.tuple xs) (.tuple ys)) Q = Q (.bool b) := by
  unfold gEq gEqS gEqD
  simp only [Option.none_or]
  rw [h1, h2]
  simp only [Bool.and_self, if_true, W1_some]
  have e : PyData.eqv (.tuple xs) (.tuple ys) = b := by
    rw [Bool.eq_iff_iff, hb]
    have := eqvAll_iff xs ys s1 s2
    simpa [PyData.eqv] using this
  rw [e]
theorem g_neD {xs ys : List PyData} {Q : PyData → Prop} (h1 : SeqAt.shaped (.tuple xs) = true) (h2 : SeqAt.shaped (.tuple ys) = true) (s1 : simAll xs = true) (s2 : simAll ys = true) {b : Bool} (hb : b = true ↔ xs = ys) : W1 (gNe (.tuple xs) (.tuple ys)) Q = Q (.bool (!b)) := by
  unfold gNe gNeS gNeD
  simp only [Option.none_or]
  rw [h1, h2]
  simp only [Bool.and_self, if_true, W1_some]
  have e : PyData.eqv (.tuple xs) (.tuple ys) = b := by
    rw [Bool.eq_iff_iff, hb]
    have := eqvAll_iff xs ys s1 s2
    simpa [PyData.eqv] using this
  rw [e]
theorem shaped_bool {b : Bool} : SeqAt.shaped (.bool b) = true := (Dat.bool (k := 1) (w := 0)).shaped (by decide)
theorem eqv_bool {a b : Bool} : PyData.eqv (.bool a) (.bool b) = (a == b) := by simp [PyData.eqv]
theorem g_eqB {a b : Bool} {Q : PyData → Prop} : W1 (gEq (.bool a) (.bool b)) Q = Q (.bool (a == b)) := by
  unfold gEq gEqS gEqD
  simp only [Option.none_or]
  rw [shaped_bool, shaped_bool]
  simp only [Bool.and_self, if_true, W1_some, eqv_bool]
theorem g_neB {a b : Bool} {Q : PyData → Prop} : W1 (gNe (.bool a) (.bool b)) Q = Q (.bool (!(a == b))) := by
  unfold gNe gNeS gNeD
  simp only [Option.none_or]
  rw [shaped_bool, shaped_bool]
  simp only [Bool.and_self, if_true, W1_some, eqv_bool]
theorem boolsM : ∀ bs : List Bool, boolsD (bs.map .bool) = some bs
  | [] => rfl
  | b :: bs => by
    rw [List.map_cons]
    show (boolsD (bs.map .bool)).map (fun l => b :: l) = _
    rw [boolsM bs]
    rfl
theorem g_boolsM {bs : List Bool} {R : List Bool → Prop} : W1 (boolsD (bs.map .bool)) R = R bs := by
  rw [boolsM]
  rfl
theorem g_boolsF {α : Type} {f : α → Bool} {xs : List α} {R : List Bool → Prop} : W1 (boolsD (xs.map fun x => .bool (f x))) R = R (xs.map f) := by
  rw [show (xs.map fun x => PyData.bool (f x)) = (xs.map f).map .bool by rw [List.map_map]; rfl, boolsM]
  rfl
theorem eqvAll_nil : ∀ ds : List PyData, PyData.eqvAll ds [] = ds.isEmpty
  | [] => by simp [PyData.eqvAll]
  | d :: ds => by simp [PyData.eqvAll]
theorem shaped_nilT : SeqAt.shaped (.tuple []) = true := by decide
theorem g_eqNilT {ds : List PyData} {Q : PyData → Prop} : W1 (gEq (.tuple ds) (.tuple [])) Q = (SeqAt.shaped (.tuple ds) = true ∧ Q (.bool ds.isEmpty)) := by
  have e : PyData.eqv (.tuple ds) (.tuple []) = ds.isEmpty := by
    have := eqvAll_nil ds
    simpa [PyData.eqv] using this
  unfold gEq gEqS gEqD
  simp only [Option.none_or]
  rw [shaped_nilT, Bool.and_true, e]
  exact W1_if
theorem g_neNilT {ds : List PyData} {Q : PyData → Prop} : W1 (gNe (.tuple ds) (.tuple [])) Q = (SeqAt.shaped (.tuple ds) = true ∧ Q (.bool (!ds.isEmpty))) := by
  have e : PyData.eqv (.tuple ds) (.tuple []) = ds.isEmpty := by
    have := eqvAll_nil ds
    simpa [PyData.eqv] using this
  unfold gNe gNeS gNeD
  simp only [Option.none_or]
  rw [shaped_nilT, Bool.and_true, e]
  exact W1_if
theorem cut_1 (xs : List PyData) : cutD xs (some 1) none = xs.drop 1 := by
  cases xs with
  | nil => rfl
  | cons x xs => exact cD_1
theorem all_true {α : Type} (xs : List α) : (xs.map fun _ => true).all id = true := by
  induction xs with
  | nil => rfl
  | cons x xs ih => rw [List.map_cons, List.all_cons, ih]; rfl
theorem Dat.str {k : Nat} {x : Str} (h1 : PyData.canLay0 (.str x) = true) (h2 : x.cps.toList.all (fun c => decide (c < 16 ^ 8)) = true) : Dat k x.cps.size (.str x) :=
  ⟨h1, by simp [PyData.depth], by simp [PyData.showable], by unfold PyData.leavesShort; exact h2, by unfold PyData.bulk; exact Nat.le_refl _⟩
/-! comprehensions -/
/-- the items for which p tells f, the surroundings stay -/
theorem w_lcFil {α : Type} {g : MG} {t : MT} {m : MV} {vs : List Nat} {Q : List PyData → En → Prop} {ρ : En} (gd : α → PyData) (p : α → Bool) (f : α → PyData) {xs : List α}
    (h : ∀ x ∈ xs, W1 (g (gd x) ρ) fun ρ1 => W (t ρ1) fun b ρ2 => b = p x ∧ (b = true → W (m ρ2) fun y ρ3 => y = f x ∧ vs.all (freeE ρ3) = true ∧ wipeE ρ3 vs = ρ) ∧ (b = false → vs.all (freeE ρ2) = true ∧ wipeE ρ2 vs = ρ)) (hl : xs.length ≤ 100000) (q : Q ((xs.filter p).map f) ρ) : W (lcL g t m vs (xs.map gd) [] ρ) Q := by
  refine w_lcL (fun ds acc ρ' => ∃ done rest, xs = done ++ rest ∧ ds = rest.map gd ∧ acc = (done.filter p).map f ∧ ρ' = ρ) ?_ ?_ _ [] ρ ⟨[], xs, rfl, rfl, rfl, rfl⟩
  · intro d ds acc ρ' ⟨done, rest, e, e2, e3, e4⟩
    subst e3 e4
    cases rest with
    | nil => cases e2
    | cons x rest =>
      rw [List.map_cons] at e2
      injection e2 with e5 e6
      subst e5 e6
      have hx : x ∈ xs := by rw [e]; exact List.mem_append_right _ (List.mem_cons_self ..)
      refine (h x hx).mono fun ρ1 h1 => h1.mono fun b ρ2 h2 => ⟨fun hb => (h2.2.1 hb).mono fun y ρ3 h3 => ⟨?_, h3.2.1, done ++ [x], rest, by rw [e]; simp, rfl, ?_, h3.2.2⟩, fun hb => ⟨(h2.2.2 hb).1, done ++ [x], rest, by rw [e]; simp, rfl, ?_, (h2.2.2 hb).2⟩⟩
      · have := congrArg List.length e
        rw [List.length_append, List.length_cons] at this
        rw [List.length_map]
        have := List.length_filter_le p done
        omega
      · rw [h3.1, List.filter_append, List.map_append, List.filter_cons_of_pos (by rw [← h2.1]; exact hb)]
        rfl
      · rw [List.filter_append, List.filter_cons_of_neg (by rw [← h2.1, hb]; exact Bool.false_ne_true), List.filter_nil, List.append_nil]
  · intro acc ρ' ⟨done, rest, e, e2, e3, e4⟩
    have : rest = [] := List.map_eq_nil_iff.mp e2.symm
    subst this e3 e4
    rw [List.append_nil] at e
    rw [← e]
    exact q
/-- each item tells f, the surroundings stay -/
theorem w_lcMap {α : Type} {g : MG} {t : MT} {m : MV} {vs : List Nat} {Q : List PyData → En → Prop} {ρ : En} (gd : α → PyData) (f : α → PyData) {xs : List α}
    (h : ∀ x ∈ xs, W1 (g (gd x) ρ) fun ρ1 => W (t ρ1) fun b ρ2 => b = true ∧ W (m ρ2) fun y ρ3 => y = f x ∧ vs.all (freeE ρ3) = true ∧ wipeE ρ3 vs = ρ) (hl : xs.length ≤ 100000) (q : Q (xs.map f) ρ) : W (lcL g t m vs (xs.map gd) [] ρ) Q := by
  refine w_lcFil gd (fun _ => true) f (fun x hx => (h x hx).mono fun ρ1 h1 => h1.mono fun b ρ2 h2 => ⟨h2.1, fun _ => h2.2, fun z => ?_⟩) hl ?_
  · rw [h2.1] at z
    cases z
  · rw [List.filter_eq_self.mpr fun _ _ => rfl]
    exact q
theorem any_filter {α β : Type} (p : α → Bool) (f : α → β) (xs : List α) : (!((xs.filter p).map f).isEmpty) = xs.any p := by
  induction xs with
  | nil => rfl
  | cons x xs ih =>
    rw [List.any_cons]
    cases h : p x with
    | true => rw [List.filter_cons_of_pos h]; rfl
    | false => rw [List.filter_cons_of_neg (by rw [h]; exact Bool.false_ne_true), ih]; rfl
theorem rngD_map (lo : Int) (n : Nat) : rngD lo n = (List.range n).map fun (i : Nat) => PyData.int (lo + (i : Int)) := rfl
theorem cut_mid {xs : List PyData} {i k : Nat} (h1 : i ≤ k) (h2 : k ≤ xs.length) : cutD xs (some (i : Int)) (some (k : Int)) = (xs.drop i).take (k - i) := by
  have e1 : HT.sIx xs.length 0 (some (i : Int)) = i := by
    unfold HT.sIx
    simp only
    rw [if_neg (by omega), Int.toNat_natCast]
    omega
  have e2 : HT.sIx xs.length xs.length (some (k : Int)) = k := by
    unfold HT.sIx
    simp only
    rw [if_neg (by omega), Int.toNat_natCast]
    omega
  unfold cutD
  rw [e1, e2]
theorem any_false (bs : List Bool) : (!(bs.map PyData.bool).any fun z => PyData.eqv z (.bool false)) = bs.all id := by
  induction bs with
  | nil => rfl
  | cons b bs ih =>
    rw [List.map_cons, List.any_cons, eqv_bool, Bool.not_or, ih, List.all_cons]
    cases b <;> rfl
theorem shaped_bools (bs : List Bool) : SeqAt.shaped (.list (bs.map .bool)) = true :=
  (Dat.lst (DatL.of (k := 0) (w := 0) fun d hd => by
    obtain ⟨b, _, rfl⟩ := List.mem_map.mp hd
    exact .bool)).shaped (by decide)
theorem g_noFalse {bs : List Bool} {Q : PyData → Prop} : W1 (gNotInD (.bool false) (.list (bs.map .bool))) Q = Q (.bool (bs.all id)) := by
  unfold gNotInD
  simp only
  rw [shaped_bool, shaped_bools, any_false]
  rfl
theorem g_min1 {n : List Int} {ns : List (List Int)} {S : Ent → Prop} : W1 (gMin1 [.list ((n :: ns).map tupI)]) S = S (.val (tupI (minRow n ns))) := by
  unfold gMin1
  simp only [tupsD_map]
  rfl
end Fj

set_option Elab.async false
set_option linter.all false
set_option maxRecDepth 100000
set_option maxHeartbeats 4000000
set_option autoImplicit false
/-! The rules in bundles. -/
namespace Fj
open PySem PySem.Spec PyProof.Rows L2

theorem wp0 : type_of% @Fj.w_C ∧ type_of% @Fj.w_var ∧ type_of% @Fj.w_fz ∧ type_of% @Fj.w_val ∧ type_of% @Fj.w_bin ∧ type_of% @Fj.w_test ∧ type_of% @Fj.w_tnot ∧ type_of% @Fj.w_tand ∧ type_of% @Fj.w_tor ∧ type_of% @Fj.w_not ∧ type_of% @Fj.w_andV ∧ type_of% @Fj.w_orV ∧ type_of% @Fj.w_if ∧ type_of% @Fj.w_ifS ∧ type_of% @Fj.w_chain ∧ type_of% @Fj.w_nil := ⟨@Fj.w_C, @Fj.w_var, @Fj.w_fz, @Fj.w_val, @Fj.w_bin, @Fj.w_test, @Fj.w_tnot, @Fj.w_tand, @Fj.w_tor, @Fj.w_not, @Fj.w_andV, @Fj.w_orV, @Fj.w_if, @Fj.w_ifS, @Fj.w_chain, @Fj.w_nil⟩
theorem wp1 : type_of% @Fj.w_cons ∧ type_of% @Fj.w_tup ∧ type_of% @Fj.w_lst ∧ type_of% @Fj.x_cat ∧ type_of% @Fj.w_p0 ∧ type_of% @Fj.w_p1 ∧ type_of% @Fj.w_sl ∧ type_of% @Fj.w_rev ∧ type_of% @Fj.w_neg ∧ type_of% @Fj.w_scrSl ∧ type_of% @Fj.w_cb ∧ type_of% @Fj.w_isi ∧ type_of% @Fj.w_it ∧ type_of% @Fj.x_r1 ∧ type_of% @Fj.x_r2 ∧ type_of% @Fj.x_enum := ⟨@Fj.w_cons, @Fj.w_tup, @Fj.w_lst, @Fj.x_cat, @Fj.w_p0, @Fj.w_p1, @Fj.w_sl, @Fj.w_rev, @Fj.w_neg, @Fj.w_scrSl, @Fj.w_cb, @Fj.w_isi, @Fj.w_it, @Fj.x_r1, @Fj.x_r2, @Fj.x_enum⟩
theorem wp2 : type_of% @Fj.w_N ∧ type_of% @Fj.w_N0 ∧ type_of% @Fj.w_N1 ∧ type_of% @Fj.w_TupG ∧ type_of% @Fj.w_nx ∧ type_of% @Fj.w_seq ∧ type_of% @Fj.w_frz ∧ type_of% @Fj.w_asg ∧ type_of% @Fj.w_own ∧ type_of% @Fj.w_ret ∧ type_of% @Fj.w_drop ∧ type_of% @Fj.w_bad ∧ type_of% @Fj.w_for ∧ type_of% @Fj.x_app ∧ type_of% @Fj.x_ext ∧ type_of% @Fj.w_fn := ⟨@Fj.w_N, @Fj.w_N0, @Fj.w_N1, @Fj.w_TupG, @Fj.w_nx, @Fj.w_seq, @Fj.w_frz, @Fj.w_asg, @Fj.w_own, @Fj.w_ret, @Fj.w_drop, @Fj.w_bad, @Fj.w_for, @Fj.x_app, @Fj.x_ext, @Fj.w_fn⟩
theorem wp3 : type_of% @Fj.w_call ∧ type_of% @Fj.x_lend ∧ type_of% @Fj.w_scr ∧ type_of% @Fj.w_bor ∧ type_of% @Fj.w_borT ∧ type_of% @Fj.w_lc ∧ type_of% @Fj.x_move ∧ type_of% @Fj.w_ownV ∧ type_of% @Fj.w_yes ∧ type_of% @Fj.x_dkM ∧ type_of% @Fj.x_dkT ∧ type_of% @Fj.x_dkL ∧ type_of% @Fj.x_dkPop ∧ type_of% @Fj.x_dkApp ∧ type_of% @Fj.x_dkSetM ∧ type_of% @Fj.x_dkSetT := ⟨@Fj.w_call, @Fj.x_lend, @Fj.w_scr, @Fj.w_bor, @Fj.w_borT, @Fj.w_lc, @Fj.x_move, @Fj.w_ownV, @Fj.w_yes, @Fj.x_dkM, @Fj.x_dkT, @Fj.x_dkL, @Fj.x_dkPop, @Fj.x_dkApp, @Fj.x_dkSetM, @Fj.x_dkSetT⟩
theorem wp4 : type_of% @Fj.x_dkNew ∧ type_of% @Fj.w_E0 ∧ type_of% @Fj.w_E1 ∧ type_of% @Fj.w_par ∧ type_of% @Fj.w_puts0 ∧ type_of% @Fj.w_puts1 ∧ type_of% @Fj.w_ss ∧ type_of% @Fj.w_isi2 ∧ type_of% @Fj.w_zip ∧ type_of% @Fj.g_add ∧ type_of% @Fj.g_sub ∧ type_of% @Fj.g_addT ∧ type_of% @Fj.g_addL ∧ type_of% @Fj.g_addS ∧ type_of% @Fj.g_mul ∧ type_of% @Fj.g_div := ⟨@Fj.x_dkNew, @Fj.w_E0, @Fj.w_E1, @Fj.w_par, @Fj.w_puts0, @Fj.w_puts1, @Fj.w_ss, @Fj.w_isi2, @Fj.w_zip, @Fj.g_add, @Fj.g_sub, @Fj.g_addT, @Fj.g_addL, @Fj.g_addS, @Fj.g_mul, @Fj.g_div⟩
theorem wp5 : type_of% @Fj.g_mod ∧ type_of% @Fj.g_pow ∧ type_of% @Fj.g_lt ∧ type_of% @Fj.g_le ∧ type_of% @Fj.g_gt ∧ type_of% @Fj.g_ge ∧ type_of% @Fj.g_eq ∧ type_of% @Fj.g_ne ∧ type_of% @Fj.g_neNil ∧ type_of% @Fj.g_eqNil ∧ type_of% @Fj.g_eqS ∧ type_of% @Fj.g_neS ∧ type_of% @Fj.w_tups ∧ type_of% @Fj.mv_val ∧ type_of% @Fj.mv_own ∧ type_of% @Fj.g_sortI := ⟨@Fj.g_mod, @Fj.g_pow, @Fj.g_lt, @Fj.g_le, @Fj.g_gt, @Fj.g_ge, @Fj.g_eq, @Fj.g_ne, @Fj.g_neNil, @Fj.g_eqNil, @Fj.g_eqS, @Fj.g_neS, @Fj.w_tups, @Fj.mv_val, @Fj.mv_own, @Fj.g_sortI⟩
theorem wp6 : type_of% @Fj.zip2_L ∧ type_of% @Fj.zip2_T ∧ type_of% @Fj.int3_of ∧ type_of% @Fj.g_all ∧ type_of% @Fj.g_any ∧ type_of% @Fj.g_sum ∧ type_of% @Fj.g_bools0 ∧ type_of% @Fj.g_bools1 ∧ type_of% @Fj.g_ltT ∧ type_of% @Fj.g_ints0 ∧ type_of% @Fj.g_ints1 ∧ type_of% @Fj.g_intsM ∧ type_of% @Fj.g_slT ∧ type_of% @Fj.g_slL ∧ type_of% @Fj.g_isTrue ∧ type_of% @Fj.g_notTrue := ⟨@Fj.zip2_L, @Fj.zip2_T, @Fj.int3_of, @Fj.g_all, @Fj.g_any, @Fj.g_sum, @Fj.g_bools0, @Fj.g_bools1, @Fj.g_ltT, @Fj.g_ints0, @Fj.g_ints1, @Fj.g_intsM, @Fj.g_slT, @Fj.g_slL, @Fj.g_isTrue, @Fj.g_notTrue⟩
theorem wp7 : type_of% @Fj.g_isNone ∧ type_of% @Fj.g_notNone ∧ type_of% @Fj.g_lenL ∧ type_of% @Fj.g_lenT ∧ type_of% @Fj.g_int ∧ type_of% @Fj.g_max ∧ type_of% @Fj.g_min ∧ type_of% @Fj.g_list ∧ type_of% @Fj.g_listT ∧ type_of% @Fj.g_tupT ∧ type_of% @Fj.g_tupL ∧ type_of% @Fj.g_ixL ∧ type_of% @Fj.g_ixT ∧ type_of% @Fj.IfB_true ∧ type_of% @Fj.IfB_false ∧ type_of% @Fj.bool_of := ⟨@Fj.g_isNone, @Fj.g_notNone, @Fj.g_lenL, @Fj.g_lenT, @Fj.g_int, @Fj.g_max, @Fj.g_min, @Fj.g_list, @Fj.g_listT, @Fj.g_tupT, @Fj.g_tupL, @Fj.g_ixL, @Fj.g_ixT, @Fj.IfB_true, @Fj.IfB_false, @Fj.bool_of⟩
theorem wp8 : type_of% @Fj.val_of ∧ type_of% @Fj.scr_of ∧ type_of% @Fj.row_ofL ∧ type_of% @Fj.row_ofT ∧ type_of% @Fj.walk_ofL ∧ type_of% @Fj.walk_ofT ∧ type_of% @Fj.walk_ofS ∧ type_of% @Fj.own_of ∧ type_of% @Fj.lst_of ∧ type_of% @Fj.dk_of ∧ type_of% @Fj.out_of ∧ type_of% @Fj.list_of ∧ type_of% @Fj.int_of ∧ type_of% @Fj.int1_of ∧ type_of% @Fj.int2_of ∧ type_of% @Fj.list1_of := ⟨@Fj.val_of, @Fj.scr_of, @Fj.row_ofL, @Fj.row_ofT, @Fj.walk_ofL, @Fj.walk_ofT, @Fj.walk_ofS, @Fj.own_of, @Fj.lst_of, @Fj.dk_of, @Fj.out_of, @Fj.list_of, @Fj.int_of, @Fj.int1_of, @Fj.int2_of, @Fj.list1_of⟩
theorem wp9 : type_of% @Fj.kt_NoneType_int ∧ type_of% @Fj.kt_NoneType_bool ∧ type_of% @Fj.kt_NoneType_str ∧ type_of% @Fj.kt_NoneType_list ∧ type_of% @Fj.kt_NoneType_tuple ∧ type_of% @Fj.kt_NoneType_dict ∧ type_of% @Fj.kt_bool_int ∧ type_of% @Fj.kt_bool_bool ∧ type_of% @Fj.kt_bool_str ∧ type_of% @Fj.kt_bool_list ∧ type_of% @Fj.kt_bool_tuple ∧ type_of% @Fj.kt_bool_dict ∧ type_of% @Fj.kt_int_int ∧ type_of% @Fj.kt_int_bool ∧ type_of% @Fj.kt_int_str ∧ type_of% @Fj.kt_int_list := ⟨@Fj.kt_NoneType_int, @Fj.kt_NoneType_bool, @Fj.kt_NoneType_str, @Fj.kt_NoneType_list, @Fj.kt_NoneType_tuple, @Fj.kt_NoneType_dict, @Fj.kt_bool_int, @Fj.kt_bool_bool, @Fj.kt_bool_str, @Fj.kt_bool_list, @Fj.kt_bool_tuple, @Fj.kt_bool_dict, @Fj.kt_int_int, @Fj.kt_int_bool, @Fj.kt_int_str, @Fj.kt_int_list⟩
theorem wp10 : type_of% @Fj.kt_int_tuple ∧ type_of% @Fj.kt_int_dict ∧ type_of% @Fj.kt_str_int ∧ type_of% @Fj.kt_str_bool ∧ type_of% @Fj.kt_str_str ∧ type_of% @Fj.kt_str_list ∧ type_of% @Fj.kt_str_tuple ∧ type_of% @Fj.kt_str_dict ∧ type_of% @Fj.kt_list_int ∧ type_of% @Fj.kt_list_bool ∧ type_of% @Fj.kt_list_str ∧ type_of% @Fj.kt_list_list ∧ type_of% @Fj.kt_list_tuple ∧ type_of% @Fj.kt_list_dict ∧ type_of% @Fj.kt_tuple_int ∧ type_of% @Fj.kt_tuple_bool := ⟨@Fj.kt_int_tuple, @Fj.kt_int_dict, @Fj.kt_str_int, @Fj.kt_str_bool, @Fj.kt_str_str, @Fj.kt_str_list, @Fj.kt_str_tuple, @Fj.kt_str_dict, @Fj.kt_list_int, @Fj.kt_list_bool, @Fj.kt_list_str, @Fj.kt_list_list, @Fj.kt_list_tuple, @Fj.kt_list_dict, @Fj.kt_tuple_int, @Fj.kt_tuple_bool⟩
theorem wp11 : type_of% @Fj.kt_tuple_str ∧ type_of% @Fj.kt_tuple_list ∧ type_of% @Fj.kt_tuple_tuple ∧ type_of% @Fj.kt_tuple_dict ∧ type_of% @Fj.kt_dict_int ∧ type_of% @Fj.kt_dict_bool ∧ type_of% @Fj.kt_dict_str ∧ type_of% @Fj.kt_dict_list ∧ type_of% @Fj.kt_dict_tuple ∧ type_of% @Fj.kt_dict_dict ∧ type_of% @Fj.cT_1 ∧ type_of% @Fj.cD_1 ∧ type_of% @Fj.cT_2 ∧ type_of% @Fj.cD_2 ∧ type_of% @Fj.cT_3 ∧ type_of% @Fj.cD_3 := ⟨@Fj.kt_tuple_str, @Fj.kt_tuple_list, @Fj.kt_tuple_tuple, @Fj.kt_tuple_dict, @Fj.kt_dict_int, @Fj.kt_dict_bool, @Fj.kt_dict_str, @Fj.kt_dict_list, @Fj.kt_dict_tuple, @Fj.kt_dict_dict, @Fj.cT_1, @Fj.cD_1, @Fj.cT_2, @Fj.cD_2, @Fj.cT_3, @Fj.cD_3⟩
theorem wp12 : type_of% @Fj.cT_4 ∧ type_of% @Fj.cD_4 ∧ type_of% @Fj.cT_5 ∧ type_of% @Fj.cD_5 ∧ type_of% @Fj.cT_6 ∧ type_of% @Fj.cD_6 ∧ type_of% @Fj.cT_7 ∧ type_of% @Fj.cD_7 ∧ type_of% @Fj.at_0 ∧ type_of% @Fj.at_1 ∧ type_of% @Fj.at_2 ∧ type_of% @Fj.at_3 ∧ type_of% @Fj.at_4 ∧ type_of% @Fj.at_5 ∧ type_of% @Fj.at_6 ∧ type_of% @Fj.at_7 := ⟨@Fj.cT_4, @Fj.cD_4, @Fj.cT_5, @Fj.cD_5, @Fj.cT_6, @Fj.cD_6, @Fj.cT_7, @Fj.cD_7, @Fj.at_0, @Fj.at_1, @Fj.at_2, @Fj.at_3, @Fj.at_4, @Fj.at_5, @Fj.at_6, @Fj.at_7⟩
theorem wp13 : type_of% @Fj.at_8 ∧ type_of% @Fj.at_9 ∧ type_of% @Fj.nc_0 ∧ type_of% @Fj.nc_1 ∧ type_of% @Fj.nc_2 ∧ type_of% @Fj.nc_3 ∧ type_of% @Fj.nc_4 ∧ type_of% @Fj.nc_5 ∧ type_of% @Fj.nc_6 ∧ type_of% @Fj.nc_7 ∧ type_of% @Fj.nc_8 ∧ type_of% @Fj.nc_9 ∧ type_of% @Fj.nc_10 ∧ type_of% @Fj.nc_11 ∧ type_of% @Fj.nc_12 ∧ type_of% @Fj.nc_13 := ⟨@Fj.at_8, @Fj.at_9, @Fj.nc_0, @Fj.nc_1, @Fj.nc_2, @Fj.nc_3, @Fj.nc_4, @Fj.nc_5, @Fj.nc_6, @Fj.nc_7, @Fj.nc_8, @Fj.nc_9, @Fj.nc_10, @Fj.nc_11, @Fj.nc_12, @Fj.nc_13⟩
theorem wp14 : type_of% @Fj.nc_14 ∧ type_of% @Fj.nc_15 ∧ type_of% @Fj.nc_16 ∧ type_of% @Fj.nc_17 ∧ type_of% @Fj.nc_18 ∧ type_of% @Fj.nc_19 ∧ type_of% @Fj.nc_20 ∧ type_of% @Fj.eb_no ∧ type_of% @Fj.ev_no ∧ type_of% @Fj.ed_no ∧ type_of% @Fj.ef_no ∧ type_of% @Fj.em_no ∧ type_of% @Fj.ek_no ∧ type_of% @Fj.eo_no ∧ type_of% @Fj.eb_val ∧ type_of% @Fj.ev_val := ⟨@Fj.nc_14, @Fj.nc_15, @Fj.nc_16, @Fj.nc_17, @Fj.nc_18, @Fj.nc_19, @Fj.nc_20, @Fj.eb_no, @Fj.ev_no, @Fj.ed_no, @Fj.ef_no, @Fj.em_no, @Fj.ek_no, @Fj.eo_no, @Fj.eb_val, @Fj.ev_val⟩
theorem wp15 : type_of% @Fj.ed_val ∧ type_of% @Fj.ef_val ∧ type_of% @Fj.em_val ∧ type_of% @Fj.ek_val ∧ type_of% @Fj.eo_val ∧ type_of% @Fj.eb_lst ∧ type_of% @Fj.ev_lst ∧ type_of% @Fj.ed_lst ∧ type_of% @Fj.ef_lst ∧ type_of% @Fj.em_lst ∧ type_of% @Fj.ek_lst ∧ type_of% @Fj.eb_dk ∧ type_of% @Fj.ev_dk ∧ type_of% @Fj.ed_dk ∧ type_of% @Fj.ef_dk ∧ type_of% @Fj.eb_scr := ⟨@Fj.ed_val, @Fj.ef_val, @Fj.em_val, @Fj.ek_val, @Fj.eo_val, @Fj.eb_lst, @Fj.ev_lst, @Fj.ed_lst, @Fj.ef_lst, @Fj.em_lst, @Fj.ek_lst, @Fj.eb_dk, @Fj.ev_dk, @Fj.ed_dk, @Fj.ef_dk, @Fj.eb_scr⟩
theorem wp16 : type_of% @Fj.ev_scr ∧ type_of% @Fj.ed_scr ∧ type_of% @Fj.ef_scr ∧ type_of% @Fj.em_scr ∧ type_of% @Fj.ek_scr ∧ type_of% @Fj.eo_scr ∧ type_of% @Fj.eb_lent ∧ type_of% @Fj.ev_lent ∧ type_of% @Fj.ed_lent ∧ type_of% @Fj.ef_lent ∧ type_of% @Fj.em_lent ∧ type_of% @Fj.ek_lent ∧ type_of% @Fj.eo_lent ∧ type_of% @Fj.em_dk ∧ type_of% @Fj.eo_own ∧ type_of% @Fj.er_val := ⟨@Fj.ev_scr, @Fj.ed_scr, @Fj.ef_scr, @Fj.em_scr, @Fj.ek_scr, @Fj.eo_scr, @Fj.eb_lent, @Fj.ev_lent, @Fj.ed_lent, @Fj.ef_lent, @Fj.em_lent, @Fj.ek_lent, @Fj.eo_lent, @Fj.em_dk, @Fj.eo_own, @Fj.er_val⟩
theorem wp17 : type_of% @Fj.er_own ∧ type_of% @Fj.ez_val ∧ type_of% @Fj.ez_own ∧ type_of% @Fj.en_val ∧ type_of% @Fj.en_own ∧ type_of% @Fj.bq_tt ∧ type_of% @Fj.bq_tf ∧ type_of% @Fj.bq_ft ∧ type_of% @Fj.bq_ff ∧ type_of% @Bool.or_self ∧ type_of% @Bool.or_true ∧ type_of% @Bool.true_or ∧ type_of% @Bool.or_false ∧ type_of% @Bool.false_or ∧ type_of% @Bool.not_false ∧ type_of% @decide_true := ⟨@Fj.er_own, @Fj.ez_val, @Fj.ez_own, @Fj.en_val, @Fj.en_own, @Fj.bq_tt, @Fj.bq_tf, @Fj.bq_ft, @Fj.bq_ff, @Bool.or_self, @Bool.or_true, @Bool.true_or, @Bool.or_false, @Bool.false_or, @Bool.not_false, @decide_true⟩
theorem wp18 : type_of% @decide_false ∧ type_of% @List.isEmpty_nil.{0} ∧ type_of% @List.isEmpty_cons.{0} ∧ type_of% @Fj.shaped_nil ∧ type_of% @W_some ∧ type_of% @W_none ∧ type_of% @W1_some ∧ type_of% @W1_none ∧ type_of% @nxt_nx ∧ type_of% @nxt_rt ∧ type_of% @nxt_bk ∧ type_of% @nxt_ct ∧ type_of% @endF_rt ∧ type_of% @endF_nx ∧ type_of% @Fj.pin_no ∧ type_of% @Fj.pin_val := ⟨@decide_false, @List.isEmpty_nil.{0}, @List.isEmpty_cons.{0}, @Fj.shaped_nil, @W_some, @W_none, @W1_some, @W1_none, @nxt_nx, @nxt_rt, @nxt_bk, @nxt_ct, @endF_rt, @endF_nx, @Fj.pin_no, @Fj.pin_val⟩
theorem wp19 : type_of% @Fj.pin_t ∧ type_of% @Fj.pin_f ∧ type_of% @Fj.pin_lent ∧ type_of% @Fj.pin_scr ∧ type_of% @List.getElem?_cons_zero.{0} ∧ type_of% @List.getElem?_cons_succ.{0} ∧ type_of% @List.getElem?_nil.{0} ∧ type_of% @List.set_cons_zero.{0} ∧ type_of% @List.set_cons_succ.{0} ∧ type_of% @List.length_cons.{0} ∧ type_of% @List.length_nil.{0} ∧ type_of% @List.map_cons.{0,0} ∧ type_of% @List.map_nil.{0,0} ∧ type_of% @List.cons_append.{0} ∧ type_of% @List.nil_append.{0} ∧ type_of% @List.append_nil.{0} := ⟨@Fj.pin_t, @Fj.pin_f, @Fj.pin_lent, @Fj.pin_scr, @List.getElem?_cons_zero.{0}, @List.getElem?_cons_succ.{0}, @List.getElem?_nil.{0}, @List.set_cons_zero.{0}, @List.set_cons_succ.{0}, @List.length_cons.{0}, @List.length_nil.{0}, @List.map_cons.{0,0}, @List.map_nil.{0,0}, @List.cons_append.{0}, @List.nil_append.{0}, @List.append_nil.{0}⟩
theorem wp20 : type_of% @List.replicate_succ.{0} ∧ type_of% @List.replicate_zero.{0} ∧ type_of% @List.filterMap_cons.{0,0} ∧ type_of% @List.filterMap_nil.{0,0} ∧ type_of% @List.all_cons.{0} ∧ type_of% @List.all_nil.{0} ∧ type_of% @Nat.zero_add ∧ type_of% @Nat.add_zero ∧ type_of% @Nat.sub_self ∧ type_of% @Bool.not_true ∧ type_of% @Bool.not_false ∧ type_of% @Bool.and_true ∧ type_of% @Bool.true_and ∧ type_of% @Bool.and_self ∧ type_of% @and_true ∧ type_of% @true_and := ⟨@List.replicate_succ.{0}, @List.replicate_zero.{0}, @List.filterMap_cons.{0,0}, @List.filterMap_nil.{0,0}, @List.all_cons.{0}, @List.all_nil.{0}, @Nat.zero_add, @Nat.add_zero, @Nat.sub_self, @Bool.not_true, @Bool.not_false, @Bool.and_true, @Bool.true_and, @Bool.and_self, @and_true, @true_and⟩
theorem wp21 : type_of% @false_implies ∧ type_of% @true_implies ∧ type_of% @Bool.false_eq_true ∧ type_of% @Option.some.injEq.{0} := ⟨@false_implies, @true_implies, @Bool.false_eq_true, @Option.some.injEq.{0}⟩
end Fj
namespace Fj
theorem Pl.all {e : Ent} (h : Pl e) : borS e = e ∧ (∀ fr, dkFit fr e = true) ∧ isDk e = false ∧ (∀ x, merS e x = e) ∧ pinE e = false ∧ valS e = e := ⟨h.bor, fun _ => h.fit, h.dk, fun _ => h.mer, h.pin, h.vs⟩
end Fj

set_option Elab.async false
set_option linter.all false
set_option maxRecDepth 100000
set_option maxHeartbeats 4000000
set_option autoImplicit false
/-! Rules of the later constructs. -/
namespace Fj
open PySem PySem.Spec PyProof.Rows L2
def revOf : PyData → Option Ent
  | .list ds => some (.own true (.lst ds.reverse))
  | .tuple ds => some (.val (.tuple ds.reverse))
  | _ => none
theorem rev_ofL {ds : List PyData} : revOf (.list ds) = some (.own true (.lst ds.reverse)) := rfl
theorem rev_ofT {ds : List PyData} : revOf (.tuple ds) = some (.val (.tuple ds.reverse)) := rfl
def tupOf : PyData → Option (List PyData)
  | .tuple ds => some ds
  | _ => none
theorem tup_of {ds : List PyData} : tupOf (.tuple ds) = some ds := rfl
section
variable {ρ : En} {Q : PyData → En → Prop} {S : Ent → En → Prop}
theorem w_rev2 {m : MV} : W (mRev2 m ρ) S = W (m ρ) fun d ρ => W1 (revOf d) fun e => S e ρ := by
  unfold mRev2
  cases m ρ with
  | none => rfl
  | some p =>
    obtain ⟨d, ρ⟩ := p
    cases d <;> rfl
theorem w_lr {m : MV} : W (mLR m ρ) S = W (m ρ) fun d ρ => W1 (intOf d) fun n => (-(2 ^ 62) ≤ n ∧ n < 2 ^ 62) ∧ n.toNat ≤ 100000 ∧ S (.own true (.lst (rngD 0 n.toNat))) ρ := by
  unfold mLR
  cases m ρ with
  | none => rfl
  | some p =>
    obtain ⟨d, ρ⟩ := p
    cases d with
    | int n =>
      show W (if R1ok n then if n.toNat ≤ 100000 then some (.own true (.lst (rngD 0 n.toNat)), ρ) else none else none) S = (R1ok n ∧ n.toNat ≤ 100000 ∧ S (.own true (.lst (rngD 0 n.toNat))) ρ)
      by_cases h : R1ok n
      · rw [if_pos h]
        by_cases g : n.toNat ≤ 100000
        · rw [if_pos g]
          exact propext ⟨fun z => ⟨h, g, z⟩, fun z => z.2.2⟩
        · rw [if_neg g]
          exact propext ⟨fun z => z.elim, fun z => absurd z.2.1 g⟩
      · rw [if_neg h]
        exact propext ⟨fun z => z.elim, fun z => absurd z.1 h⟩
    | _ => rfl
def seqOf : List PyData → Option (List PyData)
  | [.list ds] => some ds
  | [.tuple ds] => some ds
  | _ => none
theorem seq_ofL {ds : List PyData} : seqOf [.list ds] = some ds := rfl
theorem seq_ofT {ds : List PyData} : seqOf [.tuple ds] = some ds := rfl
theorem x_enum2 {n : MA} {S : List PyData → En → Prop} : W (mEnum2 n ρ) S = W (n ρ) fun ds ρ => W1 (seqOf ds) fun xs => S (enumD 0 xs) ρ := by
  unfold mEnum2
  cases n ρ with
  | none => rfl
  | some p =>
    obtain ⟨ds, ρ⟩ := p
    rcases ds with _ | ⟨d, _ | ⟨d', r⟩⟩
    · rfl
    · cases d <;> rfl
    · cases d <;> rfl
theorem w_ssi {m : MV} : W (mSSI m ρ) S = W (m ρ) fun d ρ => W1 (tupOf d) fun ds => W1 (intsD ds) fun ns => ns.length < 64 ∧ S (.own true (.lst ((isort (fun i j => decide (i < j)) (dedup ns)).map .int))) ρ := by
  unfold mSSI
  cases m ρ with
  | none => rfl
  | some p =>
    obtain ⟨d, ρ⟩ := p
    cases d with
    | tuple ds =>
      simp only [W_some, tupOf, W1_some]
      cases intsD ds with
      | none => rfl
      | some ns =>
        simp only [W1_some]
        by_cases h : ns.length < 64
        · rw [if_pos h]
          exact propext ⟨fun z => ⟨h, z⟩, fun z => z.2⟩
        · rw [if_neg h]
          exact propext ⟨fun z => z.elim, fun z => absurd z.1 h⟩
    | _ => rfl
def isLst (e : Ent) : Bool := match e with
  | .own _ (.lst _) => true
  | _ => false
theorem w_popAt {j : Nat} {m : MV} : W (mPopAt j m ρ) Q = W1 ρ[j]? fun e => W1 (lstOf e) fun _ => W (m ρ) fun d ρ => W1 (intOf d) fun i => W1 ρ[j]? fun e => W1 (lstOf e) fun q => W1 (L2.ixN q.2.length i) fun k => W1 q.2[k]? fun d => q.2.length ≤ 100000 ∧ Q d (ρ.set j (.own q.1 (.lst (q.2.eraseIdx k)))) := by
  unfold mPopAt
  cases ρ[j]? with
  | none => rfl
  | some e =>
    cases e with
    | own fr ce =>
      cases ce with
      | lst ds =>
        simp only [W1_some, lstOf]
        cases m ρ with
        | none => rfl
        | some p =>
          obtain ⟨d, ρ⟩ := p
          cases d with
          | int i =>
            simp only [W_some, intOf, W1_some]
            cases ρ[j]? with
            | none => rfl
            | some e =>
              cases e with
              | own fr ce =>
                cases ce with
                | lst ds =>
                  simp only [W1_some]
                  cases L2.ixN ds.length i with
                  | none => rfl
                  | some k =>
                    simp only [W1_some]
                    cases ds[k]? with
                    | none => rfl
                    | some d =>
                      simp only [W1_some]
                      by_cases h : ds.length ≤ 100000
                      · rw [if_pos h]
                        exact propext ⟨fun z => ⟨h, z⟩, fun z => z.2⟩
                      · rw [if_neg h]
                        exact propext ⟨fun z => z.elim, fun z => absurd z.1 h⟩
                | _ => rfl
              | _ => rfl
          | _ => rfl
      | _ => rfl
    | _ => rfl
end
theorem g_strI {i : Int} {S : Ent → Prop} : W1 (gStrI [.int i]) S = (i.natAbs.log2 < 1920 ∧ S (.val (.str (toString i : String)))) := by
  unfold gStrI
  exact W1_if
theorem g_eqNn {ds : List PyData} {Q : PyData → Prop} : W1 (gEqN (.list ds) (.list [])) Q = Q (.bool ds.isEmpty) := rfl
theorem g_neNn {ds : List PyData} {Q : PyData → Prop} : W1 (gNeN (.list ds) (.list [])) Q = Q (.bool (!ds.isEmpty)) := rfl
theorem ixN_nat {n k : Nat} (h : k < n) : L2.ixN n (k : Int) = some k := by
  unfold L2.ixN
  rw [if_pos (Int.natCast_nonneg k), if_pos (by omega)]
  rfl
theorem g_mulLL {xs : List PyData} {k : Int} {Q : PyData → Prop} : W1 (gMul (.list xs) (.int k)) Q = ((-1000000 ≤ k ∧ k ≤ 100000 ∧ xs.length * k.toNat ≤ 100000) ∧ Q (.list (repD k.toNat xs))) := by
  unfold gMul gMulI gI gMulL
  simp only [Option.none_or]
  exact W1_if
theorem g_mulTT {xs : List PyData} {k : Int} {Q : PyData → Prop} : W1 (gMul (.tuple xs) (.int k)) Q = ((2 ≤ k ∧ k ≤ 1000 ∧ xs.length ≤ 1000 ∧ 1 ≤ xs.length) ∧ Q (.tuple (repD k.toNat xs))) := by
  unfold gMul gMulI gI gMulL
  simp only [Option.none_or]
  exact W1_if
theorem g_isFalse {b : Bool} {Q : PyData → Prop} : W1 (gIs (.bool b) (.bool false)) Q = Q (.bool (!b)) := by
  cases b <;> rfl
theorem g_intB {b : Bool} {S : Ent → Prop} : W1 (gInt [.bool b]) S = S (.val (.int (if b = true then 1 else 0))) := rfl
theorem wpz : type_of% @Fj.w_rev2 ∧ type_of% @Fj.w_lr ∧ type_of% @Fj.w_ssi ∧ type_of% @Fj.w_popAt ∧ type_of% @Fj.g_strI ∧ type_of% @Fj.g_eqNn ∧ type_of% @Fj.g_neNn ∧ type_of% @Fj.rev_ofL ∧ type_of% @Fj.rev_ofT ∧ type_of% @Fj.tup_of ∧ type_of% @Fj.g_mulLL ∧ type_of% @Fj.g_mulTT ∧ type_of% @Fj.x_enum2 ∧ type_of% @Fj.seq_ofL ∧ type_of% @Fj.seq_ofT ∧ type_of% @Fj.g_isFalse ∧ type_of% @Fj.g_intB := ⟨@Fj.w_rev2, @Fj.w_lr, @Fj.w_ssi, @Fj.w_popAt, @Fj.g_strI, @Fj.g_eqNn, @Fj.g_neNn, @Fj.rev_ofL, @Fj.rev_ofT, @Fj.tup_of, @Fj.g_mulLL, @Fj.g_mulTT, @Fj.x_enum2, @Fj.seq_ofL, @Fj.seq_ofT, @Fj.g_isFalse, @Fj.g_intB⟩

theorem w_lcFilD {g : MG} {t : MT} {m : MV} {vs : List Nat} {Q : List PyData → En → Prop} {ρ : En} (p : PyData → Bool) (f : PyData → PyData) {xs : List PyData}
    (h : ∀ x ∈ xs, W1 (g x ρ) fun ρ1 => W (t ρ1) fun b ρ2 => b = p x ∧ (b = true → W (m ρ2) fun y ρ3 => y = f x ∧ vs.all (freeE ρ3) = true ∧ wipeE ρ3 vs = ρ) ∧ (b = false → vs.all (freeE ρ2) = true ∧ wipeE ρ2 vs = ρ)) (hl : xs.length ≤ 100000) (q : Q ((xs.filter p).map f) ρ) : W (lcL g t m vs xs [] ρ) Q := by
  have := w_lcFil (g := g) (t := t) (m := m) (vs := vs) (Q := Q) (ρ := ρ) id p f (xs := xs) h hl q
  rwa [List.map_id] at this
theorem w_lcMapD {g : MG} {t : MT} {m : MV} {vs : List Nat} {Q : List PyData → En → Prop} {ρ : En} (f : PyData → PyData) {xs : List PyData}
    (h : ∀ x ∈ xs, W1 (g x ρ) fun ρ1 => W (t ρ1) fun b ρ2 => b = true ∧ W (m ρ2) fun y ρ3 => y = f x ∧ vs.all (freeE ρ3) = true ∧ wipeE ρ3 vs = ρ) (hl : xs.length ≤ 100000) (q : Q (xs.map f) ρ) : W (lcL g t m vs xs [] ρ) Q := by
  have := w_lcMap (g := g) (t := t) (m := m) (vs := vs) (Q := Q) (ρ := ρ) id f (xs := xs) h hl q
  rwa [List.map_id] at this
/-- a comprehension over data: what each is mapped to stands in a relation -/
theorem layInts : ∀ ns : List Int, PyData.canLayAll0 (ns.map .int) = true ∧ PyData.depthAll (ns.map .int) = 0
  | [] => ⟨by simp [PyData.canLayAll0], by simp [PyData.depthAll]⟩
  | n :: ns => by
    obtain ⟨h1, h2⟩ := layInts ns
    rw [List.map_cons]
    exact ⟨by unfold PyData.canLayAll0; rw [h1]; simp [PyData.canLay0], by unfold PyData.depthAll; rw [h2]; simp [PyData.depth]⟩
theorem shaped_intsL (ns : List Int) : SeqAt.shaped (.list (ns.map .int)) = true := by
  obtain ⟨h1, h2⟩ := layInts ns
  unfold SeqAt.shaped PyData.canLay0 PyData.depth
  rw [h1, h2]
  decide
theorem shaped_intsT (ns : List Int) : SeqAt.shaped (.tuple (ns.map .int)) = true := by
  obtain ⟨h1, h2⟩ := layInts ns
  unfold SeqAt.shaped PyData.canLay0 PyData.depth
  rw [h1, h2]
  decide
theorem ints_inj {as bs : List Int} : as.map PyData.int = bs.map PyData.int ↔ as = bs :=
  ⟨fun h => by
    induction as generalizing bs with
    | nil => cases bs with
      | nil => rfl
      | cons b bs => cases h
    | cons a as ih => cases bs with
      | nil => cases h
      | cons b bs =>
        rw [List.map_cons, List.map_cons] at h
        injection h with h1 h2
        injection h1 with h1
        rw [h1, ih h2], fun h => h ▸ rfl⟩
theorem g_neLI {as bs : List Int} {Q : PyData → Prop} : W1 (gNe (.list (as.map .int)) (.list (bs.map .int))) Q = Q (.bool (!decide (as = bs))) := by
  unfold gNe gNeS gNeD
  simp only [Option.none_or]
  rw [shaped_intsL, shaped_intsL]
  simp only [Bool.and_self, if_true, W1_some]
  have e : PyData.eqv (.list (as.map .int)) (.list (bs.map .int)) = decide (as = bs) := by
    rw [Bool.eq_iff_iff, decide_eq_true_iff, ← ints_inj]
    have := eqvAll_iff _ _ (simAll_ints as) (simAll_ints bs)
    simpa [PyData.eqv] using this
  rw [e]
/-! numbers that rise -/
def rise (ns : List Int) : Bool := (ns.zip (ns.drop 1)).all fun p => decide (p.1 < p.2)
theorem rise_cons2 {a b : Int} {ns : List Int} : rise (a :: b :: ns) = (decide (a < b) && rise (b :: ns)) := rfl
theorem rise_iff : ∀ {ns : List Int}, rise ns = true ↔ ns.Pairwise (fun a b => a < b)
  | [] => by simp [rise]
  | [a] => by simp [rise]
  | a :: b :: ns => by
    rw [rise_cons2, Bool.and_eq_true, decide_eq_true_iff, rise_iff, List.pairwise_cons (a := a)]
    refine ⟨fun ⟨h1, h2⟩ => ⟨fun c hc => ?_, h2⟩, fun ⟨h1, h2⟩ => ⟨h1 b (List.mem_cons_self ..), h2⟩⟩
    rcases List.mem_cons.mp hc with e | e
    · rw [e]; exact h1
    · have := List.rel_of_pairwise_cons h2 e
      omega
theorem ord_rise (ns : List Int) : (isort (fun i j => decide (i < j)) (dedup ns)).Pairwise (fun a b => a < b) := by
  have nd2 : (isort (fun i j : Int => decide (i < j)) (dedup ns)).Nodup := (isort_perm _ _).nodup_iff.mpr (nodup_dedup _)
  exact ((isort_sorted ord_int _).and nd2).imp fun {a b} ⟨h1, h2⟩ => by
    have := of_decide_eq_false h1
    omega
theorem rise_ssi {ns : List Int} : isort (fun i j => decide (i < j)) (dedup ns) = ns ↔ rise ns = true := by
  rw [rise_iff]
  refine ⟨fun h => h ▸ ord_rise ns, fun h => ?_⟩
  have nd : ns.Nodup := h.imp fun {a b} z => by omega
  refine uniq_sorted (r := fun a b : Int => a ≤ b) (fun a b h1 h2 => Int.le_antisymm h1 h2) ?_ ((ord_rise ns).imp fun {a b} z => by omega) (h.imp fun {a b} z => by omega)
  refine (isort_perm _ _).trans ?_
  refine (List.perm_ext_iff_of_nodup (nodup_dedup _) nd).mpr fun x => mem_dedup
theorem zip_pairs (as bs : List Int) : zipD (as.map .int) (bs.map .int) = (as.zip bs).map fun p => .tuple [.int p.1, .int p.2] := by
  unfold zipD
  rw [List.zip_map, List.map_map]
  rfl
theorem zip_next (ns : List Int) : zipD (ns.map .int) (cutD (ns.map .int) (some 1) none) = (ns.zip (ns.drop 1)).map fun p => .tuple [.int p.1, .int p.2] := by
  rw [cut_1, ← List.map_drop, zip_pairs]

theorem any_ints {ns : List Int} {i : Int} : ((ns.map PyData.int).any fun z => PyData.eqv z (.int i)) = decide (i ∈ ns) := by
  rw [Bool.eq_iff_iff, decide_eq_true_iff, List.any_map, List.any_eq_true]
  refine ⟨fun ⟨j, hj, e⟩ => ?_, fun h => ⟨i, h, ?_⟩⟩
  · have e : PyData.eqv (.int j) (.int i) = true := e
    have : j = i := by simpa [PyData.eqv] using e
    exact this ▸ hj
  · show PyData.eqv (.int i) (.int i) = true
    simp [PyData.eqv]
theorem shaped_intX {i : Int} : SeqAt.shaped (.int i) = true := by
  unfold SeqAt.shaped
  simp [PyData.canLay0, PyData.depth]
theorem g_inI {ns : List Int} {i : Int} {Q : PyData → Prop} : W1 (gIn (.int i) (.tuple (ns.map .int))) Q = Q (.bool (decide (i ∈ ns))) := by
  unfold gIn gInD
  simp only [shaped_intsT, shaped_intX, Bool.and_self, if_true, any_ints]
  rfl
theorem g_ninI {ns : List Int} {i : Int} {Q : PyData → Prop} : W1 (gNotInD (.int i) (.tuple (ns.map .int))) Q = Q (.bool (!decide (i ∈ ns))) := by
  unfold gNotInD
  simp only [shaped_intsT, shaped_intX, Bool.and_self, if_true, any_ints]
  rfl
end Fj

set_option Elab.async false
set_option linter.all false
set_option maxRecDepth 100000
set_option maxHeartbeats 0
namespace L_k36
open PySem PySem.Spec PyProof.Rows L2 Fj
noncomputable section

def top (i : Nat) : Stmt := PySem.Challenge.pw_facejudge_k36_whole_problems_bars_and_ch.main.body.getD i (.Pass ⟨0, 0, 0, 0⟩)
abbrev s_is_integer : Stmt := top 6
abbrev s_is_row : Stmt := top 9
abbrev s_is_rising : Stmt := top 10
abbrev s_meets : Stmt := top 19
abbrev s__law_deck : Stmt := top 29
abbrev s__law_draw : Stmt := top 30
abbrev s__law_is_number : Stmt := top 38
abbrev s__law_all : Stmt := top 46
abbrev s__law_meets : Stmt := top 47
abbrev s_is_between : Stmt := top 7
abbrev s_is_right_value : Stmt := top 20
abbrev s__law_pick : Stmt := top 31
abbrev s__law_shuffled : Stmt := top 32
abbrev s__law_is_bar : Stmt := top 39
abbrev s__law_are_sizes : Stmt := top 40
abbrev s__law_is_choice : Stmt := top 42
abbrev s__law_rights : Stmt := top 48
abbrev s_are_between : Stmt := top 8
abbrev s_are_sizes : Stmt := top 12
abbrev s_is_choice_value : Stmt := top 18
abbrev s__law_sizes : Stmt := top 34
abbrev s__law_term : Stmt := top 35
abbrev s__law_is_problem : Stmt := top 41
abbrev s__law_odd : Stmt := top 43
abbrev s__law_great : Stmt := top 45
abbrev s_is_term : Stmt := top 13
abbrev s__law_drawn_bar : Stmt := top 36
abbrev s_is_bar_value : Stmt := top 14
abbrev s__law_problem : Stmt := top 37
abbrev s_is_problem_value : Stmt := top 15
abbrev s_need_bar : Stmt := top 17
abbrev s_is_bar : Stmt := top 23
abbrev s_need_problem : Stmt := top 16
abbrev s_is_problem : Stmt := top 22
abbrev s_is_choice_of : Stmt := top 24
abbrev s_need_choice : Stmt := top 25
abbrev s_does_meet : Stmt := top 26
abbrev s_is_right_choice : Stmt := top 27
abbrev s__law_same : Stmt := top 33
abbrev s__law_are_meetings : Stmt := top 50
abbrev s__law_bent : Stmt := top 44
abbrev s__law_are_forms : Stmt := top 49
abbrev s_law : Stmt := top 51
abbrev FnP (K : PySem.W.Frag) (x : Str) (st : Stmt) (f : Addr) (fd : FuncData) : Prop := FunD K x x (defArgs st) (defBody st) (defScope st) [] [] f fd
abbrev N_is_integer : List Str := ["thing"]
abbrev P_is_integer : List Str := ["thing"]
theorem sc_is_integer : FnScope N_is_integer P_is_integer (defScope s_is_integer) := ⟨rfl, rfl, rfl, by decide +kernel, rfl, by decide +kernel, by decide +kernel⟩
def d_is_integer : He.DefD := ⟨("is_integer", none), "is_integer", "is_integer", defArgs s_is_integer, defBody s_is_integer, defScope s_is_integer, [], []⟩
abbrev N_is_row : List Str := ["thing", "many"]
abbrev P_is_row : List Str := ["thing", "many"]
theorem sc_is_row : FnScope N_is_row P_is_row (defScope s_is_row) := ⟨rfl, rfl, rfl, by decide +kernel, rfl, by decide +kernel, by decide +kernel⟩
def d_is_row : He.DefD := ⟨("is_row", none), "is_row", "is_row", defArgs s_is_row, defBody s_is_row, defScope s_is_row, [], []⟩
abbrev N_is_rising : List Str := ["some", "one", "other"]
abbrev P_is_rising : List Str := ["some"]
theorem sc_is_rising : FnScope N_is_rising P_is_rising (defScope s_is_rising) := ⟨rfl, rfl, rfl, by decide +kernel, rfl, by decide +kernel, by decide +kernel⟩
def d_is_rising : He.DefD := ⟨("is_rising", none), "is_rising", "is_rising", defArgs s_is_rising, defBody s_is_rising, defScope s_is_rising, [], []⟩
abbrev N_meets : List Str := ["choice", "bar", "i", "states"]
abbrev P_meets : List Str := ["choice", "bar"]
theorem sc_meets : FnScope N_meets P_meets (defScope s_meets) := ⟨rfl, rfl, rfl, by decide +kernel, rfl, by decide +kernel, by decide +kernel⟩
def d_meets : He.DefD := ⟨("meets", none), "meets", "meets", defArgs s_meets, defBody s_meets, defScope s_meets, [], []⟩
abbrev N__law_deck : List Str := ["script", "mixed", "cell"]
abbrev P__law_deck : List Str := ["script"]
theorem sc__law_deck : FnScope N__law_deck P__law_deck (defScope s__law_deck) := ⟨rfl, rfl, rfl, by decide +kernel, rfl, by decide +kernel, by decide +kernel⟩
def d__law_deck : He.DefD := ⟨("_law_deck", none), "_law_deck", "_law_deck", defArgs s__law_deck, defBody s__law_deck, defScope s__law_deck, [], []⟩
abbrev N__law_draw : List Str := ["deck", "below", "number", "cell"]
abbrev P__law_draw : List Str := ["deck", "below"]
theorem sc__law_draw : FnScope N__law_draw P__law_draw (defScope s__law_draw) := ⟨rfl, rfl, rfl, by decide +kernel, rfl, by decide +kernel, by decide +kernel⟩
def d__law_draw : He.DefD := ⟨("_law_draw", none), "_law_draw", "_law_draw", defArgs s__law_draw, defBody s__law_draw, defScope s__law_draw, [], []⟩
abbrev N__law_is_number : List Str := ["thing"]
abbrev P__law_is_number : List Str := ["thing"]
theorem sc__law_is_number : FnScope N__law_is_number P__law_is_number (defScope s__law_is_number) := ⟨rfl, rfl, rfl, by decide +kernel, rfl, by decide +kernel, by decide +kernel⟩
def d__law_is_number : He.DefD := ⟨("_law_is_number", none), "_law_is_number", "_law_is_number", defArgs s__law_is_number, defBody s__law_is_number, defScope s__law_is_number, [], []⟩
abbrev N__law_all : List Str := ["sizes", "found", "size", "more", "choice", "state"]
abbrev P__law_all : List Str := ["sizes"]
theorem sc__law_all : FnScope N__law_all P__law_all (defScope s__law_all) := ⟨rfl, rfl, rfl, by decide +kernel, rfl, by decide +kernel, by decide +kernel⟩
def d__law_all : He.DefD := ⟨("_law_all", none), "_law_all", "_law_all", defArgs s__law_all, defBody s__law_all, defScope s__law_all, [], []⟩
abbrev N__law_meets : List Str := ["choice", "bar", "i", "marks"]
abbrev P__law_meets : List Str := ["choice", "bar"]
theorem sc__law_meets : FnScope N__law_meets P__law_meets (defScope s__law_meets) := ⟨rfl, rfl, rfl, by decide +kernel, rfl, by decide +kernel, by decide +kernel⟩
def d__law_meets : He.DefD := ⟨("_law_meets", none), "_law_meets", "_law_meets", defArgs s__law_meets, defBody s__law_meets, defScope s__law_meets, [], []⟩
abbrev N_is_between : List Str := ["thing", "least", "most"]
abbrev P_is_between : List Str := ["thing", "least", "most"]
theorem sc_is_between : FnScope N_is_between P_is_between (defScope s_is_between) := ⟨rfl, rfl, rfl, by decide +kernel, rfl, by decide +kernel, by decide +kernel⟩
def d_is_between : He.DefD := ⟨("is_between", none), "is_between", "is_between", defArgs s_is_between, defBody s_is_between, defScope s_is_between, [], []⟩
abbrev N_is_right_value : List Str := ["problem", "choice", "bar"]
abbrev P_is_right_value : List Str := ["problem", "choice"]
theorem sc_is_right_value : FnScope N_is_right_value P_is_right_value (defScope s_is_right_value) := ⟨rfl, rfl, rfl, by decide +kernel, rfl, by decide +kernel, by decide +kernel⟩
def d_is_right_value : He.DefD := ⟨("is_right_value", none), "is_right_value", "is_right_value", defArgs s_is_right_value, defBody s_is_right_value, defScope s_is_right_value, [], []⟩
abbrev N__law_pick : List Str := ["deck", "some"]
abbrev P__law_pick : List Str := ["deck", "some"]
theorem sc__law_pick : FnScope N__law_pick P__law_pick (defScope s__law_pick) := ⟨rfl, rfl, rfl, by decide +kernel, rfl, by decide +kernel, by decide +kernel⟩
def d__law_pick : He.DefD := ⟨("_law_pick", none), "_law_pick", "_law_pick", defArgs s__law_pick, defBody s__law_pick, defScope s__law_pick, [], []⟩
abbrev N__law_shuffled : List Str := ["deck", "some", "go", "left", "found"]
abbrev P__law_shuffled : List Str := ["deck", "some"]
theorem sc__law_shuffled : FnScope N__law_shuffled P__law_shuffled (defScope s__law_shuffled) := ⟨rfl, rfl, rfl, by decide +kernel, rfl, by decide +kernel, by decide +kernel⟩
def d__law_shuffled : He.DefD := ⟨("_law_shuffled", none), "_law_shuffled", "_law_shuffled", defArgs s__law_shuffled, defBody s__law_shuffled, defScope s__law_shuffled, [], []⟩
abbrev N__law_is_bar : List Str := ["sizes", "thing", "term", "one", "other", "state"]
abbrev P__law_is_bar : List Str := ["sizes", "thing"]
theorem sc__law_is_bar : FnScope N__law_is_bar P__law_is_bar (defScope s__law_is_bar) := ⟨rfl, rfl, rfl, by decide +kernel, rfl, by decide +kernel, by decide +kernel⟩
def d__law_is_bar : He.DefD := ⟨("_law_is_bar", none), "_law_is_bar", "_law_is_bar", defArgs s__law_is_bar, defBody s__law_is_bar, defScope s__law_is_bar, [], []⟩
abbrev N__law_are_sizes : List Str := ["thing", "size"]
abbrev P__law_are_sizes : List Str := ["thing"]
theorem sc__law_are_sizes : FnScope N__law_are_sizes P__law_are_sizes (defScope s__law_are_sizes) := ⟨rfl, rfl, rfl, by decide +kernel, rfl, by decide +kernel, by decide +kernel⟩
def d__law_are_sizes : He.DefD := ⟨("_law_are_sizes", none), "_law_are_sizes", "_law_are_sizes", defArgs s__law_are_sizes, defBody s__law_are_sizes, defScope s__law_are_sizes, [], []⟩
abbrev N__law_is_choice : List Str := ["sizes", "thing", "state", "size"]
abbrev P__law_is_choice : List Str := ["sizes", "thing"]
theorem sc__law_is_choice : FnScope N__law_is_choice P__law_is_choice (defScope s__law_is_choice) := ⟨rfl, rfl, rfl, by decide +kernel, rfl, by decide +kernel, by decide +kernel⟩
def d__law_is_choice : He.DefD := ⟨("_law_is_choice", none), "_law_is_choice", "_law_is_choice", defArgs s__law_is_choice, defBody s__law_is_choice, defScope s__law_is_choice, [], []⟩
abbrev N__law_rights : List Str := ["problem", "choice", "bar"]
abbrev P__law_rights : List Str := ["problem"]
theorem sc__law_rights : FnScope N__law_rights P__law_rights (defScope s__law_rights) := ⟨rfl, rfl, rfl, by decide +kernel, rfl, by decide +kernel, by decide +kernel⟩
def d__law_rights : He.DefD := ⟨("_law_rights", none), "_law_rights", "_law_rights", defArgs s__law_rights, defBody s__law_rights, defScope s__law_rights, [], []⟩
abbrev N_are_between : List Str := ["thing", "least", "most", "part"]
abbrev P_are_between : List Str := ["thing", "least", "most"]
theorem sc_are_between : FnScope N_are_between P_are_between (defScope s_are_between) := ⟨rfl, rfl, rfl, by decide +kernel, rfl, by decide +kernel, by decide +kernel⟩
def d_are_between : He.DefD := ⟨("are_between", none), "are_between", "are_between", defArgs s_are_between, defBody s_are_between, defScope s_are_between, [], []⟩
abbrev N_are_sizes : List Str := ["thing", "size"]
abbrev P_are_sizes : List Str := ["thing"]
theorem sc_are_sizes : FnScope N_are_sizes P_are_sizes (defScope s_are_sizes) := ⟨rfl, rfl, rfl, by decide +kernel, rfl, by decide +kernel, by decide +kernel⟩
def d_are_sizes : He.DefD := ⟨("are_sizes", none), "are_sizes", "are_sizes", defArgs s_are_sizes, defBody s_are_sizes, defScope s_are_sizes, [], []⟩
abbrev N_is_choice_value : List Str := ["sizes", "thing", "state", "size"]
abbrev P_is_choice_value : List Str := ["sizes", "thing"]
theorem sc_is_choice_value : FnScope N_is_choice_value P_is_choice_value (defScope s_is_choice_value) := ⟨rfl, rfl, rfl, by decide +kernel, rfl, by decide +kernel, by decide +kernel⟩
def d_is_choice_value : He.DefD := ⟨("is_choice_value", none), "is_choice_value", "is_choice_value", defArgs s_is_choice_value, defBody s_is_choice_value, defScope s_is_choice_value, [], []⟩
abbrev N__law_sizes : List Str := ["deck", "most", "many", "turn", "found", "product", "size"]
abbrev P__law_sizes : List Str := ["deck", "most", "many"]
theorem sc__law_sizes : FnScope N__law_sizes P__law_sizes (defScope s__law_sizes) := ⟨rfl, rfl, rfl, by decide +kernel, rfl, by decide +kernel, by decide +kernel⟩
def d__law_sizes : He.DefD := ⟨("_law_sizes", none), "_law_sizes", "_law_sizes", defArgs s__law_sizes, defBody s__law_sizes, defScope s__law_sizes, [], []⟩
abbrev N__law_term : List Str := ["deck", "i", "size", "marks"]
abbrev P__law_term : List Str := ["deck", "i", "size"]
theorem sc__law_term : FnScope N__law_term P__law_term (defScope s__law_term) := ⟨rfl, rfl, rfl, by decide +kernel, rfl, by decide +kernel, by decide +kernel⟩
def d__law_term : He.DefD := ⟨("_law_term", none), "_law_term", "_law_term", defArgs s__law_term, defBody s__law_term, defScope s__law_term, [], []⟩
abbrev N__law_is_problem : List Str := ["thing", "bar"]
abbrev P__law_is_problem : List Str := ["thing"]
theorem sc__law_is_problem : FnScope N__law_is_problem P__law_is_problem (defScope s__law_is_problem) := ⟨rfl, rfl, rfl, by decide +kernel, rfl, by decide +kernel, by decide +kernel⟩
def d__law_is_problem : He.DefD := ⟨("_law_is_problem", none), "_law_is_problem", "_law_is_problem", defArgs s__law_is_problem, defBody s__law_is_problem, defScope s__law_is_problem, [], []⟩
abbrev N__law_odd : List Str := ["deck", "it", "some"]
abbrev P__law_odd : List Str := ["deck", "it"]
theorem sc__law_odd : FnScope N__law_odd P__law_odd (defScope s__law_odd) := ⟨rfl, rfl, rfl, by decide +kernel, rfl, by decide +kernel, by decide +kernel⟩
def d__law_odd : He.DefD := ⟨("_law_odd", none), "_law_odd", "_law_odd", defArgs s__law_odd, defBody s__law_odd, defScope s__law_odd, [], []⟩
abbrev N__law_great : List Str := ["deck", "sizes", "five", "some", "size", "many", "i"]
abbrev P__law_great : List Str := ["deck", "sizes"]
theorem sc__law_great : FnScope N__law_great P__law_great (defScope s__law_great) := ⟨rfl, rfl, rfl, by decide +kernel, rfl, by decide +kernel, by decide +kernel⟩
def d__law_great : He.DefD := ⟨("_law_great", none), "_law_great", "_law_great", defArgs s__law_great, defBody s__law_great, defScope s__law_great, [], []⟩
abbrev N_is_term : List Str := ["sizes", "thing", "size"]
abbrev P_is_term : List Str := ["sizes", "thing"]
theorem sc_is_term : FnScope N_is_term P_is_term (defScope s_is_term) := ⟨rfl, rfl, rfl, by decide +kernel, rfl, by decide +kernel, by decide +kernel⟩
def d_is_term : He.DefD := ⟨("is_term", none), "is_term", "is_term", defArgs s_is_term, defBody s_is_term, defScope s_is_term, [], []⟩
abbrev N__law_drawn_bar : List Str := ["deck", "sizes", "most", "places", "some", "i", "size"]
abbrev P__law_drawn_bar : List Str := ["deck", "sizes", "most"]
theorem sc__law_drawn_bar : FnScope N__law_drawn_bar P__law_drawn_bar (defScope s__law_drawn_bar) := ⟨rfl, rfl, rfl, by decide +kernel, rfl, by decide +kernel, by decide +kernel⟩
def d__law_drawn_bar : He.DefD := ⟨("_law_drawn_bar", none), "_law_drawn_bar", "_law_drawn_bar", defArgs s__law_drawn_bar, defBody s__law_drawn_bar, defScope s__law_drawn_bar, [], []⟩
abbrev N_is_bar_value : List Str := ["sizes", "thing", "term"]
abbrev P_is_bar_value : List Str := ["sizes", "thing"]
theorem sc_is_bar_value : FnScope N_is_bar_value P_is_bar_value (defScope s_is_bar_value) := ⟨rfl, rfl, rfl, by decide +kernel, rfl, by decide +kernel, by decide +kernel⟩
def d_is_bar_value : He.DefD := ⟨("is_bar_value", none), "is_bar_value", "is_bar_value", defArgs s_is_bar_value, defBody s_is_bar_value, defScope s_is_bar_value, [], []⟩
abbrev N__law_problem : List Str := ["deck", "most", "many", "turn", "sizes", "bars", "bar"]
abbrev P__law_problem : List Str := ["deck", "most", "many"]
theorem sc__law_problem : FnScope N__law_problem P__law_problem (defScope s__law_problem) := ⟨rfl, rfl, rfl, by decide +kernel, rfl, by decide +kernel, by decide +kernel⟩
def d__law_problem : He.DefD := ⟨("_law_problem", none), "_law_problem", "_law_problem", defArgs s__law_problem, defBody s__law_problem, defScope s__law_problem, [], []⟩
abbrev N_is_problem_value : List Str := ["thing", "bar"]
abbrev P_is_problem_value : List Str := ["thing"]
theorem sc_is_problem_value : FnScope N_is_problem_value P_is_problem_value (defScope s_is_problem_value) := ⟨rfl, rfl, rfl, by decide +kernel, rfl, by decide +kernel, by decide +kernel⟩
def d_is_problem_value : He.DefD := ⟨("is_problem_value", none), "is_problem_value", "is_problem_value", defArgs s_is_problem_value, defBody s_is_problem_value, defScope s_is_problem_value, [], []⟩
abbrev N_need_bar : List Str := ["problem", "bar"]
abbrev P_need_bar : List Str := ["problem", "bar"]
theorem sc_need_bar : FnScope N_need_bar P_need_bar (defScope s_need_bar) := ⟨rfl, rfl, rfl, by decide +kernel, rfl, by decide +kernel, by decide +kernel⟩
def d_need_bar : He.DefD := ⟨("need_bar", none), "need_bar", "need_bar", defArgs s_need_bar, defBody s_need_bar, defScope s_need_bar, [], []⟩
abbrev N_is_bar : List Str := ["sizes", "thing"]
abbrev P_is_bar : List Str := ["sizes", "thing"]
theorem sc_is_bar : FnScope N_is_bar P_is_bar (defScope s_is_bar) := ⟨rfl, rfl, rfl, by decide +kernel, rfl, by decide +kernel, by decide +kernel⟩
def d_is_bar : He.DefD := ⟨("is_bar", none), "is_bar", "is_bar", defArgs s_is_bar, defBody s_is_bar, defScope s_is_bar, [], []⟩
abbrev N_need_problem : List Str := ["problem"]
abbrev P_need_problem : List Str := ["problem"]
theorem sc_need_problem : FnScope N_need_problem P_need_problem (defScope s_need_problem) := ⟨rfl, rfl, rfl, by decide +kernel, rfl, by decide +kernel, by decide +kernel⟩
def d_need_problem : He.DefD := ⟨("need_problem", none), "need_problem", "need_problem", defArgs s_need_problem, defBody s_need_problem, defScope s_need_problem, [], []⟩
abbrev N_is_problem : List Str := ["thing"]
abbrev P_is_problem : List Str := ["thing"]
theorem sc_is_problem : FnScope N_is_problem P_is_problem (defScope s_is_problem) := ⟨rfl, rfl, rfl, by decide +kernel, rfl, by decide +kernel, by decide +kernel⟩
def d_is_problem : He.DefD := ⟨("is_problem", none), "is_problem", "is_problem", defArgs s_is_problem, defBody s_is_problem, defScope s_is_problem, [], []⟩
abbrev N_is_choice_of : List Str := ["problem", "thing"]
abbrev P_is_choice_of : List Str := ["problem", "thing"]
theorem sc_is_choice_of : FnScope N_is_choice_of P_is_choice_of (defScope s_is_choice_of) := ⟨rfl, rfl, rfl, by decide +kernel, rfl, by decide +kernel, by decide +kernel⟩
def d_is_choice_of : He.DefD := ⟨("is_choice_of", none), "is_choice_of", "is_choice_of", defArgs s_is_choice_of, defBody s_is_choice_of, defScope s_is_choice_of, [], []⟩
abbrev N_need_choice : List Str := ["problem", "choice"]
abbrev P_need_choice : List Str := ["problem", "choice"]
theorem sc_need_choice : FnScope N_need_choice P_need_choice (defScope s_need_choice) := ⟨rfl, rfl, rfl, by decide +kernel, rfl, by decide +kernel, by decide +kernel⟩
def d_need_choice : He.DefD := ⟨("need_choice", none), "need_choice", "need_choice", defArgs s_need_choice, defBody s_need_choice, defScope s_need_choice, [], []⟩
abbrev N_does_meet : List Str := ["problem", "choice", "bar"]
abbrev P_does_meet : List Str := ["problem", "choice", "bar"]
theorem sc_does_meet : FnScope N_does_meet P_does_meet (defScope s_does_meet) := ⟨rfl, rfl, rfl, by decide +kernel, rfl, by decide +kernel, by decide +kernel⟩
def d_does_meet : He.DefD := ⟨("does_meet", none), "does_meet", "does_meet", defArgs s_does_meet, defBody s_does_meet, defScope s_does_meet, [], []⟩
abbrev N_is_right_choice : List Str := ["problem", "choice"]
abbrev P_is_right_choice : List Str := ["problem", "choice"]
theorem sc_is_right_choice : FnScope N_is_right_choice P_is_right_choice (defScope s_is_right_choice) := ⟨rfl, rfl, rfl, by decide +kernel, rfl, by decide +kernel, by decide +kernel⟩
def d_is_right_choice : He.DefD := ⟨("is_right_choice", none), "is_right_choice", "is_right_choice", defArgs s_is_right_choice, defBody s_is_right_choice, defScope s_is_right_choice, [], []⟩
abbrev N__law_same : List Str := ["one", "due", "a", "b"]
abbrev P__law_same : List Str := ["one", "due"]
theorem sc__law_same : FnScope N__law_same P__law_same (defScope s__law_same) := ⟨rfl, rfl, rfl, by decide +kernel, rfl, by decide +kernel, by decide +kernel⟩
def d__law_same : He.DefD := ⟨("_law_same", none), "_law_same", "_law_same", defArgs s__law_same, defBody s__law_same, defScope s__law_same, [], []⟩
abbrev N__law_are_meetings : List Str := ["deck", "turn", "problem", "choices", "rights", "at", "choice", "due", "got", "bar"]
abbrev P__law_are_meetings : List Str := ["deck"]
theorem sc__law_are_meetings : FnScope N__law_are_meetings P__law_are_meetings (defScope s__law_are_meetings) := ⟨rfl, rfl, rfl, by decide +kernel, rfl, by decide +kernel, by decide +kernel⟩
def d__law_are_meetings : He.DefD := ⟨("_law_are_meetings", none), "_law_are_meetings", "_law_are_meetings", defArgs s__law_are_meetings, defBody s__law_are_meetings, defScope s__law_are_meetings, [], []⟩
abbrev N__law_bent : List Str := ["deck", "it", "at"]
abbrev P__law_bent : List Str := ["deck", "it"]
theorem sc__law_bent : FnScope N__law_bent P__law_bent (defScope s__law_bent) := ⟨rfl, rfl, rfl, by decide +kernel, rfl, by decide +kernel, by decide +kernel⟩
def d__law_bent : He.DefD := ⟨("_law_bent", none), "_law_bent", "_law_bent", defArgs s__law_bent, defBody s__law_bent, defScope s__law_bent, [], []⟩
abbrev N__law_are_forms : List Str := ["deck", "turn", "problem", "sizes", "go", "thing", "got", "bar", "choice", "size"]
abbrev P__law_are_forms : List Str := ["deck"]
theorem sc__law_are_forms : FnScope N__law_are_forms P__law_are_forms (defScope s__law_are_forms) := ⟨rfl, rfl, rfl, by decide +kernel, rfl, by decide +kernel, by decide +kernel⟩
def d__law_are_forms : He.DefD := ⟨("_law_are_forms", none), "_law_are_forms", "_law_are_forms", defArgs s__law_are_forms, defBody s__law_are_forms, defScope s__law_are_forms, [], []⟩
abbrev N_law : List Str := ["script", "deck"]
abbrev P_law : List Str := ["script"]
theorem sc_law : FnScope N_law P_law (defScope s_law) := ⟨rfl, rfl, rfl, by decide +kernel, rfl, by decide +kernel, by decide +kernel⟩
def d_law : He.DefD := ⟨("law", none), "law", "law", defArgs s_law, defBody s_law, defScope s_law, [], []⟩
def fn : List He.DefD := [d_is_integer, d_is_row, d_is_rising, d_meets, d__law_deck, d__law_draw, d__law_is_number, d__law_all, d__law_meets, d_is_between, d_is_right_value, d__law_pick, d__law_shuffled, d__law_is_bar, d__law_are_sizes, d__law_is_choice, d__law_rights, d_are_between, d_are_sizes, d_is_choice_value, d__law_sizes, d__law_term, d__law_is_problem, d__law_odd, d__law_great, d_is_term, d__law_drawn_bar, d_is_bar_value, d__law_problem, d_is_problem_value, d_need_bar, d_is_bar, d_need_problem, d_is_problem, d_is_choice_of, d_need_choice, d_does_meet, d_is_right_choice, d__law_same, d__law_are_meetings, d__law_bent, d__law_are_forms, d_law]
def fa : List He.Fa := [.glo "_law_deck", .glo "_law_are_forms", .glo "_law_are_meetings", .free "range", .glo "_law_problem", .glo "_law_shuffled", .glo "_law_all", .glo "_law_rights", .free "enumerate", .glo "_law_meets", .free "int", .glo "is_right_choice", .glo "_law_same", .glo "_law_pick", .glo "_law_drawn_bar", .glo "does_meet", .free "sorted", .glo "_law_term", .free "tuple", .glo "_law_draw", .free "len", .free "max", .free "list", .free "isinstance", .free "zip", .free "bool", .free "dict", .free "str", .glo "need_choice", .glo "need_bar", .glo "meets", .free "all", .glo "is_bar_value", .glo "is_term", .glo "is_rising", .glo "is_row", .glo "is_between", .glo "are_between", .glo "is_integer", .glo "need_problem", .glo "is_choice_value", .glo "is_problem_value", .glo "are_sizes", .glo "is_right_value", .free "any", .glo "_law_sizes", .glo "_law_bent", .glo "_law_great", .glo "is_problem", .glo "_law_is_problem", .glo "is_bar", .glo "_law_is_bar", .glo "is_choice_of", .glo "_law_is_choice", .glo "_law_is_number", .free "set", .glo "_law_are_sizes", .glo "_law_odd", .glo "law"]
def cs : List (Str × PyData) := []
structure Cc (K : PySem.W.Frag) (mg : Str → Option Value) : Prop where
  saysC : SaysC fa fn cs K
  at_ : ∃ h : Heap, K.In h ∧ h.Ns mainGlobals mg
theorem Cc.says {K : PySem.W.Frag} {mg : Str → Option Value} (C : Cc K mg) : He.SaysD fa fn K := C.saysC.d
section
variable {P : Program} {w : World} {K : PySem.W.Frag} {mg : Str → Option Value} {base : Heap}
theorem g__law_deck (C : Cc K mg) : mg "_law_deck" = some (.ref (He.ga K "_law_deck")) := let ⟨_, X, G⟩ := C.at_; He.glo_ok X G (C.says.fact 0 rfl)
theorem g__law_are_forms (C : Cc K mg) : mg "_law_are_forms" = some (.ref (He.ga K "_law_are_forms")) := let ⟨_, X, G⟩ := C.at_; He.glo_ok X G (C.says.fact 1 rfl)
theorem g__law_are_meetings (C : Cc K mg) : mg "_law_are_meetings" = some (.ref (He.ga K "_law_are_meetings")) := let ⟨_, X, G⟩ := C.at_; He.glo_ok X G (C.says.fact 2 rfl)
theorem g_range (C : Cc K mg) : mg "range" = none := let ⟨_, X, G⟩ := C.at_; He.free_ok X G (C.says.fact 3 rfl)
theorem g__law_problem (C : Cc K mg) : mg "_law_problem" = some (.ref (He.ga K "_law_problem")) := let ⟨_, X, G⟩ := C.at_; He.glo_ok X G (C.says.fact 4 rfl)
theorem g__law_shuffled (C : Cc K mg) : mg "_law_shuffled" = some (.ref (He.ga K "_law_shuffled")) := let ⟨_, X, G⟩ := C.at_; He.glo_ok X G (C.says.fact 5 rfl)
theorem g__law_all (C : Cc K mg) : mg "_law_all" = some (.ref (He.ga K "_law_all")) := let ⟨_, X, G⟩ := C.at_; He.glo_ok X G (C.says.fact 6 rfl)
theorem g__law_rights (C : Cc K mg) : mg "_law_rights" = some (.ref (He.ga K "_law_rights")) := let ⟨_, X, G⟩ := C.at_; He.glo_ok X G (C.says.fact 7 rfl)
theorem g_enumerate (C : Cc K mg) : mg "enumerate" = none := let ⟨_, X, G⟩ := C.at_; He.free_ok X G (C.says.fact 8 rfl)
theorem g__law_meets (C : Cc K mg) : mg "_law_meets" = some (.ref (He.ga K "_law_meets")) := let ⟨_, X, G⟩ := C.at_; He.glo_ok X G (C.says.fact 9 rfl)
theorem g_int (C : Cc K mg) : mg "int" = none := let ⟨_, X, G⟩ := C.at_; He.free_ok X G (C.says.fact 10 rfl)
theorem g_is_right_choice (C : Cc K mg) : mg "is_right_choice" = some (.ref (He.ga K "is_right_choice")) := let ⟨_, X, G⟩ := C.at_; He.glo_ok X G (C.says.fact 11 rfl)
theorem g__law_same (C : Cc K mg) : mg "_law_same" = some (.ref (He.ga K "_law_same")) := let ⟨_, X, G⟩ := C.at_; He.glo_ok X G (C.says.fact 12 rfl)
theorem g__law_pick (C : Cc K mg) : mg "_law_pick" = some (.ref (He.ga K "_law_pick")) := let ⟨_, X, G⟩ := C.at_; He.glo_ok X G (C.says.fact 13 rfl)
theorem g__law_drawn_bar (C : Cc K mg) : mg "_law_drawn_bar" = some (.ref (He.ga K "_law_drawn_bar")) := let ⟨_, X, G⟩ := C.at_; He.glo_ok X G (C.says.fact 14 rfl)
theorem g_does_meet (C : Cc K mg) : mg "does_meet" = some (.ref (He.ga K "does_meet")) := let ⟨_, X, G⟩ := C.at_; He.glo_ok X G (C.says.fact 15 rfl)
theorem g_sorted (C : Cc K mg) : mg "sorted" = none := let ⟨_, X, G⟩ := C.at_; He.free_ok X G (C.says.fact 16 rfl)
theorem g__law_term (C : Cc K mg) : mg "_law_term" = some (.ref (He.ga K "_law_term")) := let ⟨_, X, G⟩ := C.at_; He.glo_ok X G (C.says.fact 17 rfl)
theorem g_tuple (C : Cc K mg) : mg "tuple" = none := let ⟨_, X, G⟩ := C.at_; He.free_ok X G (C.says.fact 18 rfl)
theorem g__law_draw (C : Cc K mg) : mg "_law_draw" = some (.ref (He.ga K "_law_draw")) := let ⟨_, X, G⟩ := C.at_; He.glo_ok X G (C.says.fact 19 rfl)
theorem g_len (C : Cc K mg) : mg "len" = none := let ⟨_, X, G⟩ := C.at_; He.free_ok X G (C.says.fact 20 rfl)
theorem g_max (C : Cc K mg) : mg "max" = none := let ⟨_, X, G⟩ := C.at_; He.free_ok X G (C.says.fact 21 rfl)
theorem g_list (C : Cc K mg) : mg "list" = none := let ⟨_, X, G⟩ := C.at_; He.free_ok X G (C.says.fact 22 rfl)
theorem g_isinstance (C : Cc K mg) : mg "isinstance" = none := let ⟨_, X, G⟩ := C.at_; He.free_ok X G (C.says.fact 23 rfl)
theorem g_zip (C : Cc K mg) : mg "zip" = none := let ⟨_, X, G⟩ := C.at_; He.free_ok X G (C.says.fact 24 rfl)
theorem g_bool (C : Cc K mg) : mg "bool" = none := let ⟨_, X, G⟩ := C.at_; He.free_ok X G (C.says.fact 25 rfl)
theorem g_dict (C : Cc K mg) : mg "dict" = none := let ⟨_, X, G⟩ := C.at_; He.free_ok X G (C.says.fact 26 rfl)
theorem g_str (C : Cc K mg) : mg "str" = none := let ⟨_, X, G⟩ := C.at_; He.free_ok X G (C.says.fact 27 rfl)
theorem g_need_choice (C : Cc K mg) : mg "need_choice" = some (.ref (He.ga K "need_choice")) := let ⟨_, X, G⟩ := C.at_; He.glo_ok X G (C.says.fact 28 rfl)
theorem g_need_bar (C : Cc K mg) : mg "need_bar" = some (.ref (He.ga K "need_bar")) := let ⟨_, X, G⟩ := C.at_; He.glo_ok X G (C.says.fact 29 rfl)
theorem g_meets (C : Cc K mg) : mg "meets" = some (.ref (He.ga K "meets")) := let ⟨_, X, G⟩ := C.at_; He.glo_ok X G (C.says.fact 30 rfl)
theorem g_all (C : Cc K mg) : mg "all" = none := let ⟨_, X, G⟩ := C.at_; He.free_ok X G (C.says.fact 31 rfl)
theorem g_is_bar_value (C : Cc K mg) : mg "is_bar_value" = some (.ref (He.ga K "is_bar_value")) := let ⟨_, X, G⟩ := C.at_; He.glo_ok X G (C.says.fact 32 rfl)
theorem g_is_term (C : Cc K mg) : mg "is_term" = some (.ref (He.ga K "is_term")) := let ⟨_, X, G⟩ := C.at_; He.glo_ok X G (C.says.fact 33 rfl)
theorem g_is_rising (C : Cc K mg) : mg "is_rising" = some (.ref (He.ga K "is_rising")) := let ⟨_, X, G⟩ := C.at_; He.glo_ok X G (C.says.fact 34 rfl)
theorem g_is_row (C : Cc K mg) : mg "is_row" = some (.ref (He.ga K "is_row")) := let ⟨_, X, G⟩ := C.at_; He.glo_ok X G (C.says.fact 35 rfl)
theorem g_is_between (C : Cc K mg) : mg "is_between" = some (.ref (He.ga K "is_between")) := let ⟨_, X, G⟩ := C.at_; He.glo_ok X G (C.says.fact 36 rfl)
theorem g_are_between (C : Cc K mg) : mg "are_between" = some (.ref (He.ga K "are_between")) := let ⟨_, X, G⟩ := C.at_; He.glo_ok X G (C.says.fact 37 rfl)
theorem g_is_integer (C : Cc K mg) : mg "is_integer" = some (.ref (He.ga K "is_integer")) := let ⟨_, X, G⟩ := C.at_; He.glo_ok X G (C.says.fact 38 rfl)
theorem g_need_problem (C : Cc K mg) : mg "need_problem" = some (.ref (He.ga K "need_problem")) := let ⟨_, X, G⟩ := C.at_; He.glo_ok X G (C.says.fact 39 rfl)
theorem g_is_choice_value (C : Cc K mg) : mg "is_choice_value" = some (.ref (He.ga K "is_choice_value")) := let ⟨_, X, G⟩ := C.at_; He.glo_ok X G (C.says.fact 40 rfl)
theorem g_is_problem_value (C : Cc K mg) : mg "is_problem_value" = some (.ref (He.ga K "is_problem_value")) := let ⟨_, X, G⟩ := C.at_; He.glo_ok X G (C.says.fact 41 rfl)
theorem g_are_sizes (C : Cc K mg) : mg "are_sizes" = some (.ref (He.ga K "are_sizes")) := let ⟨_, X, G⟩ := C.at_; He.glo_ok X G (C.says.fact 42 rfl)
theorem g_is_right_value (C : Cc K mg) : mg "is_right_value" = some (.ref (He.ga K "is_right_value")) := let ⟨_, X, G⟩ := C.at_; He.glo_ok X G (C.says.fact 43 rfl)
theorem g_any (C : Cc K mg) : mg "any" = none := let ⟨_, X, G⟩ := C.at_; He.free_ok X G (C.says.fact 44 rfl)
theorem g__law_sizes (C : Cc K mg) : mg "_law_sizes" = some (.ref (He.ga K "_law_sizes")) := let ⟨_, X, G⟩ := C.at_; He.glo_ok X G (C.says.fact 45 rfl)
theorem g__law_bent (C : Cc K mg) : mg "_law_bent" = some (.ref (He.ga K "_law_bent")) := let ⟨_, X, G⟩ := C.at_; He.glo_ok X G (C.says.fact 46 rfl)
theorem g__law_great (C : Cc K mg) : mg "_law_great" = some (.ref (He.ga K "_law_great")) := let ⟨_, X, G⟩ := C.at_; He.glo_ok X G (C.says.fact 47 rfl)
theorem g_is_problem (C : Cc K mg) : mg "is_problem" = some (.ref (He.ga K "is_problem")) := let ⟨_, X, G⟩ := C.at_; He.glo_ok X G (C.says.fact 48 rfl)
theorem g__law_is_problem (C : Cc K mg) : mg "_law_is_problem" = some (.ref (He.ga K "_law_is_problem")) := let ⟨_, X, G⟩ := C.at_; He.glo_ok X G (C.says.fact 49 rfl)
theorem g_is_bar (C : Cc K mg) : mg "is_bar" = some (.ref (He.ga K "is_bar")) := let ⟨_, X, G⟩ := C.at_; He.glo_ok X G (C.says.fact 50 rfl)
theorem g__law_is_bar (C : Cc K mg) : mg "_law_is_bar" = some (.ref (He.ga K "_law_is_bar")) := let ⟨_, X, G⟩ := C.at_; He.glo_ok X G (C.says.fact 51 rfl)
theorem g_is_choice_of (C : Cc K mg) : mg "is_choice_of" = some (.ref (He.ga K "is_choice_of")) := let ⟨_, X, G⟩ := C.at_; He.glo_ok X G (C.says.fact 52 rfl)
theorem g__law_is_choice (C : Cc K mg) : mg "_law_is_choice" = some (.ref (He.ga K "_law_is_choice")) := let ⟨_, X, G⟩ := C.at_; He.glo_ok X G (C.says.fact 53 rfl)
theorem g__law_is_number (C : Cc K mg) : mg "_law_is_number" = some (.ref (He.ga K "_law_is_number")) := let ⟨_, X, G⟩ := C.at_; He.glo_ok X G (C.says.fact 54 rfl)
theorem g_set (C : Cc K mg) : mg "set" = none := let ⟨_, X, G⟩ := C.at_; He.free_ok X G (C.says.fact 55 rfl)
theorem g__law_are_sizes (C : Cc K mg) : mg "_law_are_sizes" = some (.ref (He.ga K "_law_are_sizes")) := let ⟨_, X, G⟩ := C.at_; He.glo_ok X G (C.says.fact 56 rfl)
theorem g__law_odd (C : Cc K mg) : mg "_law_odd" = some (.ref (He.ga K "_law_odd")) := let ⟨_, X, G⟩ := C.at_; He.glo_ok X G (C.says.fact 57 rfl)
theorem g_law (C : Cc K mg) : mg "law" = some (.ref (He.ga K "law")) := let ⟨_, X, G⟩ := C.at_; He.glo_ok X G (C.says.fact 58 rfl)
theorem bg__law_all_1 {f : Addr} {fd : FuncData} (F : FnP K "_law_all" s__law_all f fd) : BindG K fd P__law_all 1 [] [] [0] := FunD.bindG0 F fun _ _ _ _ _ _ us ws h1 h2 => match us, ws, h1, h2 with | [_], [], _, _ => rfl
theorem bg__law_are_forms_1 {f : Addr} {fd : FuncData} (F : FnP K "_law_are_forms" s__law_are_forms f fd) : BindG K fd P__law_are_forms 1 [] [] [0] := FunD.bindG0 F fun _ _ _ _ _ _ us ws h1 h2 => match us, ws, h1, h2 with | [_], [], _, _ => rfl
theorem bg__law_are_meetings_1 {f : Addr} {fd : FuncData} (F : FnP K "_law_are_meetings" s__law_are_meetings f fd) : BindG K fd P__law_are_meetings 1 [] [] [0] := FunD.bindG0 F fun _ _ _ _ _ _ us ws h1 h2 => match us, ws, h1, h2 with | [_], [], _, _ => rfl
theorem bg__law_are_sizes_1 {f : Addr} {fd : FuncData} (F : FnP K "_law_are_sizes" s__law_are_sizes f fd) : BindG K fd P__law_are_sizes 1 [] [] [0] := FunD.bindG0 F fun _ _ _ _ _ _ us ws h1 h2 => match us, ws, h1, h2 with | [_], [], _, _ => rfl
theorem bg__law_bent_2 {f : Addr} {fd : FuncData} (F : FnP K "_law_bent" s__law_bent f fd) : BindG K fd P__law_bent 2 [] [] [0, 1] := FunD.bindG0 F fun _ _ _ _ _ _ us ws h1 h2 => match us, ws, h1, h2 with | [_, _], [], _, _ => rfl
theorem bg__law_deck_1 {f : Addr} {fd : FuncData} (F : FnP K "_law_deck" s__law_deck f fd) : BindG K fd P__law_deck 1 [] [] [0] := FunD.bindG0 F fun _ _ _ _ _ _ us ws h1 h2 => match us, ws, h1, h2 with | [_], [], _, _ => rfl
theorem bg__law_draw_2 {f : Addr} {fd : FuncData} (F : FnP K "_law_draw" s__law_draw f fd) : BindG K fd P__law_draw 2 [] [] [0, 1] := FunD.bindG0 F fun _ _ _ _ _ _ us ws h1 h2 => match us, ws, h1, h2 with | [_, _], [], _, _ => rfl
theorem bg__law_drawn_bar_3 {f : Addr} {fd : FuncData} (F : FnP K "_law_drawn_bar" s__law_drawn_bar f fd) : BindG K fd P__law_drawn_bar 3 [] [] [0, 1, 2] := FunD.bindG0 F fun _ _ _ _ _ _ us ws h1 h2 => match us, ws, h1, h2 with | [_, _, _], [], _, _ => rfl
theorem bg__law_great_2 {f : Addr} {fd : FuncData} (F : FnP K "_law_great" s__law_great f fd) : BindG K fd P__law_great 2 [] [] [0, 1] := FunD.bindG0 F fun _ _ _ _ _ _ us ws h1 h2 => match us, ws, h1, h2 with | [_, _], [], _, _ => rfl
theorem bg__law_is_bar_2 {f : Addr} {fd : FuncData} (F : FnP K "_law_is_bar" s__law_is_bar f fd) : BindG K fd P__law_is_bar 2 [] [] [0, 1] := FunD.bindG0 F fun _ _ _ _ _ _ us ws h1 h2 => match us, ws, h1, h2 with | [_, _], [], _, _ => rfl
theorem bg__law_is_choice_2 {f : Addr} {fd : FuncData} (F : FnP K "_law_is_choice" s__law_is_choice f fd) : BindG K fd P__law_is_choice 2 [] [] [0, 1] := FunD.bindG0 F fun _ _ _ _ _ _ us ws h1 h2 => match us, ws, h1, h2 with | [_, _], [], _, _ => rfl
theorem bg__law_is_number_1 {f : Addr} {fd : FuncData} (F : FnP K "_law_is_number" s__law_is_number f fd) : BindG K fd P__law_is_number 1 [] [] [0] := FunD.bindG0 F fun _ _ _ _ _ _ us ws h1 h2 => match us, ws, h1, h2 with | [_], [], _, _ => rfl
theorem bg__law_is_problem_1 {f : Addr} {fd : FuncData} (F : FnP K "_law_is_problem" s__law_is_problem f fd) : BindG K fd P__law_is_problem 1 [] [] [0] := FunD.bindG0 F fun _ _ _ _ _ _ us ws h1 h2 => match us, ws, h1, h2 with | [_], [], _, _ => rfl
theorem bg__law_meets_2 {f : Addr} {fd : FuncData} (F : FnP K "_law_meets" s__law_meets f fd) : BindG K fd P__law_meets 2 [] [] [0, 1] := FunD.bindG0 F fun _ _ _ _ _ _ us ws h1 h2 => match us, ws, h1, h2 with | [_, _], [], _, _ => rfl
theorem bg__law_odd_2 {f : Addr} {fd : FuncData} (F : FnP K "_law_odd" s__law_odd f fd) : BindG K fd P__law_odd 2 [] [] [0, 1] := FunD.bindG0 F fun _ _ _ _ _ _ us ws h1 h2 => match us, ws, h1, h2 with | [_, _], [], _, _ => rfl
theorem bg__law_pick_2 {f : Addr} {fd : FuncData} (F : FnP K "_law_pick" s__law_pick f fd) : BindG K fd P__law_pick 2 [] [] [0, 1] := FunD.bindG0 F fun _ _ _ _ _ _ us ws h1 h2 => match us, ws, h1, h2 with | [_, _], [], _, _ => rfl
theorem bg__law_problem_3 {f : Addr} {fd : FuncData} (F : FnP K "_law_problem" s__law_problem f fd) : BindG K fd P__law_problem 3 [] [] [0, 1, 2] := FunD.bindG0 F fun _ _ _ _ _ _ us ws h1 h2 => match us, ws, h1, h2 with | [_, _, _], [], _, _ => rfl
theorem bg__law_rights_1 {f : Addr} {fd : FuncData} (F : FnP K "_law_rights" s__law_rights f fd) : BindG K fd P__law_rights 1 [] [] [0] := FunD.bindG0 F fun _ _ _ _ _ _ us ws h1 h2 => match us, ws, h1, h2 with | [_], [], _, _ => rfl
theorem bg__law_same_2 {f : Addr} {fd : FuncData} (F : FnP K "_law_same" s__law_same f fd) : BindG K fd P__law_same 2 [] [] [0, 1] := FunD.bindG0 F fun _ _ _ _ _ _ us ws h1 h2 => match us, ws, h1, h2 with | [_, _], [], _, _ => rfl
theorem bg__law_shuffled_2 {f : Addr} {fd : FuncData} (F : FnP K "_law_shuffled" s__law_shuffled f fd) : BindG K fd P__law_shuffled 2 [] [] [0, 1] := FunD.bindG0 F fun _ _ _ _ _ _ us ws h1 h2 => match us, ws, h1, h2 with | [_, _], [], _, _ => rfl
theorem bg__law_sizes_3 {f : Addr} {fd : FuncData} (F : FnP K "_law_sizes" s__law_sizes f fd) : BindG K fd P__law_sizes 3 [] [] [0, 1, 2] := FunD.bindG0 F fun _ _ _ _ _ _ us ws h1 h2 => match us, ws, h1, h2 with | [_, _, _], [], _, _ => rfl
theorem bg__law_term_3 {f : Addr} {fd : FuncData} (F : FnP K "_law_term" s__law_term f fd) : BindG K fd P__law_term 3 [] [] [0, 1, 2] := FunD.bindG0 F fun _ _ _ _ _ _ us ws h1 h2 => match us, ws, h1, h2 with | [_, _, _], [], _, _ => rfl
theorem bg_are_between_3 {f : Addr} {fd : FuncData} (F : FnP K "are_between" s_are_between f fd) : BindG K fd P_are_between 3 [] [] [0, 1, 2] := FunD.bindG0 F fun _ _ _ _ _ _ us ws h1 h2 => match us, ws, h1, h2 with | [_, _, _], [], _, _ => rfl
theorem bg_are_sizes_1 {f : Addr} {fd : FuncData} (F : FnP K "are_sizes" s_are_sizes f fd) : BindG K fd P_are_sizes 1 [] [] [0] := FunD.bindG0 F fun _ _ _ _ _ _ us ws h1 h2 => match us, ws, h1, h2 with | [_], [], _, _ => rfl
theorem bg_does_meet_0_bar_choice_problem {f : Addr} {fd : FuncData} (F : FnP K "does_meet" s_does_meet f fd) : BindG K fd P_does_meet 0 ["bar", "choice", "problem"] [] [2, 1, 0] := FunD.bindG0 F fun _ _ _ _ _ _ us ws h1 h2 => match us, ws, h1, h2 with | [], [_, _, _], _, _ => rfl
theorem bg_does_meet_3 {f : Addr} {fd : FuncData} (F : FnP K "does_meet" s_does_meet f fd) : BindG K fd P_does_meet 3 [] [] [0, 1, 2] := FunD.bindG0 F fun _ _ _ _ _ _ us ws h1 h2 => match us, ws, h1, h2 with | [_, _, _], [], _, _ => rfl
theorem bg_is_bar_0_thing_sizes {f : Addr} {fd : FuncData} (F : FnP K "is_bar" s_is_bar f fd) : BindG K fd P_is_bar 0 ["thing", "sizes"] [] [1, 0] := FunD.bindG0 F fun _ _ _ _ _ _ us ws h1 h2 => match us, ws, h1, h2 with | [], [_, _], _, _ => rfl
theorem bg_is_bar_2 {f : Addr} {fd : FuncData} (F : FnP K "is_bar" s_is_bar f fd) : BindG K fd P_is_bar 2 [] [] [0, 1] := FunD.bindG0 F fun _ _ _ _ _ _ us ws h1 h2 => match us, ws, h1, h2 with | [_, _], [], _, _ => rfl
theorem bg_is_bar_value_2 {f : Addr} {fd : FuncData} (F : FnP K "is_bar_value" s_is_bar_value f fd) : BindG K fd P_is_bar_value 2 [] [] [0, 1] := FunD.bindG0 F fun _ _ _ _ _ _ us ws h1 h2 => match us, ws, h1, h2 with | [_, _], [], _, _ => rfl
theorem bg_is_between_3 {f : Addr} {fd : FuncData} (F : FnP K "is_between" s_is_between f fd) : BindG K fd P_is_between 3 [] [] [0, 1, 2] := FunD.bindG0 F fun _ _ _ _ _ _ us ws h1 h2 => match us, ws, h1, h2 with | [_, _, _], [], _, _ => rfl
theorem bg_is_choice_of_0_thing_problem {f : Addr} {fd : FuncData} (F : FnP K "is_choice_of" s_is_choice_of f fd) : BindG K fd P_is_choice_of 0 ["thing", "problem"] [] [1, 0] := FunD.bindG0 F fun _ _ _ _ _ _ us ws h1 h2 => match us, ws, h1, h2 with | [], [_, _], _, _ => rfl
theorem bg_is_choice_of_2 {f : Addr} {fd : FuncData} (F : FnP K "is_choice_of" s_is_choice_of f fd) : BindG K fd P_is_choice_of 2 [] [] [0, 1] := FunD.bindG0 F fun _ _ _ _ _ _ us ws h1 h2 => match us, ws, h1, h2 with | [_, _], [], _, _ => rfl
theorem bg_is_choice_value_2 {f : Addr} {fd : FuncData} (F : FnP K "is_choice_value" s_is_choice_value f fd) : BindG K fd P_is_choice_value 2 [] [] [0, 1] := FunD.bindG0 F fun _ _ _ _ _ _ us ws h1 h2 => match us, ws, h1, h2 with | [_, _], [], _, _ => rfl
theorem bg_is_integer_1 {f : Addr} {fd : FuncData} (F : FnP K "is_integer" s_is_integer f fd) : BindG K fd P_is_integer 1 [] [] [0] := FunD.bindG0 F fun _ _ _ _ _ _ us ws h1 h2 => match us, ws, h1, h2 with | [_], [], _, _ => rfl
theorem bg_is_problem_0_thing {f : Addr} {fd : FuncData} (F : FnP K "is_problem" s_is_problem f fd) : BindG K fd P_is_problem 0 ["thing"] [] [0] := FunD.bindG0 F fun _ _ _ _ _ _ us ws h1 h2 => match us, ws, h1, h2 with | [], [_], _, _ => rfl
theorem bg_is_problem_1 {f : Addr} {fd : FuncData} (F : FnP K "is_problem" s_is_problem f fd) : BindG K fd P_is_problem 1 [] [] [0] := FunD.bindG0 F fun _ _ _ _ _ _ us ws h1 h2 => match us, ws, h1, h2 with | [_], [], _, _ => rfl
theorem bg_is_problem_value_1 {f : Addr} {fd : FuncData} (F : FnP K "is_problem_value" s_is_problem_value f fd) : BindG K fd P_is_problem_value 1 [] [] [0] := FunD.bindG0 F fun _ _ _ _ _ _ us ws h1 h2 => match us, ws, h1, h2 with | [_], [], _, _ => rfl
theorem bg_is_right_choice_0_choice_problem {f : Addr} {fd : FuncData} (F : FnP K "is_right_choice" s_is_right_choice f fd) : BindG K fd P_is_right_choice 0 ["choice", "problem"] [] [1, 0] := FunD.bindG0 F fun _ _ _ _ _ _ us ws h1 h2 => match us, ws, h1, h2 with | [], [_, _], _, _ => rfl
theorem bg_is_right_choice_2 {f : Addr} {fd : FuncData} (F : FnP K "is_right_choice" s_is_right_choice f fd) : BindG K fd P_is_right_choice 2 [] [] [0, 1] := FunD.bindG0 F fun _ _ _ _ _ _ us ws h1 h2 => match us, ws, h1, h2 with | [_, _], [], _, _ => rfl
theorem bg_is_right_value_2 {f : Addr} {fd : FuncData} (F : FnP K "is_right_value" s_is_right_value f fd) : BindG K fd P_is_right_value 2 [] [] [0, 1] := FunD.bindG0 F fun _ _ _ _ _ _ us ws h1 h2 => match us, ws, h1, h2 with | [_, _], [], _, _ => rfl
theorem bg_is_rising_1 {f : Addr} {fd : FuncData} (F : FnP K "is_rising" s_is_rising f fd) : BindG K fd P_is_rising 1 [] [] [0] := FunD.bindG0 F fun _ _ _ _ _ _ us ws h1 h2 => match us, ws, h1, h2 with | [_], [], _, _ => rfl
theorem bg_is_row_2 {f : Addr} {fd : FuncData} (F : FnP K "is_row" s_is_row f fd) : BindG K fd P_is_row 2 [] [] [0, 1] := FunD.bindG0 F fun _ _ _ _ _ _ us ws h1 h2 => match us, ws, h1, h2 with | [_, _], [], _, _ => rfl
theorem bg_is_term_2 {f : Addr} {fd : FuncData} (F : FnP K "is_term" s_is_term f fd) : BindG K fd P_is_term 2 [] [] [0, 1] := FunD.bindG0 F fun _ _ _ _ _ _ us ws h1 h2 => match us, ws, h1, h2 with | [_, _], [], _, _ => rfl
theorem bg_meets_2 {f : Addr} {fd : FuncData} (F : FnP K "meets" s_meets f fd) : BindG K fd P_meets 2 [] [] [0, 1] := FunD.bindG0 F fun _ _ _ _ _ _ us ws h1 h2 => match us, ws, h1, h2 with | [_, _], [], _, _ => rfl
theorem bg_need_bar_2 {f : Addr} {fd : FuncData} (F : FnP K "need_bar" s_need_bar f fd) : BindG K fd P_need_bar 2 [] [] [0, 1] := FunD.bindG0 F fun _ _ _ _ _ _ us ws h1 h2 => match us, ws, h1, h2 with | [_, _], [], _, _ => rfl
theorem bg_need_choice_2 {f : Addr} {fd : FuncData} (F : FnP K "need_choice" s_need_choice f fd) : BindG K fd P_need_choice 2 [] [] [0, 1] := FunD.bindG0 F fun _ _ _ _ _ _ us ws h1 h2 => match us, ws, h1, h2 with | [_, _], [], _, _ => rfl
theorem bg_need_problem_1 {f : Addr} {fd : FuncData} (F : FnP K "need_problem" s_need_problem f fd) : BindG K fd P_need_problem 1 [] [] [0] := FunD.bindG0 F fun _ _ _ _ _ _ us ws h1 h2 => match us, ws, h1, h2 with | [_], [], _, _ => rfl
def mb_is_integer : MS := (mRet (mVal (mAnd (mIsi "int" (mVar 0)) (mNot (mIsi "bool" (mVar 0))))))
def mf_is_integer : MF := mFn 1 mb_is_integer
theorem ok_is_integer (C : Cc K mg) : ∃ fd, FnP K "is_integer" s_is_integer (He.ga K "is_integer") fd ∧ FnG P w K mg base 1 (He.ga K "is_integer") fd P_is_integer mf_is_integer := by
  obtain ⟨fd, F⟩ := C.says.def_ 0 (d := d_is_integer) rfl
  exact ⟨fd, F, fnG_of F sc_is_integer fun cdv A outer s H hr hg => (b_one (s_ret (j_val (j_and (j_isi (j_var 0) (g_isinstance C) (g_int C)) (j_one (j_not (j_isi (j_var 0) (g_isinstance C) (g_bool C))))))))⟩
def mb_is_row : MS := (mRet (mVal (mAnd (mIsi "tuple" (mVar 0)) (mBin gEq (mFz (mCB gLen (mCons (mVar 0) mNil))) (mVar 1)))))
def mf_is_row : MF := mFn 2 mb_is_row
theorem ok_is_row (C : Cc K mg) : ∃ fd, FnP K "is_row" s_is_row (He.ga K "is_row") fd ∧ FnG P w K mg base 1 (He.ga K "is_row") fd P_is_row mf_is_row := by
  obtain ⟨fd, F⟩ := C.says.def_ 1 (d := d_is_row) rfl
  exact ⟨fd, F, fnG_of F sc_is_row fun cdv A outer s H hr hg => (b_one (s_ret (j_val (j_and (j_isi (j_var 0) (g_isinstance C) (g_tuple C)) (j_one (j_cmp o_eq (j_fz (j_callB c_len (g_len C) (a_cons (j_var 0) a_nil))) (j_var 1)))))))⟩
def lc_is_rising_1 : MO := (mLc (mZip (mCons (mVar 0) (mCons (mFz (mSl (mVar 0) (mP1 (mC (.int 1))) mP0)) mNil))) (mTupG 2 (mN1 (mN 1) (mN1 (mN 2) mN0))) mYes (mBin gLt (mVar 1) (mVar 2)) [1, 2])
def mb_is_rising : MS := (mRet (mCB gAll (mCons (mFz lc_is_rising_1) mNil)))
def mf_is_rising : MF := mFn 3 mb_is_rising
theorem ok_is_rising (C : Cc K mg) : ∃ fd, FnP K "is_rising" s_is_rising (He.ga K "is_rising") fd ∧ FnG P w K mg base 1 (He.ga K "is_rising") fd P_is_rising mf_is_rising := by
  obtain ⟨fd, F⟩ := C.says.def_ 2 (d := d_is_rising) rfl
  exact ⟨fd, F, fnG_of F sc_is_rising fun cdv A outer s H hr hg => (b_one (s_ret (j_callB c_all (g_all C) (a_cons (j_fz (j_lc [("one", 1), ("other", 2)] (i_zip (a_cons (j_var 0) (a_cons (j_fz (j_sl (j_var 0) (p_some j_int) p_none)) a_nil)) (g_zip C)) (g_tup (gs_cons (g_name 1 (hN := by exact fun _ => sc_is_rising.nd)) (gs_cons (g_name 2 (hN := by exact fun _ => sc_is_rising.nd)) gs_nil))) ts_nil (j_cmp o_lt (j_var 1) (j_var 2)) (fun _ => blkOk_by (N := N_is_rising) (sc := defScope s_is_rising) (by decide +kernel)) (hN := by exact fun _ => sc_is_rising.nd))) a_nil))))⟩
def lc_meets_1 : MO := (mLc (mIt (mVar 1)) (mTupG 2 (mN1 (mN 2) (mN1 (mN 3) mN0))) mYes (mBin gIn (mBin gIx (mVar 0) (mVar 2)) (mVar 3)) [2, 3])
def mb_meets : MS := (mRet (mCB gAll (mCons (mFz lc_meets_1) mNil)))
def mf_meets : MF := mFn 4 mb_meets
theorem ok_meets (C : Cc K mg) : ∃ fd, FnP K "meets" s_meets (He.ga K "meets") fd ∧ FnG P w K mg base 1 (He.ga K "meets") fd P_meets mf_meets := by
  obtain ⟨fd, F⟩ := C.says.def_ 3 (d := d_meets) rfl
  exact ⟨fd, F, fnG_of F sc_meets fun cdv A outer s H hr hg => (b_one (s_ret (j_callB c_all (g_all C) (a_cons (j_fz (j_lc [("i", 2), ("states", 3)] (i_any (j_var 1)) (g_tup (gs_cons (g_name 2 (hN := by exact fun _ => sc_meets.nd)) (gs_cons (g_name 3 (hN := by exact fun _ => sc_meets.nd)) gs_nil))) ts_nil (j_cmp o_in (j_ix (j_var 0) (j_var 2)) (j_var 3)) (fun _ => blkOk_by (N := N_meets) (sc := defScope s_meets) (by decide +kernel)) (hN := by exact fun _ => sc_meets.nd))) a_nil))))⟩
def mb__law_deck_1 : MS := (mFor (mIt (mFz (mScrSl 0 mP0 (mP1 (mC (.int 63)))))) (mN 2) (mAsg (mBin gMod (mFz (mCB gInt (mCons (mBin gAdd (mBin gAdd (mBin gMul (mVar 1) (mC (.int 48271))) (mBin gMod (mFz (mCB gInt (mCons (mVar 2) mNil))) (mC (.int 2305843009213693921)))) (mC (.int 23))) mNil))) (mC (.int 2305843009213693951))) (mN 1)))
def lc__law_deck_2 : MO := (mLc (mIt (mFz (mScrSl 0 mP0 (mP1 (mC (.int 63)))))) (mN 2) mYes (mFz (mCB gInt (mCons (mVar 2) mNil))) [2])
def mb__law_deck : MS := (mSeq (mAsg (mC (.int 16395036)) (mN 1)) (mSeq mb__law_deck_1 (mRet (mDkNew 1 (mRev2 (mFz lc__law_deck_2)) (mVar 1) (mC (.int 0))))))
def mf__law_deck : MF := mFn 3 mb__law_deck
theorem ok__law_deck (C : Cc K mg) : ∃ fd, FnP K "_law_deck" s__law_deck (He.ga K "_law_deck") fd ∧ FnG P w K mg base 1 (He.ga K "_law_deck") fd P__law_deck mf__law_deck := by
  obtain ⟨fd, F⟩ := C.says.def_ 4 (d := d__law_deck) rfl
  exact ⟨fd, F, fnG_of F sc__law_deck fun cdv A outer s H hr hg => (b_cons (s_asg j_int (g_name 1 (hN := by exact fun _ => sc__law_deck.nd))) (b_cons (s_for (i_any (j_fz (j_scrSl 0 p_none (p_some j_int)))) (g_name 2 (hN := by exact fun _ => sc__law_deck.nd)) (b_one (s_asg (j_bin o_mod (j_fz (j_callT c_int (g_int C) (a_cons (j_bin o_add (j_bin o_add (j_bin o_mul (j_var 1) j_int) (j_bin o_mod (j_fz (j_callT c_int (g_int C) (a_cons (j_var 2) a_nil))) j_int)) j_int) a_nil))) j_int) (g_name 1 (hN := by exact fun _ => sc__law_deck.nd))))) (b_one (s_ret (j_dkNew 1 (j_rev2 (j_fz (j_lc [("cell", 2)] (i_any (j_fz (j_scrSl 0 p_none (p_some j_int)))) (g_name 2 (hN := by exact fun _ => sc__law_deck.nd)) ts_nil (j_fz (j_callT c_int (g_int C) (a_cons (j_var 2) a_nil))) (fun _ => blkOk_by (N := N__law_deck) (sc := defScope s__law_deck) (by decide +kernel)) (hN := by exact fun _ => sc__law_deck.nd)))) (j_var 1) j_int)))))⟩
def mb__law_draw_1 : MS := (mIf (mTest (mBin gGe (mVar 3) (mBin gPow (mC (.int 10)) (mC (.int 18))))) (mSeq (mDrop (mDkApp 1 0 (mBin gDiv (mVar 3) (mFz (mCB gMax2 (mCons (mC (.int 2)) (mCons (mVar 1) mNil))))))) (mRet (mVal (mBin gMod (mFz (mCB gInt (mCons (mVar 3) mNil))) (mVar 1))))) mNx)
def mb__law_draw_2 : MS := (mIf (mDkL 1 0) (mSeq (mAsg (mDkPop 1 0) (mN 3)) (mSeq mb__law_draw_1 (mAsg (mBin gAdd (mVar 2) (mBin gMod (mFz (mCB gInt (mCons (mVar 3) mNil))) (mC (.int 2305843009213693921)))) (mN 2)))) mNx)
def mb__law_draw : MS := (mSeq (mDkSetT 1 0 (mBin gAdd (mDkT 1 0) (mC (.int 1)))) (mSeq (mAsg (mBin gAdd (mDkM 1 0) (mBin gMul (mC (.int 1099511627791)) (mDkT 1 0))) (mN 2)) (mSeq mb__law_draw_2 (mSeq (mAsg (mBin gMod (mFz (mCB gInt (mCons (mBin gAdd (mBin gMul (mVar 2) (mC (.int 6364136223846793005))) (mC (.int 1442695040888963407))) mNil))) (mC (.int 2305843009213693951))) (mN 2)) (mSeq (mAsg (mBin gMod (mFz (mCB gInt (mCons (mBin gAdd (mBin gAdd (mBin gMul (mVar 2) (mVar 2)) (mBin gMul (mC (.int 2862933555777941757)) (mDkT 1 0))) (mC (.int 17))) mNil))) (mC (.int 2305843009213693951))) (mN 2)) (mRet (mVal (mBin gMod (mFz (mCB gInt (mCons (mBin gDiv (mVar 2) (mC (.int 4096))) mNil))) (mVar 1)))))))))
def mf__law_draw : MF := mFn 4 mb__law_draw
theorem ok__law_draw (C : Cc K mg) : ∃ fd, FnP K "_law_draw" s__law_draw (He.ga K "_law_draw") fd ∧ FnG P w K mg base 1 (He.ga K "_law_draw") fd P__law_draw mf__law_draw := by
  obtain ⟨fd, F⟩ := C.says.def_ 5 (d := d__law_draw) rfl
  exact ⟨fd, F, fnG_of F sc__law_draw fun cdv A outer s H hr hg => (b_cons (s_dkSetT 1 0 (j_bin o_add (j_dkT 1 0) j_int)) (b_cons (s_asg (j_bin o_add (j_dkM 1 0) (j_bin o_mul j_int (j_dkT 1 0))) (g_name 2 (hN := by exact fun _ => sc__law_draw.nd))) (b_cons (s_if (t_dkL 1 0) (b_cons (s_asg (j_dkPop 1 0) (g_name 3 (hN := by exact fun _ => sc__law_draw.nd))) (b_cons (s_if (t_cmp o_ge (j_var 3) (j_bin o_pow j_int j_int)) (b_cons (s_expr (j_dkApp 1 0 (j_bin o_div (j_var 3) (j_fz (j_callB c_max2 (g_max C) (a_cons j_int (a_cons (j_var 1) a_nil))))))) (b_one (s_ret (j_val (j_bin o_mod (j_fz (j_callT c_int (g_int C) (a_cons (j_var 3) a_nil))) (j_var 1)))))) b_nil) (b_one (s_asg (j_bin o_add (j_var 2) (j_bin o_mod (j_fz (j_callT c_int (g_int C) (a_cons (j_var 3) a_nil))) j_int)) (g_name 2 (hN := by exact fun _ => sc__law_draw.nd)))))) b_nil) (b_cons (s_asg (j_bin o_mod (j_fz (j_callT c_int (g_int C) (a_cons (j_bin o_add (j_bin o_mul (j_var 2) j_int) j_int) a_nil))) j_int) (g_name 2 (hN := by exact fun _ => sc__law_draw.nd))) (b_cons (s_asg (j_bin o_mod (j_fz (j_callT c_int (g_int C) (a_cons (j_bin o_add (j_bin o_add (j_bin o_mul (j_var 2) (j_var 2)) (j_bin o_mul j_int (j_dkT 1 0))) j_int) a_nil))) j_int) (g_name 2 (hN := by exact fun _ => sc__law_draw.nd))) (b_one (s_ret (j_val (j_bin o_mod (j_fz (j_callT c_int (g_int C) (a_cons (j_bin o_div (j_var 2) j_int) a_nil))) (j_var 1))))))))))⟩
def mb__law_is_number : MS := (mRet (mVal (mAnd (mIsi "int" (mVar 0)) (mAnd (mNot (mIsi "bool" (mVar 0))) (mBin gGe (mVar 0) (mC (.int 0)))))))
def mf__law_is_number : MF := mFn 1 mb__law_is_number
theorem ok__law_is_number (C : Cc K mg) : ∃ fd, FnP K "_law_is_number" s__law_is_number (He.ga K "_law_is_number") fd ∧ FnG P w K mg base 1 (He.ga K "_law_is_number") fd P__law_is_number mf__law_is_number := by
  obtain ⟨fd, F⟩ := C.says.def_ 6 (d := d__law_is_number) rfl
  exact ⟨fd, F, fnG_of F sc__law_is_number fun cdv A outer s H hr hg => (b_one (s_ret (j_val (j_and (j_isi (j_var 0) (g_isinstance C) (g_int C)) (j_and (j_not (j_isi (j_var 0) (g_isinstance C) (g_bool C))) (j_one (j_cmp o_ge (j_var 0) j_int)))))))⟩
def lc__law_all_1 : MO := (mLc (mR1 (mCons (mVar 2) mNil)) (mN 5) mYes (mBin gAdd (mVar 4) (mTup (mCons (mVar 5) mNil))) [5])
def mb__law_all_2 : MS := (mFor (mIt (mVar 1)) (mN 4) (mDrop (mExt 3 (mFz lc__law_all_1))))
def mb__law_all_3 : MS := (mFor (mIt (mVar 0)) (mN 2) (mSeq (mOwn (mLst mNil) 3) (mSeq mb__law_all_2 (mFrz 3 (mAsg (mVar 3) (mN 1))))))
def mb__law_all : MS := (mSeq (mAsg (mFz (mLst (mCons (mTup mNil) mNil))) (mN 1)) (mSeq mb__law_all_3 (mRet (mVal (mVar 1)))))
def mf__law_all : MF := mFn 6 mb__law_all
theorem ok__law_all (C : Cc K mg) : ∃ fd, FnP K "_law_all" s__law_all (He.ga K "_law_all") fd ∧ FnG P w K mg base 1 (He.ga K "_law_all") fd P__law_all mf__law_all := by
  obtain ⟨fd, F⟩ := C.says.def_ 7 (d := d__law_all) rfl
  exact ⟨fd, F, fnG_of F sc__law_all fun cdv A outer s H hr hg => (b_cons (s_asg (j_fz (j_lst (a_cons (j_tup a_nil) a_nil))) (g_name 1 (hN := by exact fun _ => sc__law_all.nd))) (b_cons (s_for (i_any (j_var 0)) (g_name 2 (hN := by exact fun _ => sc__law_all.nd)) (b_cons (s_own 3 (j_lst a_nil) (hN := by exact fun _ => sc__law_all.nd)) (b_cons (s_for (i_any (j_var 1)) (g_name 4 (hN := by exact fun _ => sc__law_all.nd)) (b_one (s_expr (j_ext 3 (j_fz (j_lc [("state", 5)] (i_range1 (a_cons (j_var 2) a_nil) (g_range C)) (g_name 5 (hN := by exact fun _ => sc__law_all.nd)) ts_nil (j_bin o_add (j_var 4) (j_tup (a_cons (j_var 5) a_nil))) (fun _ => blkOk_by (N := N__law_all) (sc := defScope s__law_all) (by decide +kernel)) (hN := by exact fun _ => sc__law_all.nd))))))) (b_frz 3 (b_one (s_asg (j_var 3) (g_name 1 (hN := by exact fun _ => sc__law_all.nd)))))))) (b_one (s_ret (j_val (j_var 1))))))⟩
def lc__law_meets_1 : MO := (mLc (mIt (mVar 1)) (mTupG 2 (mN1 (mN 2) (mN1 (mN 3) mN0))) (mTest (mBin gNotInD (mBin gIx (mVar 0) (mVar 2)) (mVar 3))) (mVar 2) [2, 3])
def mb__law_meets : MS := (mRet (mVal (mBin gEqN (mFz lc__law_meets_1) (mFz (mLst mNil)))))
def mf__law_meets : MF := mFn 4 mb__law_meets
theorem ok__law_meets (C : Cc K mg) : ∃ fd, FnP K "_law_meets" s__law_meets (He.ga K "_law_meets") fd ∧ FnG P w K mg base 1 (He.ga K "_law_meets") fd P__law_meets mf__law_meets := by
  obtain ⟨fd, F⟩ := C.says.def_ 8 (d := d__law_meets) rfl
  exact ⟨fd, F, fnG_of F sc__law_meets fun cdv A outer s H hr hg => (b_one (s_ret (j_val (j_cmp o_eqN (j_fz (j_lc [("i", 2), ("marks", 3)] (i_any (j_var 1)) (g_tup (gs_cons (g_name 2 (hN := by exact fun _ => sc__law_meets.nd)) (gs_cons (g_name 3 (hN := by exact fun _ => sc__law_meets.nd)) gs_nil))) (ts_one (t_cmp o_notIn (j_ix (j_var 0) (j_var 2)) (j_var 3))) (j_var 2) (fun _ => blkOk_by (N := N__law_meets) (sc := defScope s__law_meets) (by decide +kernel)) (hN := by exact fun _ => sc__law_meets.nd))) (j_fz (j_lst a_nil))))))⟩
def mb_is_between : MS := (mRet (mVal (mAnd (mFz (mCall mf_is_integer [0] [] (mCons (mVar 0) mNil) mNil)) (mChain gLe gLe (mVar 1) (mVar 0) (mVar 2)))))
def mf_is_between : MF := mFn 3 mb_is_between
theorem ok_is_between (C : Cc K mg) : ∃ fd, FnP K "is_between" s_is_between (He.ga K "is_between") fd ∧ FnG P w K mg base 2 (He.ga K "is_between") fd P_is_between mf_is_between := by
  obtain ⟨fd, F⟩ := C.says.def_ 9 (d := d_is_between) rfl
  obtain ⟨fd_is_integer, F_is_integer, G_is_integer⟩ := ok_is_integer (P := P) (w := w) (base := base) C
  exact ⟨fd, F, fnG_of F sc_is_between fun cdv A outer s H hr hg => (b_one (s_ret (j_val (j_and (j_fz (j_call (ps := P_is_integer) (ks := []) G_is_integer F_is_integer.kp (g_is_integer C) (bg_is_integer_1 F_is_integer) (fun _ => .nil) (a_cons (j_var 0) a_nil) k_nil (l_cons l_nil) l_nil (Nat.le_of_ble_eq_true rfl))) (j_one (j_chain o_le o_le (j_var 1) (j_var 0) (j_var 2)))))))⟩
def lc_is_right_value_1 : MO := (mLc (mIt (mBin gIx (mVar 0) (mC (.int 1)))) (mN 2) mYes (mFz (mCall mf_meets [0, 1] [] (mCons (mVar 1) (mCons (mVar 2) mNil)) mNil)) [2])
def mb_is_right_value : MS := (mRet (mVal (mNot (mFz (mCB gAny (mCons (mFz lc_is_right_value_1) mNil))))))
def mf_is_right_value : MF := mFn 3 mb_is_right_value
theorem ok_is_right_value (C : Cc K mg) : ∃ fd, FnP K "is_right_value" s_is_right_value (He.ga K "is_right_value") fd ∧ FnG P w K mg base 2 (He.ga K "is_right_value") fd P_is_right_value mf_is_right_value := by
  obtain ⟨fd, F⟩ := C.says.def_ 10 (d := d_is_right_value) rfl
  obtain ⟨fd_meets, F_meets, G_meets⟩ := ok_meets (P := P) (w := w) (base := base) C
  exact ⟨fd, F, fnG_of F sc_is_right_value fun cdv A outer s H hr hg => (b_one (s_ret (j_val (j_not (j_fz (j_callB c_any (g_any C) (a_cons (j_fz (j_lc [("bar", 2)] (i_any (j_ix (j_var 0) j_int)) (g_name 2 (hN := by exact fun _ => sc_is_right_value.nd)) ts_nil (j_fz (j_call (ps := P_meets) (ks := []) (by exact G_meets) (by exact F_meets.kp) (by exact (g_meets C)) (by exact bg_meets_2 F_meets) (fun _ => .nil) (a_cons (j_var 1) (a_cons (j_var 2) a_nil)) k_nil (l_cons (l_cons l_nil)) l_nil (Nat.le_of_ble_eq_true rfl))) (fun _ => blkOk_by (N := N_is_right_value) (sc := defScope s_is_right_value) (by decide +kernel)) (hN := by exact fun _ => sc_is_right_value.nd))) a_nil)))))))⟩
def mb__law_pick : MS := (mRet (mVal (mBin gIx (mVar 1) (mFz (mLend 0 mf__law_draw [0] [] (mCons (mFz (mCB gLen (mCons (mVar 1) mNil))) mNil) mNil)))))
def mf__law_pick : MF := mFn 2 mb__law_pick
theorem ok__law_pick (C : Cc K mg) : ∃ fd, FnP K "_law_pick" s__law_pick (He.ga K "_law_pick") fd ∧ FnG P w K mg base 2 (He.ga K "_law_pick") fd P__law_pick mf__law_pick := by
  obtain ⟨fd, F⟩ := C.says.def_ 11 (d := d__law_pick) rfl
  obtain ⟨fd__law_draw, F__law_draw, G__law_draw⟩ := ok__law_draw (P := P) (w := w) (base := base) C
  exact ⟨fd, F, fnG_of F sc__law_pick fun cdv A outer s H hr hg => (b_one (s_ret (j_val (j_ix (j_var 1) (j_fz (j_lend 0 (ps := P__law_draw) (ks := []) G__law_draw F__law_draw.kp (g__law_draw C) (bg__law_draw_2 F__law_draw) (fun _ => .nil) (a_cons (j_fz (j_callB c_len (g_len C) (a_cons (j_var 1) a_nil))) a_nil) k_nil (l_cons l_nil) l_nil (Nat.le_of_ble_eq_true rfl)))))))⟩
def mb__law_shuffled_1 : MS := (mFor (mR1 (mCons (mFz (mBor (mVal (mFz (mCB gLen (mCons (mVar 3) mNil)))))) mNil)) (mN 2) (mDrop (mApp 4 (mPopAt 3 (mFz (mBor (mVal (mFz (mLend 0 mf__law_draw [0] [] (mCons (mFz (mCB gLen (mCons (mVar 3) mNil))) mNil) mNil)))))))))
def mb__law_shuffled : MS := (mSeq (mPar [3, 4] (mE1 (mCB gList (mCons (mVar 1) mNil)) (mE1 (mLst mNil) mE0))) (mSeq mb__law_shuffled_1 (mFrz 3 (mRet (mMove 4)))))
def mf__law_shuffled : MF := mFn 5 mb__law_shuffled
theorem ok__law_shuffled (C : Cc K mg) : ∃ fd, FnP K "_law_shuffled" s__law_shuffled (He.ga K "_law_shuffled") fd ∧ FnG P w K mg base 2 (He.ga K "_law_shuffled") fd P__law_shuffled mf__law_shuffled := by
  obtain ⟨fd, F⟩ := C.says.def_ 12 (d := d__law_shuffled) rfl
  obtain ⟨fd__law_draw, F__law_draw, G__law_draw⟩ := ok__law_draw (P := P) (w := w) (base := base) C
  exact ⟨fd, F, fnG_of F sc__law_shuffled fun cdv A outer s H hr hg => (b_cons (s_par2 3 4 (e_cons (j_callT c_list (g_list C) (a_cons (j_var 1) a_nil)) (e_cons (j_lst a_nil) e_nil)) (hN := by exact fun _ => sc__law_shuffled.nd)) (b_cons (s_for (i_range1 (a_cons (j_borV (j_fz (j_callB c_len (g_len C) (a_cons (j_var 3) a_nil)))) a_nil) (g_range C)) (g_name 2 (hN := by exact fun _ => sc__law_shuffled.nd)) (b_one (s_expr (j_app 4 (j_popAt 3 (j_borV (j_fz (j_lend 0 (ps := P__law_draw) (ks := []) G__law_draw F__law_draw.kp (g__law_draw C) (bg__law_draw_2 F__law_draw) (fun _ => .nil) (a_cons (j_fz (j_callB c_len (g_len C) (a_cons (j_var 3) a_nil))) a_nil) k_nil (l_cons l_nil) l_nil (Nat.le_of_ble_eq_true rfl))))))))) (b_frz 3 (b_one (s_ret (j_move 4))))))⟩
def mb__law_is_bar_1 : MS := (mIf (mTNot (mTest (mIsi "tuple" (mVar 1)))) (mRet (mVal (mC (.bool false)))) mNx)
def mb__law_is_bar_2 : MS := (mIf (mTOr (mTNot (mTest (mIsi "tuple" (mVar 2)))) (mTOr (mTest (mBin gNe (mFz (mCB gLen (mCons (mVar 2) mNil))) (mC (.int 2)))) (mTOr (mTNot (mTest (mFz (mCall mf__law_is_number [0] [] (mCons (mBin gIx (mVar 2) (mC (.int 0))) mNil) mNil)))) (mTest (mBin gGe (mBin gIx (mVar 2) (mC (.int 0))) (mFz (mCB gLen (mCons (mVar 0) mNil)))))))) (mRet (mVal (mC (.bool false)))) mNx)
def lc__law_is_bar_3 : MO := (mLc (mIt (mBin gIx (mVar 2) (mC (.int 1)))) (mN 5) (mTOr (mTNot (mTest (mFz (mCall mf__law_is_number [0] [] (mCons (mVar 5) mNil) mNil)))) (mTest (mBin gGe (mVar 5) (mBin gIx (mVar 0) (mBin gIx (mVar 2) (mC (.int 0))))))) (mVar 5) [5])
def mb__law_is_bar_4 : MS := (mIf (mTOr (mTNot (mTest (mIsi "tuple" (mBin gIx (mVar 2) (mC (.int 1)))))) (mTest (mBin gNeN (mFz lc__law_is_bar_3) (mFz (mLst mNil))))) (mRet (mVal (mC (.bool false)))) mNx)
def mb__law_is_bar_5 : MS := (mIf (mTOr (mTest (mBin gNe (mFz (mCB gList (mCons (mBin gIx (mVar 2) (mC (.int 1))) mNil))) (mFz (mSSI (mBin gIx (mVar 2) (mC (.int 1))))))) (mTNot (mTest (mChain gLt gLt (mC (.int 0)) (mFz (mCB gLen (mCons (mBin gIx (mVar 2) (mC (.int 1))) mNil))) (mBin gIx (mVar 0) (mBin gIx (mVar 2) (mC (.int 0)))))))) (mRet (mVal (mC (.bool false)))) mNx)
def mb__law_is_bar_6 : MS := (mFor (mIt (mVar 1)) (mN 2) (mSeq mb__law_is_bar_2 (mSeq mb__law_is_bar_4 mb__law_is_bar_5)))
def lc__law_is_bar_7 : MO := (mLc (mZip (mCons (mVar 1) (mCons (mFz (mSl (mVar 1) (mP1 (mC (.int 1))) mP0)) mNil))) (mTupG 2 (mN1 (mN 3) (mN1 (mN 4) mN0))) (mTest (mBin gGe (mBin gIx (mVar 3) (mC (.int 0))) (mBin gIx (mVar 4) (mC (.int 0))))) (mC (.int 1)) [3, 4])
def mb__law_is_bar : MS := (mSeq mb__law_is_bar_1 (mSeq mb__law_is_bar_6 (mRet (mVal (mBin gEqN (mFz lc__law_is_bar_7) (mFz (mLst mNil)))))))
def mf__law_is_bar : MF := mFn 6 mb__law_is_bar
theorem ok__law_is_bar (C : Cc K mg) : ∃ fd, FnP K "_law_is_bar" s__law_is_bar (He.ga K "_law_is_bar") fd ∧ FnG P w K mg base 2 (He.ga K "_law_is_bar") fd P__law_is_bar mf__law_is_bar := by
  obtain ⟨fd, F⟩ := C.says.def_ 13 (d := d__law_is_bar) rfl
  obtain ⟨fd__law_is_number, F__law_is_number, G__law_is_number⟩ := ok__law_is_number (P := P) (w := w) (base := base) C
  exact ⟨fd, F, fnG_of F sc__law_is_bar fun cdv A outer s H hr hg => (b_cons (s_if (t_not (t_val (j_isi (j_var 1) (g_isinstance C) (g_tuple C)))) (b_one (s_ret (j_val j_bool))) b_nil) (b_cons (s_for (i_any (j_var 1)) (g_name 2 (hN := by exact fun _ => sc__law_is_bar.nd)) (b_cons (s_if ((w_or (t_not (t_val (j_isi (j_var 2) (g_isinstance C) (g_tuple C)))) (w_or (t_cmp o_ne (j_fz (j_callB c_len (g_len C) (a_cons (j_var 2) a_nil))) j_int) (w_or (t_not (t_val (j_fz (j_call (ps := P__law_is_number) (ks := []) G__law_is_number F__law_is_number.kp (g__law_is_number C) (bg__law_is_number_1 F__law_is_number) (fun _ => .nil) (a_cons (j_ix (j_var 2) j_int) a_nil) k_nil (l_cons l_nil) l_nil (Nat.le_of_ble_eq_true rfl))))) (w_or1 (t_cmp o_ge (j_ix (j_var 2) j_int) (j_fz (j_callB c_len (g_len C) (a_cons (j_var 0) a_nil))))))))).jt (b_one (s_ret (j_val j_bool))) b_nil) (b_cons (s_if ((w_or (t_not (t_val (j_isi (j_ix (j_var 2) j_int) (g_isinstance C) (g_tuple C)))) (w_or1 (t_cmp o_neN (j_fz (j_lc [("state", 5)] (i_any (j_ix (j_var 2) j_int)) (g_name 5 (hN := by exact fun _ => sc__law_is_bar.nd)) (ts_one ((w_or (t_not (t_val (j_fz (j_call (ps := P__law_is_number) (ks := []) (by exact G__law_is_number) (by exact F__law_is_number.kp) (by exact (g__law_is_number C)) (by exact bg__law_is_number_1 F__law_is_number) (fun _ => .nil) (a_cons (j_var 5) a_nil) k_nil (l_cons l_nil) l_nil (Nat.le_of_ble_eq_true rfl))))) (w_or1 (t_cmp o_ge (j_var 5) (j_ix (j_var 0) (j_ix (j_var 2) j_int)))))).jt) (j_var 5) (fun _ => blkOk_by (N := N__law_is_bar) (sc := defScope s__law_is_bar) (by decide +kernel)) (hN := by exact fun _ => sc__law_is_bar.nd))) (j_fz (j_lst a_nil)))))).jt (b_one (s_ret (j_val j_bool))) b_nil) (b_one (s_if ((w_or (t_cmp o_ne (j_fz (j_callT c_list (g_list C) (a_cons (j_ix (j_var 2) j_int) a_nil))) (j_fz (j_sortSetI (j_ix (j_var 2) j_int) (g_sorted C) (g_set C)))) (w_or1 (t_not (t_chain o_lt o_lt j_int (j_fz (j_callB c_len (g_len C) (a_cons (j_ix (j_var 2) j_int) a_nil))) (j_ix (j_var 0) (j_ix (j_var 2) j_int))))))).jt (b_one (s_ret (j_val j_bool))) b_nil))))) (b_one (s_ret (j_val (j_cmp o_eqN (j_fz (j_lc [("one", 3), ("other", 4)] (i_zip (a_cons (j_var 1) (a_cons (j_fz (j_sl (j_var 1) (p_some j_int) p_none)) a_nil)) (g_zip C)) (g_tup (gs_cons (g_name 3 (hN := by exact fun _ => sc__law_is_bar.nd)) (gs_cons (g_name 4 (hN := by exact fun _ => sc__law_is_bar.nd)) gs_nil))) (ts_one (t_cmp o_ge (j_ix (j_var 3) j_int) (j_ix (j_var 4) j_int))) j_int (fun _ => blkOk_by (N := N__law_is_bar) (sc := defScope s__law_is_bar) (by decide +kernel)) (hN := by exact fun _ => sc__law_is_bar.nd))) (j_fz (j_lst a_nil))))))))⟩
def lc__law_are_sizes_1 : MO := (mLc (mIt (mVar 0)) (mN 1) (mTOr (mTNot (mTest (mFz (mCall mf__law_is_number [0] [] (mCons (mVar 1) mNil) mNil)))) (mTest (mBin gEq (mVar 1) (mC (.int 0))))) (mVar 1) [1])
def mb__law_are_sizes : MS := (mRet (mVal (mAnd (mIsi "tuple" (mVar 0)) (mBin gEqN (mFz lc__law_are_sizes_1) (mFz (mLst mNil))))))
def mf__law_are_sizes : MF := mFn 2 mb__law_are_sizes
theorem ok__law_are_sizes (C : Cc K mg) : ∃ fd, FnP K "_law_are_sizes" s__law_are_sizes (He.ga K "_law_are_sizes") fd ∧ FnG P w K mg base 2 (He.ga K "_law_are_sizes") fd P__law_are_sizes mf__law_are_sizes := by
  obtain ⟨fd, F⟩ := C.says.def_ 14 (d := d__law_are_sizes) rfl
  obtain ⟨fd__law_is_number, F__law_is_number, G__law_is_number⟩ := ok__law_is_number (P := P) (w := w) (base := base) C
  exact ⟨fd, F, fnG_of F sc__law_are_sizes fun cdv A outer s H hr hg => (b_one (s_ret (j_val (j_and (j_isi (j_var 0) (g_isinstance C) (g_tuple C)) (j_one (j_cmp o_eqN (j_fz (j_lc [("size", 1)] (i_any (j_var 0)) (g_name 1 (hN := by exact fun _ => sc__law_are_sizes.nd)) (ts_one ((w_or (t_not (t_val (j_fz (j_call (ps := P__law_is_number) (ks := []) (by exact G__law_is_number) (by exact F__law_is_number.kp) (by exact (g__law_is_number C)) (by exact bg__law_is_number_1 F__law_is_number) (fun _ => .nil) (a_cons (j_var 1) a_nil) k_nil (l_cons l_nil) l_nil (Nat.le_of_ble_eq_true rfl))))) (w_or1 (t_cmp o_eq (j_var 1) j_int)))).jt) (j_var 1) (fun _ => blkOk_by (N := N__law_are_sizes) (sc := defScope s__law_are_sizes) (by decide +kernel)) (hN := by exact fun _ => sc__law_are_sizes.nd))) (j_fz (j_lst a_nil))))))))⟩
def mb__law_is_choice_1 : MS := (mIf (mTOr (mTNot (mTest (mIsi "tuple" (mVar 1)))) (mTest (mBin gNe (mFz (mCB gLen (mCons (mVar 1) mNil))) (mFz (mCB gLen (mCons (mVar 0) mNil)))))) (mRet (mVal (mC (.bool false)))) mNx)
def lc__law_is_choice_2 : MO := (mLc (mZip (mCons (mVar 1) (mCons (mVar 0) mNil))) (mTupG 2 (mN1 (mN 2) (mN1 (mN 3) mN0))) (mTOr (mTNot (mTest (mFz (mCall mf__law_is_number [0] [] (mCons (mVar 2) mNil) mNil)))) (mTest (mBin gGe (mVar 2) (mVar 3)))) (mC (.int 1)) [2, 3])
def mb__law_is_choice : MS := (mSeq mb__law_is_choice_1 (mRet (mVal (mBin gEqN (mFz lc__law_is_choice_2) (mFz (mLst mNil))))))
def mf__law_is_choice : MF := mFn 4 mb__law_is_choice
theorem ok__law_is_choice (C : Cc K mg) : ∃ fd, FnP K "_law_is_choice" s__law_is_choice (He.ga K "_law_is_choice") fd ∧ FnG P w K mg base 2 (He.ga K "_law_is_choice") fd P__law_is_choice mf__law_is_choice := by
  obtain ⟨fd, F⟩ := C.says.def_ 15 (d := d__law_is_choice) rfl
  obtain ⟨fd__law_is_number, F__law_is_number, G__law_is_number⟩ := ok__law_is_number (P := P) (w := w) (base := base) C
  exact ⟨fd, F, fnG_of F sc__law_is_choice fun cdv A outer s H hr hg => (b_cons (s_if ((w_or (t_not (t_val (j_isi (j_var 1) (g_isinstance C) (g_tuple C)))) (w_or1 (t_cmp o_ne (j_fz (j_callB c_len (g_len C) (a_cons (j_var 1) a_nil))) (j_fz (j_callB c_len (g_len C) (a_cons (j_var 0) a_nil))))))).jt (b_one (s_ret (j_val j_bool))) b_nil) (b_one (s_ret (j_val (j_cmp o_eqN (j_fz (j_lc [("state", 2), ("size", 3)] (i_zip (a_cons (j_var 1) (a_cons (j_var 0) a_nil)) (g_zip C)) (g_tup (gs_cons (g_name 2 (hN := by exact fun _ => sc__law_is_choice.nd)) (gs_cons (g_name 3 (hN := by exact fun _ => sc__law_is_choice.nd)) gs_nil))) (ts_one ((w_or (t_not (t_val (j_fz (j_call (ps := P__law_is_number) (ks := []) (by exact G__law_is_number) (by exact F__law_is_number.kp) (by exact (g__law_is_number C)) (by exact bg__law_is_number_1 F__law_is_number) (fun _ => .nil) (a_cons (j_var 2) a_nil) k_nil (l_cons l_nil) l_nil (Nat.le_of_ble_eq_true rfl))))) (w_or1 (t_cmp o_ge (j_var 2) (j_var 3))))).jt) j_int (fun _ => blkOk_by (N := N__law_is_choice) (sc := defScope s__law_is_choice) (by decide +kernel)) (hN := by exact fun _ => sc__law_is_choice.nd))) (j_fz (j_lst a_nil)))))))⟩
def lc__law_rights_1 : MO := (mLc (mIt (mBin gIx (mVar 0) (mC (.int 1)))) (mN 2) (mTest (mFz (mCall mf__law_meets [0, 1] [] (mCons (mVar 1) (mCons (mVar 2) mNil)) mNil))) (mVar 2) [2])
def lc__law_rights_2 : MO := (mLc (mIt (mFz (mCall mf__law_all [0] [] (mCons (mBin gIx (mVar 0) (mC (.int 0))) mNil) mNil))) (mN 1) (mTest (mBin gEqN (mFz lc__law_rights_1) (mFz (mLst mNil)))) (mVar 1) [1])
def mb__law_rights : MS := (mRet lc__law_rights_2)
def mf__law_rights : MF := mFn 3 mb__law_rights
theorem ok__law_rights (C : Cc K mg) : ∃ fd, FnP K "_law_rights" s__law_rights (He.ga K "_law_rights") fd ∧ FnG P w K mg base 2 (He.ga K "_law_rights") fd P__law_rights mf__law_rights := by
  obtain ⟨fd, F⟩ := C.says.def_ 16 (d := d__law_rights) rfl
  obtain ⟨fd__law_all, F__law_all, G__law_all⟩ := ok__law_all (P := P) (w := w) (base := base) C
  obtain ⟨fd__law_meets, F__law_meets, G__law_meets⟩ := ok__law_meets (P := P) (w := w) (base := base) C
  exact ⟨fd, F, fnG_of F sc__law_rights fun cdv A outer s H hr hg => (b_one (s_ret (j_lc [("choice", 1)] (i_any (j_fz (j_call (ps := P__law_all) (ks := []) G__law_all F__law_all.kp (g__law_all C) (bg__law_all_1 F__law_all) (fun _ => .nil) (a_cons (j_ix (j_var 0) j_int) a_nil) k_nil (l_cons l_nil) l_nil (Nat.le_of_ble_eq_true rfl)))) (g_name 1 (hN := by exact fun _ => sc__law_rights.nd)) (ts_one (t_cmp o_eqN (j_fz (j_lc [("bar", 2)] (i_any (j_ix (j_var 0) j_int)) (g_name 2 (hN := by exact fun _ => sc__law_rights.nd)) (ts_one (t_val (j_fz (j_call (ps := P__law_meets) (ks := []) (by exact G__law_meets) (by exact F__law_meets.kp) (by exact (g__law_meets C)) (by exact bg__law_meets_2 F__law_meets) (fun _ => .nil) (a_cons (j_var 1) (a_cons (j_var 2) a_nil)) k_nil (l_cons (l_cons l_nil)) l_nil (Nat.le_of_ble_eq_true rfl))))) (j_var 2) (by exact fun _ => blkOk_by (N := N__law_rights) (by kernel_rfl)) (hN := by exact fun _ => sc__law_rights.nd))) (j_fz (j_lst a_nil)))) (j_var 1) (fun _ => blkOk_by (N := N__law_rights) (sc := defScope s__law_rights) (by decide +kernel)) (hN := by exact fun _ => sc__law_rights.nd))))⟩
def lc_are_between_1 : MO := (mLc (mIt (mVar 0)) (mN 3) mYes (mFz (mCall mf_is_between [0, 1, 2] [] (mCons (mVar 3) (mCons (mVar 1) (mCons (mVar 2) mNil))) mNil)) [3])
def mb_are_between : MS := (mRet (mVal (mAnd (mIsi "tuple" (mVar 0)) (mFz (mCB gAll (mCons (mFz lc_are_between_1) mNil))))))
def mf_are_between : MF := mFn 4 mb_are_between
theorem ok_are_between (C : Cc K mg) : ∃ fd, FnP K "are_between" s_are_between (He.ga K "are_between") fd ∧ FnG P w K mg base 3 (He.ga K "are_between") fd P_are_between mf_are_between := by
  obtain ⟨fd, F⟩ := C.says.def_ 17 (d := d_are_between) rfl
  obtain ⟨fd_is_between, F_is_between, G_is_between⟩ := ok_is_between (P := P) (w := w) (base := base) C
  exact ⟨fd, F, fnG_of F sc_are_between fun cdv A outer s H hr hg => (b_one (s_ret (j_val (j_and (j_isi (j_var 0) (g_isinstance C) (g_tuple C)) (j_one (j_fz (j_callB c_all (g_all C) (a_cons (j_fz (j_lc [("part", 3)] (i_any (j_var 0)) (g_name 3 (hN := by exact fun _ => sc_are_between.nd)) ts_nil (j_fz (j_call (ps := P_is_between) (ks := []) (by exact G_is_between) (by exact F_is_between.kp) (by exact (g_is_between C)) (by exact bg_is_between_3 F_is_between) (fun _ => .nil) (a_cons (j_var 3) (a_cons (j_var 1) (a_cons (j_var 2) a_nil))) k_nil (l_cons (l_cons (l_cons l_nil))) l_nil (Nat.le_of_ble_eq_true rfl))) (fun _ => blkOk_by (N := N_are_between) (sc := defScope s_are_between) (by decide +kernel)) (hN := by exact fun _ => sc_are_between.nd))) a_nil))))))))⟩
def lc_are_sizes_1 : MO := (mLc (mIt (mVar 0)) (mN 1) mYes (mFz (mCall mf_is_between [0, 1, 2] [] (mCons (mVar 1) (mCons (mC (.int 1)) (mCons (mVar 1) mNil))) mNil)) [1])
def mb_are_sizes : MS := (mRet (mVal (mAnd (mIsi "tuple" (mVar 0)) (mFz (mCB gAll (mCons (mFz lc_are_sizes_1) mNil))))))
def mf_are_sizes : MF := mFn 2 mb_are_sizes
theorem ok_are_sizes (C : Cc K mg) : ∃ fd, FnP K "are_sizes" s_are_sizes (He.ga K "are_sizes") fd ∧ FnG P w K mg base 3 (He.ga K "are_sizes") fd P_are_sizes mf_are_sizes := by
  obtain ⟨fd, F⟩ := C.says.def_ 18 (d := d_are_sizes) rfl
  obtain ⟨fd_is_between, F_is_between, G_is_between⟩ := ok_is_between (P := P) (w := w) (base := base) C
  exact ⟨fd, F, fnG_of F sc_are_sizes fun cdv A outer s H hr hg => (b_one (s_ret (j_val (j_and (j_isi (j_var 0) (g_isinstance C) (g_tuple C)) (j_one (j_fz (j_callB c_all (g_all C) (a_cons (j_fz (j_lc [("size", 1)] (i_any (j_var 0)) (g_name 1 (hN := by exact fun _ => sc_are_sizes.nd)) ts_nil (j_fz (j_call (ps := P_is_between) (ks := []) (by exact G_is_between) (by exact F_is_between.kp) (by exact (g_is_between C)) (by exact bg_is_between_3 F_is_between) (fun _ => .nil) (a_cons (j_var 1) (a_cons j_int (a_cons (j_var 1) a_nil))) k_nil (l_cons (l_cons (l_cons l_nil))) l_nil (Nat.le_of_ble_eq_true rfl))) (fun _ => blkOk_by (N := N_are_sizes) (sc := defScope s_are_sizes) (by decide +kernel)) (hN := by exact fun _ => sc_are_sizes.nd))) a_nil))))))))⟩
def lc_is_choice_value_1 : MO := (mLc (mZip (mCons (mVar 1) (mCons (mVar 0) mNil))) (mTupG 2 (mN1 (mN 2) (mN1 (mN 3) mN0))) mYes (mFz (mCall mf_is_between [0, 1, 2] [] (mCons (mVar 2) (mCons (mC (.int 0)) (mCons (mBin gSub (mVar 3) (mC (.int 1))) mNil))) mNil)) [2, 3])
def mb_is_choice_value : MS := (mRet (mVal (mAnd (mFz (mCall mf_is_row [0, 1] [] (mCons (mVar 1) (mCons (mFz (mCB gLen (mCons (mVar 0) mNil))) mNil)) mNil)) (mFz (mCB gAll (mCons (mFz lc_is_choice_value_1) mNil))))))
def mf_is_choice_value : MF := mFn 4 mb_is_choice_value
theorem ok_is_choice_value (C : Cc K mg) : ∃ fd, FnP K "is_choice_value" s_is_choice_value (He.ga K "is_choice_value") fd ∧ FnG P w K mg base 3 (He.ga K "is_choice_value") fd P_is_choice_value mf_is_choice_value := by
  obtain ⟨fd, F⟩ := C.says.def_ 19 (d := d_is_choice_value) rfl
  obtain ⟨fd_is_between, F_is_between, G_is_between⟩ := ok_is_between (P := P) (w := w) (base := base) C
  obtain ⟨fd_is_row, F_is_row, G_is_row⟩ := ok_is_row (P := P) (w := w) (base := base) C
  exact ⟨fd, F, fnG_of F sc_is_choice_value fun cdv A outer s H hr hg => (b_one (s_ret (j_val (j_and (j_fz (j_call (ps := P_is_row) (ks := []) G_is_row F_is_row.kp (g_is_row C) (bg_is_row_2 F_is_row) (fun _ => .nil) (a_cons (j_var 1) (a_cons (j_fz (j_callB c_len (g_len C) (a_cons (j_var 0) a_nil))) a_nil)) k_nil (l_cons (l_cons l_nil)) l_nil (Nat.le_of_ble_eq_true rfl))) (j_one (j_fz (j_callB c_all (g_all C) (a_cons (j_fz (j_lc [("state", 2), ("size", 3)] (i_zip (a_cons (j_var 1) (a_cons (j_var 0) a_nil)) (g_zip C)) (g_tup (gs_cons (g_name 2 (hN := by exact fun _ => sc_is_choice_value.nd)) (gs_cons (g_name 3 (hN := by exact fun _ => sc_is_choice_value.nd)) gs_nil))) ts_nil (j_fz (j_call (ps := P_is_between) (ks := []) (by exact G_is_between) (by exact F_is_between.kp) (by exact (g_is_between C)) (by exact bg_is_between_3 F_is_between) (fun _ => .nil) (a_cons (j_var 2) (a_cons j_int (a_cons (j_bin o_sub (j_var 3) j_int) a_nil))) k_nil (l_cons (l_cons (l_cons l_nil))) l_nil (Nat.le_of_ble_eq_true rfl))) (fun _ => blkOk_by (N := N_is_choice_value) (sc := defScope s_is_choice_value) (by decide +kernel)) (hN := by exact fun _ => sc_is_choice_value.nd))) a_nil))))))))⟩
def mb__law_sizes_1 : MS := (mIf (mTest (mBin gLe (mBin gMul (mVar 5) (mVar 6)) (mVar 1))) (mSeq (mDrop (mApp 4 (mVar 6))) (mAsg (mBin gMul (mVar 5) (mVar 6)) (mN 5))) mNx)
def mb__law_sizes_2 : MS := (mFor (mR1 (mCons (mFz (mLend 0 mf__law_draw [0] [] (mCons (mBin gAdd (mVar 2) (mC (.int 1))) mNil) mNil)) mNil)) (mN 3) (mSeq (mAsg (mFz (mLend 0 mf__law_pick [0] [] (mCons (mTup (mCons (mC (.int 2)) (mCons (mC (.int 3)) (mCons (mC (.int 2)) (mCons (mC (.int 1)) (mCons (mC (.int 4)) (mCons (mC (.int 3)) (mCons (mC (.int 12)) (mCons (mC (.int 2)) (mCons (mC (.int 6)) mNil)))))))))) mNil) mNil)) (mN 6)) mb__law_sizes_1))
def mb__law_sizes : MS := (mSeq (mPar [4, 5] (mE1 (mLst mNil) (mE1 (mVal (mC (.int 1))) mE0))) (mSeq mb__law_sizes_2 (mFrz 4 (mRet (mCB gTuple (mCons (mVar 4) mNil))))))
def mf__law_sizes : MF := mFn 7 mb__law_sizes
theorem ok__law_sizes (C : Cc K mg) : ∃ fd, FnP K "_law_sizes" s__law_sizes (He.ga K "_law_sizes") fd ∧ FnG P w K mg base 3 (He.ga K "_law_sizes") fd P__law_sizes mf__law_sizes := by
  obtain ⟨fd, F⟩ := C.says.def_ 20 (d := d__law_sizes) rfl
  obtain ⟨fd__law_draw, F__law_draw, G__law_draw⟩ := ok__law_draw (P := P) (w := w) (base := base) C
  obtain ⟨fd__law_pick, F__law_pick, G__law_pick⟩ := ok__law_pick (P := P) (w := w) (base := base) C
  exact ⟨fd, F, fnG_of F sc__law_sizes fun cdv A outer s H hr hg => (b_cons (s_par2 4 5 (e_cons (j_lst a_nil) (e_cons (j_val j_int) e_nil)) (hN := by exact fun _ => sc__law_sizes.nd)) (b_cons (s_for (i_range1 (a_cons (j_fz (j_lend 0 (ps := P__law_draw) (ks := []) G__law_draw F__law_draw.kp (g__law_draw C) (bg__law_draw_2 F__law_draw) (fun _ => .nil) (a_cons (j_bin o_add (j_var 2) j_int) a_nil) k_nil (l_cons l_nil) l_nil (Nat.le_of_ble_eq_true rfl))) a_nil) (g_range C)) (g_name 3 (hN := by exact fun _ => sc__law_sizes.nd)) (b_cons (s_asg (j_fz (j_lend 0 (ps := P__law_pick) (ks := []) G__law_pick F__law_pick.kp (g__law_pick C) (bg__law_pick_2 F__law_pick) (fun _ => .nil) (a_cons (j_tup (a_cons j_int (a_cons j_int (a_cons j_int (a_cons j_int (a_cons j_int (a_cons j_int (a_cons j_int (a_cons j_int (a_cons j_int a_nil)))))))))) a_nil) k_nil (l_cons l_nil) l_nil (Nat.le_of_ble_eq_true rfl))) (g_name 6 (hN := by exact fun _ => sc__law_sizes.nd))) (b_one (s_if (t_cmp o_le (j_bin o_mul (j_var 5) (j_var 6)) (j_var 1)) (b_cons (s_expr (j_app 4 (j_var 6))) (b_one (s_asg (j_bin o_mul (j_var 5) (j_var 6)) (g_name 5 (hN := by exact fun _ => sc__law_sizes.nd))))) b_nil)))) (b_frz 4 (b_one (s_ret (j_callT c_tuple (g_tuple C) (a_cons (j_var 4) a_nil)))))))⟩
def mb__law_term : MS := (mSeq (mAsg (mFz (mCB gSorted (mCons (mFz (mSl (mFz (mLend 0 mf__law_shuffled [0] [] (mCons (mFz (mLR (mVar 2))) mNil) mNil)) mP0 (mP1 (mBin gAdd (mC (.int 1)) (mFz (mLend 0 mf__law_draw [0] [] (mCons (mBin gSub (mVar 2) (mC (.int 1))) mNil) mNil)))))) mNil))) (mN 3)) (mRet (mVal (mTup (mCons (mVar 1) (mCons (mFz (mCB gTuple (mCons (mVar 3) mNil))) mNil))))))
def mf__law_term : MF := mFn 4 mb__law_term
theorem ok__law_term (C : Cc K mg) : ∃ fd, FnP K "_law_term" s__law_term (He.ga K "_law_term") fd ∧ FnG P w K mg base 3 (He.ga K "_law_term") fd P__law_term mf__law_term := by
  obtain ⟨fd, F⟩ := C.says.def_ 21 (d := d__law_term) rfl
  obtain ⟨fd__law_draw, F__law_draw, G__law_draw⟩ := ok__law_draw (P := P) (w := w) (base := base) C
  obtain ⟨fd__law_shuffled, F__law_shuffled, G__law_shuffled⟩ := ok__law_shuffled (P := P) (w := w) (base := base) C
  exact ⟨fd, F, fnG_of F sc__law_term fun cdv A outer s H hr hg => (b_cons (s_asg (j_fz (j_callB c_sorted (g_sorted C) (a_cons (j_fz (j_sl (j_fz (j_lend 0 (ps := P__law_shuffled) (ks := []) G__law_shuffled F__law_shuffled.kp (g__law_shuffled C) (bg__law_shuffled_2 F__law_shuffled) (fun _ => .nil) (a_cons (j_fz (j_listRg (j_var 2) (g_list C) (g_range C))) a_nil) k_nil (l_cons l_nil) l_nil (Nat.le_of_ble_eq_true rfl))) p_none (p_some (j_bin o_add j_int (j_fz (j_lend 0 (ps := P__law_draw) (ks := []) G__law_draw F__law_draw.kp (g__law_draw C) (bg__law_draw_2 F__law_draw) (fun _ => .nil) (a_cons (j_bin o_sub (j_var 2) j_int) a_nil) k_nil (l_cons l_nil) l_nil (Nat.le_of_ble_eq_true rfl))))))) a_nil))) (g_name 3 (hN := by exact fun _ => sc__law_term.nd))) (b_one (s_ret (j_val (j_tup (a_cons (j_var 1) (a_cons (j_fz (j_callT c_tuple (g_tuple C) (a_cons (j_var 3) a_nil))) a_nil)))))))⟩
def mb__law_is_problem_1 : MS := (mIf (mTOr (mTNot (mTest (mIsi "tuple" (mVar 0)))) (mTOr (mTest (mBin gNe (mFz (mCB gLen (mCons (mVar 0) mNil))) (mC (.int 2)))) (mTOr (mTNot (mTest (mFz (mCall mf__law_are_sizes [0] [] (mCons (mBin gIx (mVar 0) (mC (.int 0))) mNil) mNil)))) (mTNot (mTest (mIsi "tuple" (mBin gIx (mVar 0) (mC (.int 1))))))))) (mRet (mVal (mC (.bool false)))) mNx)
def lc__law_is_problem_2 : MO := (mLc (mIt (mBin gIx (mVar 0) (mC (.int 1)))) (mN 1) (mTNot (mTest (mFz (mCall mf__law_is_bar [0, 1] [] (mCons (mBin gIx (mVar 0) (mC (.int 0))) (mCons (mVar 1) mNil)) mNil)))) (mVar 1) [1])
def mb__law_is_problem : MS := (mSeq mb__law_is_problem_1 (mRet (mVal (mBin gEqN (mFz lc__law_is_problem_2) (mFz (mLst mNil))))))
def mf__law_is_problem : MF := mFn 2 mb__law_is_problem
theorem ok__law_is_problem (C : Cc K mg) : ∃ fd, FnP K "_law_is_problem" s__law_is_problem (He.ga K "_law_is_problem") fd ∧ FnG P w K mg base 3 (He.ga K "_law_is_problem") fd P__law_is_problem mf__law_is_problem := by
  obtain ⟨fd, F⟩ := C.says.def_ 22 (d := d__law_is_problem) rfl
  obtain ⟨fd__law_are_sizes, F__law_are_sizes, G__law_are_sizes⟩ := ok__law_are_sizes (P := P) (w := w) (base := base) C
  obtain ⟨fd__law_is_bar, F__law_is_bar, G__law_is_bar⟩ := ok__law_is_bar (P := P) (w := w) (base := base) C
  exact ⟨fd, F, fnG_of F sc__law_is_problem fun cdv A outer s H hr hg => (b_cons (s_if ((w_or (t_not (t_val (j_isi (j_var 0) (g_isinstance C) (g_tuple C)))) (w_or (t_cmp o_ne (j_fz (j_callB c_len (g_len C) (a_cons (j_var 0) a_nil))) j_int) (w_or (t_not (t_val (j_fz (j_call (ps := P__law_are_sizes) (ks := []) G__law_are_sizes F__law_are_sizes.kp (g__law_are_sizes C) (bg__law_are_sizes_1 F__law_are_sizes) (fun _ => .nil) (a_cons (j_ix (j_var 0) j_int) a_nil) k_nil (l_cons l_nil) l_nil (Nat.le_of_ble_eq_true rfl))))) (w_or1 (t_not (t_val (j_isi (j_ix (j_var 0) j_int) (g_isinstance C) (g_tuple C))))))))).jt (b_one (s_ret (j_val j_bool))) b_nil) (b_one (s_ret (j_val (j_cmp o_eqN (j_fz (j_lc [("bar", 1)] (i_any (j_ix (j_var 0) j_int)) (g_name 1 (hN := by exact fun _ => sc__law_is_problem.nd)) (ts_one (t_not (t_val (j_fz (j_call (ps := P__law_is_bar) (ks := []) (by exact G__law_is_bar) (by exact F__law_is_bar.kp) (by exact (g__law_is_bar C)) (by exact bg__law_is_bar_2 F__law_is_bar) (fun _ => .nil) (a_cons (j_ix (j_var 0) j_int) (a_cons (j_var 1) a_nil)) k_nil (l_cons (l_cons l_nil)) l_nil (Nat.le_of_ble_eq_true rfl)))))) (j_var 1) (fun _ => blkOk_by (N := N__law_is_problem) (sc := defScope s__law_is_problem) (by decide +kernel)) (hN := by exact fun _ => sc__law_is_problem.nd))) (j_fz (j_lst a_nil)))))))⟩
def mb__law_odd_1 : MS := (mIf (mTest (mIsi "str" (mVar 1))) (mAsg (mBin gAdd (mVar 2) (mBin gMul (mFz (mLst (mCons (mBin gAdd (mVar 1) (mC (.str "s"))) (mCons (mBin gAdd (mVar 1) (mC (.str " "))) (mCons (mFz (mSl (mVar 1) (mP1 (mC (.int 1))) mP0)) (mCons (mFz (mLst (mCons (mVar 1) mNil))) (mCons (mTup (mCons (mVar 1) mNil)) (mCons (mBin gAdd (mVar 1) (mVar 1)) mNil)))))))) (mC (.int 3)))) (mN 2)) mNx)
def mb__law_odd_2 : MS := (mIf (mTest (mIsi "int" (mVar 1))) (mAsg (mBin gAdd (mVar 2) (mBin gMul (mFz (mLst (mCons (mBin gAdd (mVar 1) (mC (.int 1))) (mCons (mBin gSub (mVar 1) (mC (.int 1))) (mCons (mNeg (mVar 1)) (mCons (mBin gEq (mVar 1) (mC (.int 1))) (mCons (mFz (mLst (mCons (mVar 1) mNil))) (mCons (mTup (mCons (mVar 1) mNil)) (mCons (mFz (mCB gStrI (mCons (mVar 1) mNil))) mNil))))))))) (mC (.int 3)))) (mN 2)) mb__law_odd_1)
def mb__law_odd_3 : MS := (mIf (mTest (mIsi "tuple" (mVar 1))) (mAsg (mBin gAdd (mVar 2) (mBin gMul (mFz (mLst (mCons (mFz (mCB gList (mCons (mVar 1) mNil))) (mCons (mBin gAdd (mVar 1) (mTup (mCons (mC (.int 0)) mNil))) (mCons (mFz (mSl (mVar 1) (mP1 (mC (.int 1))) mP0)) (mCons (mFz (mSl (mVar 1) mP0 (mP1 (mNeg (mC (.int 1)))))) (mCons (mFz (mRev2 (mVar 1))) (mCons (mBin gAdd (mVar 1) (mFz (mSl (mVar 1) mP0 (mP1 (mC (.int 1)))))) (mCons (mTup (mCons (mVar 1) mNil)) (mCons (mBin gAdd (mFz (mSl (mVar 1) mP0 (mP1 (mC (.int 1))))) (mVar 1)) (mCons (mBin gAdd (mFz (mSl (mVar 1) mP0 (mP1 (mC (.int 1))))) (mFz (mSl (mVar 1) (mP1 (mC (.int 2))) mP0))) mNil))))))))))) (mC (.int 3)))) (mN 2)) mb__law_odd_2)
def mb__law_odd : MS := (mSeq (mAsg (mFz (mLst (mCons (mC .none) (mCons (mC (.bool true)) (mCons (mC (.bool false)) (mCons (mC (.int 0)) (mCons (mC (.int 1)) (mCons (mNeg (mC (.int 1))) (mCons (mC (.int 2)) (mCons (mC (.int 7)) (mCons (mC (.str "")) (mCons (mC (.str "given")) (mCons (mC (.str "join")) (mCons (mC (.str "choice")) (mCons (mC (.str "lines")) (mCons (mC (.str "none")) (mCons (mTup mNil) (mCons (mTup (mCons (mTup mNil) mNil)) (mCons (mFz (mLst mNil)) (mCons (mC (.dict [])) (mCons (mTup (mCons (mC (.int 0)) mNil)) (mCons (mTup (mCons (mC (.int 0)) (mCons (mTup (mCons (mC (.int 0)) mNil)) mNil))) (mCons (mTup (mCons (mTup (mCons (mC (.int 0)) (mCons (mTup (mCons (mC (.int 0)) mNil)) mNil))) mNil)) (mCons (mBin gPow (mC (.int 10)) (mC (.int 30))) mNil)))))))))))))))))))))))) (mN 2)) (mSeq mb__law_odd_3 (mRet (mLend 0 mf__law_pick [0] [] (mCons (mVar 2) mNil) mNil))))
def mf__law_odd : MF := mFn 3 mb__law_odd
theorem ok__law_odd (C : Cc K mg) : ∃ fd, FnP K "_law_odd" s__law_odd (He.ga K "_law_odd") fd ∧ FnG P w K mg base 3 (He.ga K "_law_odd") fd P__law_odd mf__law_odd := by
  obtain ⟨fd, F⟩ := C.says.def_ 23 (d := d__law_odd) rfl
  obtain ⟨fd__law_pick, F__law_pick, G__law_pick⟩ := ok__law_pick (P := P) (w := w) (base := base) C
  exact ⟨fd, F, fnG_of F sc__law_odd fun cdv A outer s H hr hg => (b_cons (s_asg (j_fz (j_lst (a_cons j_none (a_cons j_bool (a_cons j_bool (a_cons j_int (a_cons j_int (a_cons (j_neg j_int) (a_cons j_int (a_cons j_int (a_cons j_str (a_cons j_str (a_cons j_str (a_cons j_str (a_cons j_str (a_cons j_str (a_cons (j_tup a_nil) (a_cons (j_tup (a_cons (j_tup a_nil) a_nil)) (a_cons (j_fz (j_lst a_nil)) (a_cons j_dct0 (a_cons (j_tup (a_cons j_int a_nil)) (a_cons (j_tup (a_cons j_int (a_cons (j_tup (a_cons j_int a_nil)) a_nil))) (a_cons (j_tup (a_cons (j_tup (a_cons j_int (a_cons (j_tup (a_cons j_int a_nil)) a_nil))) a_nil)) (a_cons (j_bin o_pow j_int j_int) a_nil)))))))))))))))))))))))) (g_name 2 (hN := by exact fun _ => sc__law_odd.nd))) (b_cons (s_if (t_val (j_isi (j_var 1) (g_isinstance C) (g_tuple C))) (b_one (s_asg (j_bin o_add (j_var 2) (j_bin o_mul (j_fz (j_lst (a_cons (j_fz (j_callT c_list (g_list C) (a_cons (j_var 1) a_nil))) (a_cons (j_bin o_add (j_var 1) (j_tup (a_cons j_int a_nil))) (a_cons (j_fz (j_sl (j_var 1) (p_some j_int) p_none)) (a_cons (j_fz (j_sl (j_var 1) p_none (p_some (j_neg j_int)))) (a_cons (j_fz (j_rev2 (j_var 1))) (a_cons (j_bin o_add (j_var 1) (j_fz (j_sl (j_var 1) p_none (p_some j_int)))) (a_cons (j_tup (a_cons (j_var 1) a_nil)) (a_cons (j_bin o_add (j_fz (j_sl (j_var 1) p_none (p_some j_int))) (j_var 1)) (a_cons (j_bin o_add (j_fz (j_sl (j_var 1) p_none (p_some j_int))) (j_fz (j_sl (j_var 1) (p_some j_int) p_none))) a_nil))))))))))) j_int)) (g_name 2 (hN := by exact fun _ => sc__law_odd.nd)))) (b_one (s_if (t_val (j_isi (j_var 1) (g_isinstance C) (g_int C))) (b_one (s_asg (j_bin o_add (j_var 2) (j_bin o_mul (j_fz (j_lst (a_cons (j_bin o_add (j_var 1) j_int) (a_cons (j_bin o_sub (j_var 1) j_int) (a_cons (j_neg (j_var 1)) (a_cons (j_cmp o_eq (j_var 1) j_int) (a_cons (j_fz (j_lst (a_cons (j_var 1) a_nil))) (a_cons (j_tup (a_cons (j_var 1) a_nil)) (a_cons (j_fz (j_callT c_strI (g_str C) (a_cons (j_var 1) a_nil))) a_nil))))))))) j_int)) (g_name 2 (hN := by exact fun _ => sc__law_odd.nd)))) (b_one (s_if (t_val (j_isi (j_var 1) (g_isinstance C) (g_str C))) (b_one (s_asg (j_bin o_add (j_var 2) (j_bin o_mul (j_fz (j_lst (a_cons (j_bin o_add (j_var 1) j_str) (a_cons (j_bin o_add (j_var 1) j_str) (a_cons (j_fz (j_sl (j_var 1) (p_some j_int) p_none)) (a_cons (j_fz (j_lst (a_cons (j_var 1) a_nil))) (a_cons (j_tup (a_cons (j_var 1) a_nil)) (a_cons (j_bin o_add (j_var 1) (j_var 1)) a_nil)))))))) j_int)) (g_name 2 (hN := by exact fun _ => sc__law_odd.nd)))) b_nil))))) (b_one (s_ret (j_lend 0 (ps := P__law_pick) (ks := []) G__law_pick F__law_pick.kp (g__law_pick C) (bg__law_pick_2 F__law_pick) (fun _ => .nil) (a_cons (j_var 2) a_nil) k_nil (l_cons l_nil) l_nil (Nat.le_of_ble_eq_true rfl))))))⟩
def lc__law_great_1 : MO := (mLc (mR1 (mCons (mC (.int 5)) mNil)) (mN 6) mYes (mTup (mCons (mVar 6) (mCons (mTup (mCons (mFz (mLend 0 mf__law_draw [0] [] (mCons (mC (.int 2)) mNil) mNil)) mNil)) mNil))) [6])
def mb__law_great : MS := (mSeq (mPar [4, 5] (mE1 (mVal (mFz (mLend 0 mf__law_pick [0] [] (mCons (mTup (mCons (mC (.int 13)) (mCons (mC (.int 40)) (mCons (mBin gPow (mC (.int 10)) (mC (.int 39))) mNil)))) mNil) mNil))) (mE1 (mVal (mFz (mCB gLen (mCons (mVar 1) mNil)))) mE0))) (mSeq (mAsg (mFz (mCB gTuple (mCons (mFz lc__law_great_1) mNil))) (mN 2)) (mSeq (mAsg (mFz (mLst (mCons (mTup (mCons (mBin gAdd (mTup (mCons (mVar 4) mNil)) (mVar 1)) (mCons (mTup mNil) mNil))) (mCons (mTup (mCons (mBin gAdd (mVar 1) (mTup (mCons (mVar 4) mNil))) (mCons (mTup (mCons (mTup (mCons (mTup (mCons (mVar 5) (mCons (mTup (mCons (mC (.int 0)) (mCons (mBin gSub (mVar 4) (mC (.int 1))) mNil))) mNil))) mNil)) mNil)) mNil))) (mCons (mTup (mCons (mBin gAdd (mVar 1) (mTup (mCons (mVar 4) mNil))) (mCons (mTup (mCons (mTup (mCons (mTup (mCons (mVar 5) (mCons (mTup (mCons (mC (.int 0)) (mCons (mVar 4) mNil))) mNil))) mNil)) mNil)) mNil))) mNil))))) (mN 3)) (mRet (mLend 0 mf__law_pick [0] [] (mCons (mBin gAdd (mVar 3) (mFz (mLst (mCons (mTup (mCons (mBin gAdd (mBin gMul (mTup (mCons (mC (.int 2)) mNil)) (mC (.int 5))) (mVar 1)) (mCons (mTup (mCons (mVar 2) mNil)) mNil))) (mCons (mTup (mCons (mBin gAdd (mBin gAdd (mBin gMul (mTup (mCons (mC (.int 2)) mNil)) (mC (.int 4))) (mTup (mCons (mC (.int 1)) mNil))) (mVar 1)) (mCons (mTup (mCons (mVar 2) mNil)) mNil))) (mCons (mTup (mCons (mBin gMul (mTup (mCons (mC (.int 2)) mNil)) (mC (.int 30))) (mCons (mTup (mCons (mTup (mCons (mTup (mCons (mC (.int 29)) (mCons (mTup (mCons (mC (.int 1)) mNil)) mNil))) mNil)) mNil)) mNil))) mNil)))))) mNil) mNil)))))
def mf__law_great : MF := mFn 7 mb__law_great
theorem ok__law_great (C : Cc K mg) : ∃ fd, FnP K "_law_great" s__law_great (He.ga K "_law_great") fd ∧ FnG P w K mg base 3 (He.ga K "_law_great") fd P__law_great mf__law_great := by
  obtain ⟨fd, F⟩ := C.says.def_ 24 (d := d__law_great) rfl
  obtain ⟨fd__law_draw, F__law_draw, G__law_draw⟩ := ok__law_draw (P := P) (w := w) (base := base) C
  obtain ⟨fd__law_pick, F__law_pick, G__law_pick⟩ := ok__law_pick (P := P) (w := w) (base := base) C
  exact ⟨fd, F, fnG_of F sc__law_great fun cdv A outer s H hr hg => (b_cons (s_par2 4 5 (e_cons (j_val (j_fz (j_lend 0 (ps := P__law_pick) (ks := []) G__law_pick F__law_pick.kp (g__law_pick C) (bg__law_pick_2 F__law_pick) (fun _ => .nil) (a_cons (j_tup (a_cons j_int (a_cons j_int (a_cons (j_bin o_pow j_int j_int) a_nil)))) a_nil) k_nil (l_cons l_nil) l_nil (Nat.le_of_ble_eq_true rfl)))) (e_cons (j_val (j_fz (j_callB c_len (g_len C) (a_cons (j_var 1) a_nil)))) e_nil)) (hN := by exact fun _ => sc__law_great.nd)) (b_cons (s_asg (j_fz (j_callT c_tuple (g_tuple C) (a_cons (j_fz (j_lc [("i", 6)] (i_range1 (a_cons j_int a_nil) (g_range C)) (g_name 6 (hN := by exact fun _ => sc__law_great.nd)) ts_nil (j_tup (a_cons (j_var 6) (a_cons (j_tup (a_cons (j_fz (j_lend 0 (ps := P__law_draw) (ks := []) (by exact G__law_draw) (by exact F__law_draw.kp) (by exact (g__law_draw C)) (by exact bg__law_draw_2 F__law_draw) (fun _ => .nil) (a_cons j_int a_nil) k_nil (l_cons l_nil) l_nil (Nat.le_of_ble_eq_true rfl))) a_nil)) a_nil))) (fun _ => blkOk_by (N := N__law_great) (sc := defScope s__law_great) (by decide +kernel)) (hN := by exact fun _ => sc__law_great.nd))) a_nil))) (g_name 2 (hN := by exact fun _ => sc__law_great.nd))) (b_cons (s_asg (j_fz (j_lst (a_cons (j_tup (a_cons (j_bin o_add (j_tup (a_cons (j_var 4) a_nil)) (j_var 1)) (a_cons (j_tup a_nil) a_nil))) (a_cons (j_tup (a_cons (j_bin o_add (j_var 1) (j_tup (a_cons (j_var 4) a_nil))) (a_cons (j_tup (a_cons (j_tup (a_cons (j_tup (a_cons (j_var 5) (a_cons (j_tup (a_cons j_int (a_cons (j_bin o_sub (j_var 4) j_int) a_nil))) a_nil))) a_nil)) a_nil)) a_nil))) (a_cons (j_tup (a_cons (j_bin o_add (j_var 1) (j_tup (a_cons (j_var 4) a_nil))) (a_cons (j_tup (a_cons (j_tup (a_cons (j_tup (a_cons (j_var 5) (a_cons (j_tup (a_cons j_int (a_cons (j_var 4) a_nil))) a_nil))) a_nil)) a_nil)) a_nil))) a_nil))))) (g_name 3 (hN := by exact fun _ => sc__law_great.nd))) (b_one (s_ret (j_lend 0 (ps := P__law_pick) (ks := []) G__law_pick F__law_pick.kp (g__law_pick C) (bg__law_pick_2 F__law_pick) (fun _ => .nil) (a_cons (j_bin o_add (j_var 3) (j_fz (j_lst (a_cons (j_tup (a_cons (j_bin o_add (j_bin o_mul (j_tup (a_cons j_int a_nil)) j_int) (j_var 1)) (a_cons (j_tup (a_cons (j_var 2) a_nil)) a_nil))) (a_cons (j_tup (a_cons (j_bin o_add (j_bin o_add (j_bin o_mul (j_tup (a_cons j_int a_nil)) j_int) (j_tup (a_cons j_int a_nil))) (j_var 1)) (a_cons (j_tup (a_cons (j_var 2) a_nil)) a_nil))) (a_cons (j_tup (a_cons (j_bin o_mul (j_tup (a_cons j_int a_nil)) j_int) (a_cons (j_tup (a_cons (j_tup (a_cons (j_tup (a_cons j_int (a_cons (j_tup (a_cons j_int a_nil)) a_nil))) a_nil)) a_nil)) a_nil))) a_nil)))))) a_nil) k_nil (l_cons l_nil) l_nil (Nat.le_of_ble_eq_true rfl)))))))⟩
def mb_is_term_1 : MS := (mIf (mTOr (mTNot (mTest (mFz (mCall mf_is_row [0, 1] [] (mCons (mVar 1) (mCons (mC (.int 2)) mNil)) mNil)))) (mTNot (mTest (mFz (mCall mf_is_between [0, 1, 2] [] (mCons (mBin gIx (mVar 1) (mC (.int 0))) (mCons (mC (.int 0)) (mCons (mBin gSub (mFz (mCB gLen (mCons (mVar 0) mNil))) (mC (.int 1))) mNil))) mNil))))) (mRet (mVal (mC (.bool false)))) mNx)
def mb_is_term : MS := (mSeq mb_is_term_1 (mSeq (mAsg (mBin gIx (mVar 0) (mBin gIx (mVar 1) (mC (.int 0)))) (mN 2)) (mRet (mVal (mAnd (mFz (mCall mf_are_between [0, 1, 2] [] (mCons (mBin gIx (mVar 1) (mC (.int 1))) (mCons (mC (.int 0)) (mCons (mBin gSub (mVar 2) (mC (.int 1))) mNil))) mNil)) (mAnd (mFz (mCall mf_is_rising [0] [] (mCons (mBin gIx (mVar 1) (mC (.int 1))) mNil) mNil)) (mChain gLe gLt (mC (.int 1)) (mFz (mCB gLen (mCons (mBin gIx (mVar 1) (mC (.int 1))) mNil))) (mVar 2))))))))
def mf_is_term : MF := mFn 3 mb_is_term
theorem ok_is_term (C : Cc K mg) : ∃ fd, FnP K "is_term" s_is_term (He.ga K "is_term") fd ∧ FnG P w K mg base 4 (He.ga K "is_term") fd P_is_term mf_is_term := by
  obtain ⟨fd, F⟩ := C.says.def_ 25 (d := d_is_term) rfl
  obtain ⟨fd_are_between, F_are_between, G_are_between⟩ := ok_are_between (P := P) (w := w) (base := base) C
  obtain ⟨fd_is_between, F_is_between, G_is_between⟩ := ok_is_between (P := P) (w := w) (base := base) C
  obtain ⟨fd_is_rising, F_is_rising, G_is_rising⟩ := ok_is_rising (P := P) (w := w) (base := base) C
  obtain ⟨fd_is_row, F_is_row, G_is_row⟩ := ok_is_row (P := P) (w := w) (base := base) C
  exact ⟨fd, F, fnG_of F sc_is_term fun cdv A outer s H hr hg => (b_cons (s_if ((w_or (t_not (t_val (j_fz (j_call (ps := P_is_row) (ks := []) G_is_row F_is_row.kp (g_is_row C) (bg_is_row_2 F_is_row) (fun _ => .nil) (a_cons (j_var 1) (a_cons j_int a_nil)) k_nil (l_cons (l_cons l_nil)) l_nil (Nat.le_of_ble_eq_true rfl))))) (w_or1 (t_not (t_val (j_fz (j_call (ps := P_is_between) (ks := []) G_is_between F_is_between.kp (g_is_between C) (bg_is_between_3 F_is_between) (fun _ => .nil) (a_cons (j_ix (j_var 1) j_int) (a_cons j_int (a_cons (j_bin o_sub (j_fz (j_callB c_len (g_len C) (a_cons (j_var 0) a_nil))) j_int) a_nil))) k_nil (l_cons (l_cons (l_cons l_nil))) l_nil (Nat.le_of_ble_eq_true rfl)))))))).jt (b_one (s_ret (j_val j_bool))) b_nil) (b_cons (s_asg (j_ix (j_var 0) (j_ix (j_var 1) j_int)) (g_name 2 (hN := by exact fun _ => sc_is_term.nd))) (b_one (s_ret (j_val (j_and (j_fz (j_call (ps := P_are_between) (ks := []) G_are_between F_are_between.kp (g_are_between C) (bg_are_between_3 F_are_between) (fun _ => .nil) (a_cons (j_ix (j_var 1) j_int) (a_cons j_int (a_cons (j_bin o_sub (j_var 2) j_int) a_nil))) k_nil (l_cons (l_cons (l_cons l_nil))) l_nil (Nat.le_of_ble_eq_true rfl))) (j_and (j_fz (j_call (ps := P_is_rising) (ks := []) G_is_rising F_is_rising.kp (g_is_rising C) (bg_is_rising_1 F_is_rising) (fun _ => .nil) (a_cons (j_ix (j_var 1) j_int) a_nil) k_nil (l_cons l_nil) l_nil (Nat.le_of_ble_eq_true rfl))) (j_one (j_chain o_le o_lt j_int (j_fz (j_callB c_len (g_len C) (a_cons (j_ix (j_var 1) j_int) a_nil))) (j_var 2))))))))))⟩
def lc__law_drawn_bar_1 : MO := (mLc (mEnum2 (mCons (mVar 1) mNil)) (mTupG 2 (mN1 (mN 5) (mN1 (mN 6) mN0))) (mTest (mBin gGt (mVar 6) (mC (.int 1)))) (mVar 5) [5, 6])
def lc__law_drawn_bar_2 : MO := (mLc (mIt (mFz (mSl (mVar 4) mP0 (mP1 (mVar 2))))) (mN 5) mYes (mFz (mLend 0 mf__law_term [0, 1] [] (mCons (mVar 5) (mCons (mBin gIx (mVar 1) (mVar 5)) mNil)) mNil)) [5])
def mb__law_drawn_bar : MS := (mSeq (mOwnV (mFz lc__law_drawn_bar_1) 3) (mSeq (mAsg (mFz (mCB gSorted (mCons (mFz (mSl (mFz (mLend 0 mf__law_shuffled [0] [] (mCons (mVar 3) mNil) mNil)) mP0 (mP1 (mFz (mLend 0 mf__law_pick [0] [] (mCons (mTup (mCons (mC (.int 1)) (mCons (mC (.int 2)) (mCons (mC (.int 2)) (mCons (mC (.int 3)) (mCons (mVar 2) (mCons (mC (.int 1)) (mCons (mC (.int 0)) mNil)))))))) mNil) mNil))))) mNil))) (mN 4)) (mRet (mCB gTuple (mCons (mFz lc__law_drawn_bar_2) mNil)))))
def mf__law_drawn_bar : MF := mFn 7 mb__law_drawn_bar
theorem ok__law_drawn_bar (C : Cc K mg) : ∃ fd, FnP K "_law_drawn_bar" s__law_drawn_bar (He.ga K "_law_drawn_bar") fd ∧ FnG P w K mg base 4 (He.ga K "_law_drawn_bar") fd P__law_drawn_bar mf__law_drawn_bar := by
  obtain ⟨fd, F⟩ := C.says.def_ 26 (d := d__law_drawn_bar) rfl
  obtain ⟨fd__law_pick, F__law_pick, G__law_pick⟩ := ok__law_pick (P := P) (w := w) (base := base) C
  obtain ⟨fd__law_shuffled, F__law_shuffled, G__law_shuffled⟩ := ok__law_shuffled (P := P) (w := w) (base := base) C
  obtain ⟨fd__law_term, F__law_term, G__law_term⟩ := ok__law_term (P := P) (w := w) (base := base) C
  exact ⟨fd, F, fnG_of F sc__law_drawn_bar fun cdv A outer s H hr hg => (b_cons (s_lcV 3 [("i", 5), ("size", 6)] (i_enum2 (a_cons (j_var 1) a_nil) (g_enumerate C)) (g_tup (gs_cons (g_name 5 (hN := by exact fun _ => sc__law_drawn_bar.nd)) (gs_cons (g_name 6 (hN := by exact fun _ => sc__law_drawn_bar.nd)) gs_nil))) (ts_one (t_cmp o_gt (j_var 6) j_int)) (j_var 5) (fun _ => blkOk_by (N := N__law_drawn_bar) (sc := defScope s__law_drawn_bar) (by decide +kernel)) (hN := by exact fun _ => sc__law_drawn_bar.nd)) (b_cons (s_asg (j_fz (j_callB c_sorted (g_sorted C) (a_cons (j_fz (j_sl (j_fz (j_lend 0 (ps := P__law_shuffled) (ks := []) G__law_shuffled F__law_shuffled.kp (g__law_shuffled C) (bg__law_shuffled_2 F__law_shuffled) (fun _ => .nil) (a_cons (j_var 3) a_nil) k_nil (l_cons l_nil) l_nil (Nat.le_of_ble_eq_true rfl))) p_none (p_some (j_fz (j_lend 0 (ps := P__law_pick) (ks := []) G__law_pick F__law_pick.kp (g__law_pick C) (bg__law_pick_2 F__law_pick) (fun _ => .nil) (a_cons (j_tup (a_cons j_int (a_cons j_int (a_cons j_int (a_cons j_int (a_cons (j_var 2) (a_cons j_int (a_cons j_int a_nil)))))))) a_nil) k_nil (l_cons l_nil) l_nil (Nat.le_of_ble_eq_true rfl)))))) a_nil))) (g_name 4 (hN := by exact fun _ => sc__law_drawn_bar.nd))) (b_one (s_ret (j_callT c_tuple (g_tuple C) (a_cons (j_fz (j_lc [("i", 5)] (i_any (j_fz (j_sl (j_var 4) p_none (p_some (j_var 2))))) (g_name 5 (hN := by exact fun _ => sc__law_drawn_bar.nd)) ts_nil (j_fz (j_lend 0 (ps := P__law_term) (ks := []) (by exact G__law_term) (by exact F__law_term.kp) (by exact (g__law_term C)) (by exact bg__law_term_3 F__law_term) (fun _ => .nil) (a_cons (j_var 5) (a_cons (j_ix (j_var 1) (j_var 5)) a_nil)) k_nil (l_cons (l_cons l_nil)) l_nil (Nat.le_of_ble_eq_true rfl))) (fun _ => blkOk_by (N := N__law_drawn_bar) (sc := defScope s__law_drawn_bar) (by decide +kernel)) (hN := by exact fun _ => sc__law_drawn_bar.nd))) a_nil))))))⟩
def lc_is_bar_value_1 : MO := (mLc (mIt (mVar 1)) (mN 2) mYes (mFz (mCall mf_is_term [0, 1] [] (mCons (mVar 0) (mCons (mVar 2) mNil)) mNil)) [2])
def mb_is_bar_value_2 : MS := (mIf (mTOr (mTNot (mTest (mIsi "tuple" (mVar 1)))) (mTNot (mTest (mFz (mCB gAll (mCons (mFz lc_is_bar_value_1) mNil)))))) (mRet (mVal (mC (.bool false)))) mNx)
def lc_is_bar_value_3 : MO := (mLc (mIt (mVar 1)) (mN 2) mYes (mBin gIx (mVar 2) (mC (.int 0))) [2])
def mb_is_bar_value : MS := (mSeq mb_is_bar_value_2 (mRet (mCall mf_is_rising [0] [] (mCons (mFz lc_is_bar_value_3) mNil) mNil)))
def mf_is_bar_value : MF := mFn 3 mb_is_bar_value
theorem ok_is_bar_value (C : Cc K mg) : ∃ fd, FnP K "is_bar_value" s_is_bar_value (He.ga K "is_bar_value") fd ∧ FnG P w K mg base 5 (He.ga K "is_bar_value") fd P_is_bar_value mf_is_bar_value := by
  obtain ⟨fd, F⟩ := C.says.def_ 27 (d := d_is_bar_value) rfl
  obtain ⟨fd_is_rising, F_is_rising, G_is_rising⟩ := ok_is_rising (P := P) (w := w) (base := base) C
  obtain ⟨fd_is_term, F_is_term, G_is_term⟩ := ok_is_term (P := P) (w := w) (base := base) C
  exact ⟨fd, F, fnG_of F sc_is_bar_value fun cdv A outer s H hr hg => (b_cons (s_if ((w_or (t_not (t_val (j_isi (j_var 1) (g_isinstance C) (g_tuple C)))) (w_or1 (t_not (t_val (j_fz (j_callB c_all (g_all C) (a_cons (j_fz (j_lc [("term", 2)] (i_any (j_var 1)) (g_name 2 (hN := by exact fun _ => sc_is_bar_value.nd)) ts_nil (j_fz (j_call (ps := P_is_term) (ks := []) (by exact G_is_term) (by exact F_is_term.kp) (by exact (g_is_term C)) (by exact bg_is_term_2 F_is_term) (fun _ => .nil) (a_cons (j_var 0) (a_cons (j_var 2) a_nil)) k_nil (l_cons (l_cons l_nil)) l_nil (Nat.le_of_ble_eq_true rfl))) (fun _ => blkOk_by (N := N_is_bar_value) (sc := defScope s_is_bar_value) (by decide +kernel)) (hN := by exact fun _ => sc_is_bar_value.nd))) a_nil)))))))).jt (b_one (s_ret (j_val j_bool))) b_nil) (b_one (s_ret (j_call (ps := P_is_rising) (ks := []) G_is_rising F_is_rising.kp (g_is_rising C) (bg_is_rising_1 F_is_rising) (fun _ => .nil) (a_cons (j_fz (j_lc [("term", 2)] (i_any (j_var 1)) (g_name 2 (hN := by exact fun _ => sc_is_bar_value.nd)) ts_nil (j_ix (j_var 2) j_int) (fun _ => blkOk_by (N := N_is_bar_value) (sc := defScope s_is_bar_value) (by decide +kernel)) (hN := by exact fun _ => sc_is_bar_value.nd))) a_nil) k_nil (l_cons l_nil) l_nil (Nat.le_of_ble_eq_true rfl)))))⟩
def mb__law_problem_1 : MS := (mIf (mTOr (mTest (mBin gNe (mVar 6) (mTup mNil))) (mTest (mBin gEq (mFz (mLend 0 mf__law_draw [0] [] (mCons (mC (.int 12)) mNil) mNil)) (mC (.int 0))))) (mDrop (mApp 5 (mVar 6))) mNx)
def mb__law_problem_2 : MS := (mFor (mR1 (mCons (mFz (mLend 0 mf__law_pick [0] [] (mCons (mTup (mCons (mC (.int 3)) (mCons (mC (.int 5)) (mCons (mC (.int 8)) (mCons (mC (.int 12)) (mCons (mC (.int 2)) (mCons (mC (.int 0)) (mCons (mC (.int 16)) mNil)))))))) mNil) mNil)) mNil)) (mN 3) (mSeq (mAsg (mFz (mLend 0 mf__law_drawn_bar [0, 1] [] (mCons (mVar 4) (mCons (mC (.int 4)) mNil)) mNil)) (mN 6)) mb__law_problem_1))
def mb__law_problem : MS := (mSeq (mPar [4, 5] (mE1 (mVal (mFz (mLend 0 mf__law_sizes [0, 1] [] (mCons (mVar 1) (mCons (mVar 2) mNil)) mNil))) (mE1 (mLst mNil) mE0))) (mSeq mb__law_problem_2 (mFrz 5 (mRet (mVal (mTup (mCons (mVar 4) (mCons (mFz (mCB gTuple (mCons (mVar 5) mNil))) mNil))))))))
def mf__law_problem : MF := mFn 7 mb__law_problem
theorem ok__law_problem (C : Cc K mg) : ∃ fd, FnP K "_law_problem" s__law_problem (He.ga K "_law_problem") fd ∧ FnG P w K mg base 5 (He.ga K "_law_problem") fd P__law_problem mf__law_problem := by
  obtain ⟨fd, F⟩ := C.says.def_ 28 (d := d__law_problem) rfl
  obtain ⟨fd__law_draw, F__law_draw, G__law_draw⟩ := ok__law_draw (P := P) (w := w) (base := base) C
  obtain ⟨fd__law_drawn_bar, F__law_drawn_bar, G__law_drawn_bar⟩ := ok__law_drawn_bar (P := P) (w := w) (base := base) C
  obtain ⟨fd__law_pick, F__law_pick, G__law_pick⟩ := ok__law_pick (P := P) (w := w) (base := base) C
  obtain ⟨fd__law_sizes, F__law_sizes, G__law_sizes⟩ := ok__law_sizes (P := P) (w := w) (base := base) C
  exact ⟨fd, F, fnG_of F sc__law_problem fun cdv A outer s H hr hg => (b_cons (s_par2 4 5 (e_cons (j_val (j_fz (j_lend 0 (ps := P__law_sizes) (ks := []) G__law_sizes F__law_sizes.kp (g__law_sizes C) (bg__law_sizes_3 F__law_sizes) (fun _ => .nil) (a_cons (j_var 1) (a_cons (j_var 2) a_nil)) k_nil (l_cons (l_cons l_nil)) l_nil (Nat.le_of_ble_eq_true rfl)))) (e_cons (j_lst a_nil) e_nil)) (hN := by exact fun _ => sc__law_problem.nd)) (b_cons (s_for (i_range1 (a_cons (j_fz (j_lend 0 (ps := P__law_pick) (ks := []) G__law_pick F__law_pick.kp (g__law_pick C) (bg__law_pick_2 F__law_pick) (fun _ => .nil) (a_cons (j_tup (a_cons j_int (a_cons j_int (a_cons j_int (a_cons j_int (a_cons j_int (a_cons j_int (a_cons j_int a_nil)))))))) a_nil) k_nil (l_cons l_nil) l_nil (Nat.le_of_ble_eq_true rfl))) a_nil) (g_range C)) (g_name 3 (hN := by exact fun _ => sc__law_problem.nd)) (b_cons (s_asg (j_fz (j_lend 0 (ps := P__law_drawn_bar) (ks := []) G__law_drawn_bar F__law_drawn_bar.kp (g__law_drawn_bar C) (bg__law_drawn_bar_3 F__law_drawn_bar) (fun _ => .nil) (a_cons (j_var 4) (a_cons j_int a_nil)) k_nil (l_cons (l_cons l_nil)) l_nil (Nat.le_of_ble_eq_true rfl))) (g_name 6 (hN := by exact fun _ => sc__law_problem.nd))) (b_one (s_if ((w_or (t_cmp o_ne (j_var 6) (j_tup a_nil)) (w_or1 (t_cmp o_eq (j_fz (j_lend 0 (ps := P__law_draw) (ks := []) G__law_draw F__law_draw.kp (g__law_draw C) (bg__law_draw_2 F__law_draw) (fun _ => .nil) (a_cons j_int a_nil) k_nil (l_cons l_nil) l_nil (Nat.le_of_ble_eq_true rfl))) j_int)))).jt (b_one (s_expr (j_app 5 (j_var 6)))) b_nil)))) (b_frz 5 (b_one (s_ret (j_val (j_tup (a_cons (j_var 4) (a_cons (j_fz (j_callT c_tuple (g_tuple C) (a_cons (j_var 5) a_nil))) a_nil)))))))))⟩
def mb_is_problem_value_1 : MS := (mIf (mTOr (mTNot (mTest (mFz (mCall mf_is_row [0, 1] [] (mCons (mVar 0) (mCons (mC (.int 2)) mNil)) mNil)))) (mTOr (mTNot (mTest (mFz (mCall mf_are_sizes [0] [] (mCons (mBin gIx (mVar 0) (mC (.int 0))) mNil) mNil)))) (mTNot (mTest (mIsi "tuple" (mBin gIx (mVar 0) (mC (.int 1)))))))) (mRet (mVal (mC (.bool false)))) mNx)
def lc_is_problem_value_2 : MO := (mLc (mIt (mBin gIx (mVar 0) (mC (.int 1)))) (mN 1) mYes (mFz (mCall mf_is_bar_value [0, 1] [] (mCons (mBin gIx (mVar 0) (mC (.int 0))) (mCons (mVar 1) mNil)) mNil)) [1])
def mb_is_problem_value : MS := (mSeq mb_is_problem_value_1 (mRet (mCB gAll (mCons (mFz lc_is_problem_value_2) mNil))))
def mf_is_problem_value : MF := mFn 2 mb_is_problem_value
theorem ok_is_problem_value (C : Cc K mg) : ∃ fd, FnP K "is_problem_value" s_is_problem_value (He.ga K "is_problem_value") fd ∧ FnG P w K mg base 6 (He.ga K "is_problem_value") fd P_is_problem_value mf_is_problem_value := by
  obtain ⟨fd, F⟩ := C.says.def_ 29 (d := d_is_problem_value) rfl
  obtain ⟨fd_are_sizes, F_are_sizes, G_are_sizes⟩ := ok_are_sizes (P := P) (w := w) (base := base) C
  obtain ⟨fd_is_bar_value, F_is_bar_value, G_is_bar_value⟩ := ok_is_bar_value (P := P) (w := w) (base := base) C
  obtain ⟨fd_is_row, F_is_row, G_is_row⟩ := ok_is_row (P := P) (w := w) (base := base) C
  exact ⟨fd, F, fnG_of F sc_is_problem_value fun cdv A outer s H hr hg => (b_cons (s_if ((w_or (t_not (t_val (j_fz (j_call (ps := P_is_row) (ks := []) G_is_row F_is_row.kp (g_is_row C) (bg_is_row_2 F_is_row) (fun _ => .nil) (a_cons (j_var 0) (a_cons j_int a_nil)) k_nil (l_cons (l_cons l_nil)) l_nil (Nat.le_of_ble_eq_true rfl))))) (w_or (t_not (t_val (j_fz (j_call (ps := P_are_sizes) (ks := []) G_are_sizes F_are_sizes.kp (g_are_sizes C) (bg_are_sizes_1 F_are_sizes) (fun _ => .nil) (a_cons (j_ix (j_var 0) j_int) a_nil) k_nil (l_cons l_nil) l_nil (Nat.le_of_ble_eq_true rfl))))) (w_or1 (t_not (t_val (j_isi (j_ix (j_var 0) j_int) (g_isinstance C) (g_tuple C)))))))).jt (b_one (s_ret (j_val j_bool))) b_nil) (b_one (s_ret (j_callB c_all (g_all C) (a_cons (j_fz (j_lc [("bar", 1)] (i_any (j_ix (j_var 0) j_int)) (g_name 1 (hN := by exact fun _ => sc_is_problem_value.nd)) ts_nil (j_fz (j_call (ps := P_is_bar_value) (ks := []) (by exact G_is_bar_value) (by exact F_is_bar_value.kp) (by exact (g_is_bar_value C)) (by exact bg_is_bar_value_2 F_is_bar_value) (fun _ => .nil) (a_cons (j_ix (j_var 0) j_int) (a_cons (j_var 1) a_nil)) k_nil (l_cons (l_cons l_nil)) l_nil (Nat.le_of_ble_eq_true rfl))) (fun _ => blkOk_by (N := N_is_problem_value) (sc := defScope s_is_problem_value) (by decide +kernel)) (hN := by exact fun _ => sc_is_problem_value.nd))) a_nil)))))⟩
def mb_need_bar_1 : MS := (mIf (mTNot (mTest (mFz (mCall mf_is_bar_value [0, 1] [] (mCons (mBin gIx (mVar 0) (mC (.int 0))) (mCons (mVar 1) mNil)) mNil)))) mBad mNx)
def mb_need_bar : MS := mb_need_bar_1
def mf_need_bar : MF := mFn 2 mb_need_bar
theorem ok_need_bar (C : Cc K mg) : ∃ fd, FnP K "need_bar" s_need_bar (He.ga K "need_bar") fd ∧ FnG P w K mg base 6 (He.ga K "need_bar") fd P_need_bar mf_need_bar := by
  obtain ⟨fd, F⟩ := C.says.def_ 30 (d := d_need_bar) rfl
  obtain ⟨fd_is_bar_value, F_is_bar_value, G_is_bar_value⟩ := ok_is_bar_value (P := P) (w := w) (base := base) C
  exact ⟨fd, F, fnG_of F sc_need_bar fun cdv A outer s H hr hg => (b_one (s_if (t_not (t_val (j_fz (j_call (ps := P_is_bar_value) (ks := []) G_is_bar_value F_is_bar_value.kp (g_is_bar_value C) (bg_is_bar_value_2 F_is_bar_value) (fun _ => .nil) (a_cons (j_ix (j_var 0) j_int) (a_cons (j_var 1) a_nil)) k_nil (l_cons (l_cons l_nil)) l_nil (Nat.le_of_ble_eq_true rfl))))) (b_one s_never) b_nil))⟩
def mb_is_bar_1 : MS := (mIf (mTNot (mTest (mFz (mCall mf_are_sizes [0] [] (mCons (mVar 0) mNil) mNil)))) mBad mNx)
def mb_is_bar : MS := (mSeq mb_is_bar_1 (mRet (mCall mf_is_bar_value [0, 1] [] (mCons (mVar 0) (mCons (mVar 1) mNil)) mNil)))
def mf_is_bar : MF := mFn 2 mb_is_bar
theorem ok_is_bar (C : Cc K mg) : ∃ fd, FnP K "is_bar" s_is_bar (He.ga K "is_bar") fd ∧ FnG P w K mg base 6 (He.ga K "is_bar") fd P_is_bar mf_is_bar := by
  obtain ⟨fd, F⟩ := C.says.def_ 31 (d := d_is_bar) rfl
  obtain ⟨fd_are_sizes, F_are_sizes, G_are_sizes⟩ := ok_are_sizes (P := P) (w := w) (base := base) C
  obtain ⟨fd_is_bar_value, F_is_bar_value, G_is_bar_value⟩ := ok_is_bar_value (P := P) (w := w) (base := base) C
  exact ⟨fd, F, fnG_of F sc_is_bar fun cdv A outer s H hr hg => (b_cons (s_if (t_not (t_val (j_fz (j_call (ps := P_are_sizes) (ks := []) G_are_sizes F_are_sizes.kp (g_are_sizes C) (bg_are_sizes_1 F_are_sizes) (fun _ => .nil) (a_cons (j_var 0) a_nil) k_nil (l_cons l_nil) l_nil (Nat.le_of_ble_eq_true rfl))))) (b_one s_never) b_nil) (b_one (s_ret (j_call (ps := P_is_bar_value) (ks := []) G_is_bar_value F_is_bar_value.kp (g_is_bar_value C) (bg_is_bar_value_2 F_is_bar_value) (fun _ => .nil) (a_cons (j_var 0) (a_cons (j_var 1) a_nil)) k_nil (l_cons (l_cons l_nil)) l_nil (Nat.le_of_ble_eq_true rfl)))))⟩
def mb_need_problem_1 : MS := (mIf (mTNot (mTest (mFz (mCall mf_is_problem_value [0] [] (mCons (mVar 0) mNil) mNil)))) mBad mNx)
def mb_need_problem : MS := mb_need_problem_1
def mf_need_problem : MF := mFn 1 mb_need_problem
theorem ok_need_problem (C : Cc K mg) : ∃ fd, FnP K "need_problem" s_need_problem (He.ga K "need_problem") fd ∧ FnG P w K mg base 7 (He.ga K "need_problem") fd P_need_problem mf_need_problem := by
  obtain ⟨fd, F⟩ := C.says.def_ 32 (d := d_need_problem) rfl
  obtain ⟨fd_is_problem_value, F_is_problem_value, G_is_problem_value⟩ := ok_is_problem_value (P := P) (w := w) (base := base) C
  exact ⟨fd, F, fnG_of F sc_need_problem fun cdv A outer s H hr hg => (b_one (s_if (t_not (t_val (j_fz (j_call (ps := P_is_problem_value) (ks := []) G_is_problem_value F_is_problem_value.kp (g_is_problem_value C) (bg_is_problem_value_1 F_is_problem_value) (fun _ => .nil) (a_cons (j_var 0) a_nil) k_nil (l_cons l_nil) l_nil (Nat.le_of_ble_eq_true rfl))))) (b_one s_never) b_nil))⟩
def mb_is_problem : MS := (mRet (mCall mf_is_problem_value [0] [] (mCons (mVar 0) mNil) mNil))
def mf_is_problem : MF := mFn 1 mb_is_problem
theorem ok_is_problem (C : Cc K mg) : ∃ fd, FnP K "is_problem" s_is_problem (He.ga K "is_problem") fd ∧ FnG P w K mg base 7 (He.ga K "is_problem") fd P_is_problem mf_is_problem := by
  obtain ⟨fd, F⟩ := C.says.def_ 33 (d := d_is_problem) rfl
  obtain ⟨fd_is_problem_value, F_is_problem_value, G_is_problem_value⟩ := ok_is_problem_value (P := P) (w := w) (base := base) C
  exact ⟨fd, F, fnG_of F sc_is_problem fun cdv A outer s H hr hg => (b_one (s_ret (j_call (ps := P_is_problem_value) (ks := []) G_is_problem_value F_is_problem_value.kp (g_is_problem_value C) (bg_is_problem_value_1 F_is_problem_value) (fun _ => .nil) (a_cons (j_var 0) a_nil) k_nil (l_cons l_nil) l_nil (Nat.le_of_ble_eq_true rfl))))⟩
def mb_is_choice_of : MS := (mSeq (mDrop (mCall mf_need_problem [0] [] (mCons (mVar 0) mNil) mNil)) (mRet (mCall mf_is_choice_value [0, 1] [] (mCons (mBin gIx (mVar 0) (mC (.int 0))) (mCons (mVar 1) mNil)) mNil)))
def mf_is_choice_of : MF := mFn 2 mb_is_choice_of
theorem ok_is_choice_of (C : Cc K mg) : ∃ fd, FnP K "is_choice_of" s_is_choice_of (He.ga K "is_choice_of") fd ∧ FnG P w K mg base 8 (He.ga K "is_choice_of") fd P_is_choice_of mf_is_choice_of := by
  obtain ⟨fd, F⟩ := C.says.def_ 34 (d := d_is_choice_of) rfl
  obtain ⟨fd_is_choice_value, F_is_choice_value, G_is_choice_value⟩ := ok_is_choice_value (P := P) (w := w) (base := base) C
  obtain ⟨fd_need_problem, F_need_problem, G_need_problem⟩ := ok_need_problem (P := P) (w := w) (base := base) C
  exact ⟨fd, F, fnG_of F sc_is_choice_of fun cdv A outer s H hr hg => (b_cons (s_expr (j_call (ps := P_need_problem) (ks := []) G_need_problem F_need_problem.kp (g_need_problem C) (bg_need_problem_1 F_need_problem) (fun _ => .nil) (a_cons (j_var 0) a_nil) k_nil (l_cons l_nil) l_nil (Nat.le_of_ble_eq_true rfl))) (b_one (s_ret (j_call (ps := P_is_choice_value) (ks := []) G_is_choice_value F_is_choice_value.kp (g_is_choice_value C) (bg_is_choice_value_2 F_is_choice_value) (fun _ => .nil) (a_cons (j_ix (j_var 0) j_int) (a_cons (j_var 1) a_nil)) k_nil (l_cons (l_cons l_nil)) l_nil (Nat.le_of_ble_eq_true rfl)))))⟩
def mb_need_choice_1 : MS := (mIf (mTNot (mTest (mFz (mCall mf_is_choice_value [0, 1] [] (mCons (mBin gIx (mVar 0) (mC (.int 0))) (mCons (mVar 1) mNil)) mNil)))) mBad mNx)
def mb_need_choice : MS := (mSeq (mDrop (mCall mf_need_problem [0] [] (mCons (mVar 0) mNil) mNil)) mb_need_choice_1)
def mf_need_choice : MF := mFn 2 mb_need_choice
theorem ok_need_choice (C : Cc K mg) : ∃ fd, FnP K "need_choice" s_need_choice (He.ga K "need_choice") fd ∧ FnG P w K mg base 8 (He.ga K "need_choice") fd P_need_choice mf_need_choice := by
  obtain ⟨fd, F⟩ := C.says.def_ 35 (d := d_need_choice) rfl
  obtain ⟨fd_is_choice_value, F_is_choice_value, G_is_choice_value⟩ := ok_is_choice_value (P := P) (w := w) (base := base) C
  obtain ⟨fd_need_problem, F_need_problem, G_need_problem⟩ := ok_need_problem (P := P) (w := w) (base := base) C
  exact ⟨fd, F, fnG_of F sc_need_choice fun cdv A outer s H hr hg => (b_cons (s_expr (j_call (ps := P_need_problem) (ks := []) G_need_problem F_need_problem.kp (g_need_problem C) (bg_need_problem_1 F_need_problem) (fun _ => .nil) (a_cons (j_var 0) a_nil) k_nil (l_cons l_nil) l_nil (Nat.le_of_ble_eq_true rfl))) (b_one (s_if (t_not (t_val (j_fz (j_call (ps := P_is_choice_value) (ks := []) G_is_choice_value F_is_choice_value.kp (g_is_choice_value C) (bg_is_choice_value_2 F_is_choice_value) (fun _ => .nil) (a_cons (j_ix (j_var 0) j_int) (a_cons (j_var 1) a_nil)) k_nil (l_cons (l_cons l_nil)) l_nil (Nat.le_of_ble_eq_true rfl))))) (b_one s_never) b_nil)))⟩
def mb_does_meet : MS := (mSeq (mDrop (mCall mf_need_choice [0, 1] [] (mCons (mVar 0) (mCons (mVar 1) mNil)) mNil)) (mSeq (mDrop (mCall mf_need_bar [0, 1] [] (mCons (mVar 0) (mCons (mVar 2) mNil)) mNil)) (mRet (mCall mf_meets [0, 1] [] (mCons (mVar 1) (mCons (mVar 2) mNil)) mNil))))
def mf_does_meet : MF := mFn 3 mb_does_meet
theorem ok_does_meet (C : Cc K mg) : ∃ fd, FnP K "does_meet" s_does_meet (He.ga K "does_meet") fd ∧ FnG P w K mg base 9 (He.ga K "does_meet") fd P_does_meet mf_does_meet := by
  obtain ⟨fd, F⟩ := C.says.def_ 36 (d := d_does_meet) rfl
  obtain ⟨fd_meets, F_meets, G_meets⟩ := ok_meets (P := P) (w := w) (base := base) C
  obtain ⟨fd_need_bar, F_need_bar, G_need_bar⟩ := ok_need_bar (P := P) (w := w) (base := base) C
  obtain ⟨fd_need_choice, F_need_choice, G_need_choice⟩ := ok_need_choice (P := P) (w := w) (base := base) C
  exact ⟨fd, F, fnG_of F sc_does_meet fun cdv A outer s H hr hg => (b_cons (s_expr (j_call (ps := P_need_choice) (ks := []) G_need_choice F_need_choice.kp (g_need_choice C) (bg_need_choice_2 F_need_choice) (fun _ => .nil) (a_cons (j_var 0) (a_cons (j_var 1) a_nil)) k_nil (l_cons (l_cons l_nil)) l_nil (Nat.le_of_ble_eq_true rfl))) (b_cons (s_expr (j_call (ps := P_need_bar) (ks := []) G_need_bar F_need_bar.kp (g_need_bar C) (bg_need_bar_2 F_need_bar) (fun _ => .nil) (a_cons (j_var 0) (a_cons (j_var 2) a_nil)) k_nil (l_cons (l_cons l_nil)) l_nil (Nat.le_of_ble_eq_true rfl))) (b_one (s_ret (j_call (ps := P_meets) (ks := []) G_meets F_meets.kp (g_meets C) (bg_meets_2 F_meets) (fun _ => .nil) (a_cons (j_var 1) (a_cons (j_var 2) a_nil)) k_nil (l_cons (l_cons l_nil)) l_nil (Nat.le_of_ble_eq_true rfl))))))⟩
def mb_is_right_choice : MS := (mSeq (mDrop (mCall mf_need_choice [0, 1] [] (mCons (mVar 0) (mCons (mVar 1) mNil)) mNil)) (mRet (mCall mf_is_right_value [0, 1] [] (mCons (mVar 0) (mCons (mVar 1) mNil)) mNil)))
def mf_is_right_choice : MF := mFn 2 mb_is_right_choice
theorem ok_is_right_choice (C : Cc K mg) : ∃ fd, FnP K "is_right_choice" s_is_right_choice (He.ga K "is_right_choice") fd ∧ FnG P w K mg base 9 (He.ga K "is_right_choice") fd P_is_right_choice mf_is_right_choice := by
  obtain ⟨fd, F⟩ := C.says.def_ 37 (d := d_is_right_choice) rfl
  obtain ⟨fd_is_right_value, F_is_right_value, G_is_right_value⟩ := ok_is_right_value (P := P) (w := w) (base := base) C
  obtain ⟨fd_need_choice, F_need_choice, G_need_choice⟩ := ok_need_choice (P := P) (w := w) (base := base) C
  exact ⟨fd, F, fnG_of F sc_is_right_choice fun cdv A outer s H hr hg => (b_cons (s_expr (j_call (ps := P_need_choice) (ks := []) G_need_choice F_need_choice.kp (g_need_choice C) (bg_need_choice_2 F_need_choice) (fun _ => .nil) (a_cons (j_var 0) (a_cons (j_var 1) a_nil)) k_nil (l_cons (l_cons l_nil)) l_nil (Nat.le_of_ble_eq_true rfl))) (b_one (s_ret (j_call (ps := P_is_right_value) (ks := []) G_is_right_value F_is_right_value.kp (g_is_right_value C) (bg_is_right_value_2 F_is_right_value) (fun _ => .nil) (a_cons (j_var 0) (a_cons (j_var 1) a_nil)) k_nil (l_cons (l_cons l_nil)) l_nil (Nat.le_of_ble_eq_true rfl)))))⟩
def mb__law_same_1 (r : MF) : MS := (mIf (mTOr (mTNot (mTest (mIsi2 "tuple" "list" (mVar 0)))) (mTOr (mTest (mBin gNe (mIsi "tuple" (mVar 0)) (mIsi "tuple" (mVar 1)))) (mTest (mBin gNe (mFz (mCB gLen (mCons (mVar 0) mNil))) (mFz (mCB gLen (mCons (mVar 1) mNil))))))) (mRet (mVal (mC (.bool false)))) mNx)
def lc__law_same_2 (r : MF) : MO := (mLc (mZip (mCons (mVar 0) (mCons (mVar 1) mNil))) (mTupG 2 (mN1 (mN 2) (mN1 (mN 3) mN0))) (mTNot (mTest (mFz (mCall r [0, 1] [] (mCons (mVar 2) (mCons (mVar 3) mNil)) mNil)))) (mC (.int 1)) [2, 3])
def mb__law_same_3 (r : MF) : MS := (mIf (mTest (mIsi2 "tuple" "list" (mVar 1))) (mSeq (mb__law_same_1 r) (mRet (mVal (mBin gEqN (mFz (lc__law_same_2 r)) (mFz (mLst mNil)))))) mNx)
def mb__law_same_4 (r : MF) : MS := (mIf (mTest (mBin gIs (mVar 1) (mC .none))) (mRet (mVal (mBin gIs (mVar 0) (mC .none)))) mNx)
def mb__law_same_5 (r : MF) : MS := (mIf (mTOr (mTest (mBin gIs (mVar 1) (mC (.bool true)))) (mTest (mBin gIs (mVar 1) (mC (.bool false))))) (mRet (mVal (mAnd (mIsi "bool" (mVar 0)) (mBin gEq (mVar 0) (mVar 1))))) mNx)
def mb__law_same_6 (r : MF) : MS := (mIf (mTest (mIsi "dict" (mVar 1))) (mRet (mVal (mAnd (mIsi "dict" (mVar 0)) (mAnd (mBin gEq (mFz (mCB gLen (mCons (mVar 0) mNil))) (mC (.int 0))) (mBin gEq (mFz (mCB gLen (mCons (mVar 1) mNil))) (mC (.int 0))))))) mNx)
def mb__law_same_7 (r : MF) : MS := (mIf (mTest (mIsi "str" (mVar 1))) (mRet (mVal (mAnd (mIsi "str" (mVar 0)) (mBin gEq (mVar 0) (mVar 1))))) mNx)
def mb__law_same (r : MF) : MS := (mSeq (mb__law_same_3 r) (mSeq (mb__law_same_4 r) (mSeq (mb__law_same_5 r) (mSeq (mb__law_same_6 r) (mSeq (mb__law_same_7 r) (mRet (mVal (mAnd (mIsi "int" (mVar 0)) (mAnd (mNot (mIsi "bool" (mVar 0))) (mBin gEq (mVar 0) (mVar 1)))))))))))
def mf__law_same : Nat → MF
  | 0 => fun _ => none
  | n + 1 => mFn 4 (mb__law_same (mf__law_same n))
theorem ok__law_same (C : Cc K mg) (n : Nat) : ∃ fd, FnP K "_law_same" s__law_same (He.ga K "_law_same") fd ∧ FnG P w K mg base (1 + n) (He.ga K "_law_same") fd P__law_same (mf__law_same n) := by
  obtain ⟨fd, F⟩ := C.says.def_ 38 (d := d__law_same) rfl
  refine ⟨fd, F, ?_⟩
  induction n with
  | zero => exact FnG.never
  | succ n G_r => exact fnG_of F sc__law_same fun cdv A outer s H hr hg => (b_cons (s_if (t_val (j_isi2 (j_var 1) (g_isinstance C) (g_tuple C) (g_list C))) (b_cons (s_if ((w_or (t_not (t_val (j_isi2 (j_var 0) (g_isinstance C) (g_tuple C) (g_list C)))) (w_or (t_cmp o_ne (j_isi (j_var 0) (g_isinstance C) (g_tuple C)) (j_isi (j_var 1) (g_isinstance C) (g_tuple C))) (w_or1 (t_cmp o_ne (j_fz (j_callB c_len (g_len C) (a_cons (j_var 0) a_nil))) (j_fz (j_callB c_len (g_len C) (a_cons (j_var 1) a_nil)))))))).jt (b_one (s_ret (j_val j_bool))) b_nil) (b_one (s_ret (j_val (j_cmp o_eqN (j_fz (j_lc [("a", 2), ("b", 3)] (i_zip (a_cons (j_var 0) (a_cons (j_var 1) a_nil)) (g_zip C)) (g_tup (gs_cons (g_name 2 (hN := by exact fun _ => sc__law_same.nd)) (gs_cons (g_name 3 (hN := by exact fun _ => sc__law_same.nd)) gs_nil))) (ts_one (t_not (t_val (j_fz (j_call (ps := P__law_same) (ks := []) (by exact G_r) (by exact F.kp) (by exact (g__law_same C)) (by exact bg__law_same_2 F) (fun _ => .nil) (a_cons (j_var 2) (a_cons (j_var 3) a_nil)) k_nil (l_cons (l_cons l_nil)) l_nil (Nat.le_refl _)))))) j_int (fun _ => blkOk_by (N := N__law_same) (sc := defScope s__law_same) (by decide +kernel)) (hN := by exact fun _ => sc__law_same.nd))) (j_fz (j_lst a_nil))))))) b_nil) (b_cons (s_if (t_cmp o_is (j_var 1) j_none) (b_one (s_ret (j_val (j_cmp o_is (j_var 0) j_none)))) b_nil) (b_cons (s_if ((w_or (t_cmp o_is (j_var 1) j_bool) (w_or1 (t_cmp o_is (j_var 1) j_bool)))).jt (b_one (s_ret (j_val (j_and (j_isi (j_var 0) (g_isinstance C) (g_bool C)) (j_one (j_cmp o_eq (j_var 0) (j_var 1))))))) b_nil) (b_cons (s_if (t_val (j_isi (j_var 1) (g_isinstance C) (g_dict C))) (b_one (s_ret (j_val (j_and (j_isi (j_var 0) (g_isinstance C) (g_dict C)) (j_and (j_cmp o_eq (j_fz (j_callB c_len (g_len C) (a_cons (j_var 0) a_nil))) j_int) (j_one (j_cmp o_eq (j_fz (j_callB c_len (g_len C) (a_cons (j_var 1) a_nil))) j_int))))))) b_nil) (b_cons (s_if (t_val (j_isi (j_var 1) (g_isinstance C) (g_str C))) (b_one (s_ret (j_val (j_and (j_isi (j_var 0) (g_isinstance C) (g_str C)) (j_one (j_cmp o_eq (j_var 0) (j_var 1))))))) b_nil) (b_one (s_ret (j_val (j_and (j_isi (j_var 0) (g_isinstance C) (g_int C)) (j_and (j_not (j_isi (j_var 0) (g_isinstance C) (g_bool C))) (j_one (j_cmp o_eq (j_var 0) (j_var 1)))))))))))))
def lc__law_are_meetings_1 : MO := (mLc (mIt (mBin gIx (mVar 2) (mC (.int 1)))) (mN 9) (mTest (mFz (mCall mf__law_meets [0, 1] [] (mCons (mVar 6) (mCons (mVar 9) mNil)) mNil))) (mVar 9) [9])
def mb__law_are_meetings_2 : MS := (mAsg (mIf (mTest (mBin gEq (mBin gMod (mFz (mCB gInt (mCons (mVar 5) mNil))) (mC (.int 2))) (mC (.int 0)))) (mFz (mCall mf_is_right_choice [0, 1] [] (mCons (mVar 2) (mCons (mVar 6) mNil)) mNil)) (mFz (mCall mf_is_right_choice [1, 0] [] mNil (mCons (mVar 6) (mCons (mVar 2) mNil))))) (mN 8))
def mb__law_are_meetings_3 : MS := (mIf (mTNot (mTest (mFz (mCall (mf__law_same 40) [0, 1] [] (mCons (mVar 8) (mCons (mVar 7) mNil)) mNil)))) (mRet (mVal (mC (.bool false)))) mNx)
def mb__law_are_meetings_4 : MS := (mAsg (mIf (mTest (mBin gEq (mBin gMod (mFz (mCB gInt (mCons (mVar 5) mNil))) (mC (.int 2))) (mC (.int 0)))) (mFz (mCall mf_does_meet [0, 1, 2] [] (mCons (mVar 2) (mCons (mVar 6) (mCons (mVar 9) mNil))) mNil)) (mFz (mCall mf_does_meet [2, 1, 0] [] mNil (mCons (mVar 9) (mCons (mVar 6) (mCons (mVar 2) mNil)))))) (mN 8))
def mb__law_are_meetings_5 : MS := (mIf (mTNot (mTest (mFz (mCall (mf__law_same 40) [0, 1] [] (mCons (mVar 8) (mCons (mFz (mCall mf__law_meets [0, 1] [] (mCons (mVar 6) (mCons (mVar 9) mNil)) mNil)) mNil)) mNil)))) (mRet (mVal (mC (.bool false)))) mNx)
def mb__law_are_meetings_6 : MS := (mFor (mEnum2 (mCons (mBin gAdd (mVar 3) (mVar 4)) mNil)) (mTupG 2 (mN1 (mN 5) (mN1 (mN 6) mN0))) (mSeq (mAsg (mBin gEqN (mFz lc__law_are_meetings_1) (mFz (mLst mNil))) (mN 7)) (mSeq mb__law_are_meetings_2 (mSeq mb__law_are_meetings_3 (mSeq (mAsg (mFz (mLend 0 mf__law_pick [0] [] (mCons (mBin gAdd (mBin gIx (mVar 2) (mC (.int 1))) (mTup (mCons (mFz (mLend 0 mf__law_drawn_bar [0, 1] [] (mCons (mBin gIx (mVar 2) (mC (.int 0))) (mCons (mC (.int 8)) mNil)) mNil)) (mCons (mTup mNil) mNil)))) mNil) mNil)) (mN 9)) (mSeq mb__law_are_meetings_4 mb__law_are_meetings_5))))))
def mb__law_are_meetings_7 : MS := (mFor (mR1 (mCons (mC (.int 3)) mNil)) (mN 1) (mSeq (mAsg (mFz (mLend 0 mf__law_problem [0, 1] [] (mCons (mC (.int 60)) (mCons (mC (.int 8)) mNil)) mNil)) (mN 2)) (mSeq (mAsg (mFz (mSl (mFz (mLend 0 mf__law_shuffled [0] [] (mCons (mFz (mCall mf__law_all [0] [] (mCons (mBin gIx (mVar 2) (mC (.int 0))) mNil) mNil)) mNil) mNil)) mP0 (mP1 (mC (.int 12))))) (mN 3)) (mSeq (mAsg (mFz (mSl (mFz (mLend 0 mf__law_shuffled [0] [] (mCons (mFz (mCall mf__law_rights [0] [] (mCons (mVar 2) mNil) mNil)) mNil) mNil)) mP0 (mP1 (mC (.int 2))))) (mN 4)) mb__law_are_meetings_6))))
def mb__law_are_meetings : MS := (mSeq mb__law_are_meetings_7 (mRet (mVal (mC (.bool true)))))
def mf__law_are_meetings : MF := mFn 10 mb__law_are_meetings
theorem ok__law_are_meetings (C : Cc K mg) : ∃ fd, FnP K "_law_are_meetings" s__law_are_meetings (He.ga K "_law_are_meetings") fd ∧ FnG P w K mg base 42 (He.ga K "_law_are_meetings") fd P__law_are_meetings mf__law_are_meetings := by
  obtain ⟨fd, F⟩ := C.says.def_ 39 (d := d__law_are_meetings) rfl
  obtain ⟨fd__law_all, F__law_all, G__law_all⟩ := ok__law_all (P := P) (w := w) (base := base) C
  obtain ⟨fd__law_drawn_bar, F__law_drawn_bar, G__law_drawn_bar⟩ := ok__law_drawn_bar (P := P) (w := w) (base := base) C
  obtain ⟨fd__law_meets, F__law_meets, G__law_meets⟩ := ok__law_meets (P := P) (w := w) (base := base) C
  obtain ⟨fd__law_pick, F__law_pick, G__law_pick⟩ := ok__law_pick (P := P) (w := w) (base := base) C
  obtain ⟨fd__law_problem, F__law_problem, G__law_problem⟩ := ok__law_problem (P := P) (w := w) (base := base) C
  obtain ⟨fd__law_rights, F__law_rights, G__law_rights⟩ := ok__law_rights (P := P) (w := w) (base := base) C
  obtain ⟨fd__law_same, F__law_same, G__law_same⟩ := ok__law_same (P := P) (w := w) (base := base) C 40
  obtain ⟨fd__law_shuffled, F__law_shuffled, G__law_shuffled⟩ := ok__law_shuffled (P := P) (w := w) (base := base) C
  obtain ⟨fd_does_meet, F_does_meet, G_does_meet⟩ := ok_does_meet (P := P) (w := w) (base := base) C
  obtain ⟨fd_is_right_choice, F_is_right_choice, G_is_right_choice⟩ := ok_is_right_choice (P := P) (w := w) (base := base) C
  exact ⟨fd, F, fnG_of F sc__law_are_meetings fun cdv A outer s H hr hg => (b_cons (s_for (i_range1 (a_cons j_int a_nil) (g_range C)) (g_name 1 (hN := by exact fun _ => sc__law_are_meetings.nd)) (b_cons (s_asg (j_fz (j_lend 0 (ps := P__law_problem) (ks := []) G__law_problem F__law_problem.kp (g__law_problem C) (bg__law_problem_3 F__law_problem) (fun _ => .nil) (a_cons j_int (a_cons j_int a_nil)) k_nil (l_cons (l_cons l_nil)) l_nil (Nat.le_of_ble_eq_true rfl))) (g_name 2 (hN := by exact fun _ => sc__law_are_meetings.nd))) (b_cons (s_asg (j_fz (j_sl (j_fz (j_lend 0 (ps := P__law_shuffled) (ks := []) G__law_shuffled F__law_shuffled.kp (g__law_shuffled C) (bg__law_shuffled_2 F__law_shuffled) (fun _ => .nil) (a_cons (j_fz (j_call (ps := P__law_all) (ks := []) G__law_all F__law_all.kp (g__law_all C) (bg__law_all_1 F__law_all) (fun _ => .nil) (a_cons (j_ix (j_var 2) j_int) a_nil) k_nil (l_cons l_nil) l_nil (Nat.le_of_ble_eq_true rfl))) a_nil) k_nil (l_cons l_nil) l_nil (Nat.le_of_ble_eq_true rfl))) p_none (p_some j_int))) (g_name 3 (hN := by exact fun _ => sc__law_are_meetings.nd))) (b_cons (s_asg (j_fz (j_sl (j_fz (j_lend 0 (ps := P__law_shuffled) (ks := []) G__law_shuffled F__law_shuffled.kp (g__law_shuffled C) (bg__law_shuffled_2 F__law_shuffled) (fun _ => .nil) (a_cons (j_fz (j_call (ps := P__law_rights) (ks := []) G__law_rights F__law_rights.kp (g__law_rights C) (bg__law_rights_1 F__law_rights) (fun _ => .nil) (a_cons (j_var 2) a_nil) k_nil (l_cons l_nil) l_nil (Nat.le_of_ble_eq_true rfl))) a_nil) k_nil (l_cons l_nil) l_nil (Nat.le_of_ble_eq_true rfl))) p_none (p_some j_int))) (g_name 4 (hN := by exact fun _ => sc__law_are_meetings.nd))) (b_one (s_for (i_enum2 (a_cons (j_bin o_add (j_var 3) (j_var 4)) a_nil) (g_enumerate C)) (g_tup (gs_cons (g_name 5 (hN := by exact fun _ => sc__law_are_meetings.nd)) (gs_cons (g_name 6 (hN := by exact fun _ => sc__law_are_meetings.nd)) gs_nil))) (b_cons (s_asg (j_cmp o_eqN (j_fz (j_lc [("bar", 9)] (i_any (j_ix (j_var 2) j_int)) (g_name 9 (hN := by exact fun _ => sc__law_are_meetings.nd)) (ts_one (t_val (j_fz (j_call (ps := P__law_meets) (ks := []) (by exact G__law_meets) (by exact F__law_meets.kp) (by exact (g__law_meets C)) (by exact bg__law_meets_2 F__law_meets) (fun _ => .nil) (a_cons (j_var 6) (a_cons (j_var 9) a_nil)) k_nil (l_cons (l_cons l_nil)) l_nil (Nat.le_of_ble_eq_true rfl))))) (j_var 9) (fun _ => blkOk_by (N := N__law_are_meetings) (sc := defScope s__law_are_meetings) (by decide +kernel)) (hN := by exact fun _ => sc__law_are_meetings.nd))) (j_fz (j_lst a_nil))) (g_name 7 (hN := by exact fun _ => sc__law_are_meetings.nd))) (b_cons (s_asg (j_if (t_cmp o_eq (j_bin o_mod (j_fz (j_callT c_int (g_int C) (a_cons (j_var 5) a_nil))) j_int) j_int) (j_fz (j_call (ps := P_is_right_choice) (ks := []) G_is_right_choice F_is_right_choice.kp (g_is_right_choice C) (bg_is_right_choice_2 F_is_right_choice) (fun _ => .nil) (a_cons (j_var 2) (a_cons (j_var 6) a_nil)) k_nil (l_cons (l_cons l_nil)) l_nil (Nat.le_of_ble_eq_true rfl))) (j_fz (j_call0 (ps := P_is_right_choice) (ks := ["choice", "problem"]) G_is_right_choice F_is_right_choice.kp (g_is_right_choice C) (bg_is_right_choice_0_choice_problem F_is_right_choice) (fun _ => .nil) (k_cons (j_var 6) (k_cons (j_var 2) k_nil)) (l_cons (l_cons l_nil)) (Nat.le_of_ble_eq_true rfl)))) (g_name 8 (hN := by exact fun _ => sc__law_are_meetings.nd))) (b_cons (s_if (t_not (t_val (j_fz (j_call (ps := P__law_same) (ks := []) G__law_same F__law_same.kp (g__law_same C) (bg__law_same_2 F__law_same) (fun _ => .nil) (a_cons (j_var 8) (a_cons (j_var 7) a_nil)) k_nil (l_cons (l_cons l_nil)) l_nil (Nat.le_of_ble_eq_true rfl))))) (b_one (s_ret (j_val j_bool))) b_nil) (b_cons (s_asg (j_fz (j_lend 0 (ps := P__law_pick) (ks := []) G__law_pick F__law_pick.kp (g__law_pick C) (bg__law_pick_2 F__law_pick) (fun _ => .nil) (a_cons (j_bin o_add (j_ix (j_var 2) j_int) (j_tup (a_cons (j_fz (j_lend 0 (ps := P__law_drawn_bar) (ks := []) G__law_drawn_bar F__law_drawn_bar.kp (g__law_drawn_bar C) (bg__law_drawn_bar_3 F__law_drawn_bar) (fun _ => .nil) (a_cons (j_ix (j_var 2) j_int) (a_cons j_int a_nil)) k_nil (l_cons (l_cons l_nil)) l_nil (Nat.le_of_ble_eq_true rfl))) (a_cons (j_tup a_nil) a_nil)))) a_nil) k_nil (l_cons l_nil) l_nil (Nat.le_of_ble_eq_true rfl))) (g_name 9 (hN := by exact fun _ => sc__law_are_meetings.nd))) (b_cons (s_asg (j_if (t_cmp o_eq (j_bin o_mod (j_fz (j_callT c_int (g_int C) (a_cons (j_var 5) a_nil))) j_int) j_int) (j_fz (j_call (ps := P_does_meet) (ks := []) G_does_meet F_does_meet.kp (g_does_meet C) (bg_does_meet_3 F_does_meet) (fun _ => .nil) (a_cons (j_var 2) (a_cons (j_var 6) (a_cons (j_var 9) a_nil))) k_nil (l_cons (l_cons (l_cons l_nil))) l_nil (Nat.le_of_ble_eq_true rfl))) (j_fz (j_call0 (ps := P_does_meet) (ks := ["bar", "choice", "problem"]) G_does_meet F_does_meet.kp (g_does_meet C) (bg_does_meet_0_bar_choice_problem F_does_meet) (fun _ => .nil) (k_cons (j_var 9) (k_cons (j_var 6) (k_cons (j_var 2) k_nil))) (l_cons (l_cons (l_cons l_nil))) (Nat.le_of_ble_eq_true rfl)))) (g_name 8 (hN := by exact fun _ => sc__law_are_meetings.nd))) (b_one (s_if (t_not (t_val (j_fz (j_call (ps := P__law_same) (ks := []) G__law_same F__law_same.kp (g__law_same C) (bg__law_same_2 F__law_same) (fun _ => .nil) (a_cons (j_var 8) (a_cons (j_fz (j_call (ps := P__law_meets) (ks := []) G__law_meets F__law_meets.kp (g__law_meets C) (bg__law_meets_2 F__law_meets) (fun _ => .nil) (a_cons (j_var 6) (a_cons (j_var 9) a_nil)) k_nil (l_cons (l_cons l_nil)) l_nil (Nat.le_of_ble_eq_true rfl))) a_nil)) k_nil (l_cons (l_cons l_nil)) l_nil (Nat.le_of_ble_eq_true rfl))))) (b_one (s_ret (j_val j_bool))) b_nil))))))))))))) (b_one (s_ret (j_val j_bool))))⟩
def mb__law_bent_1 (r : MF) : MS := (mIf (mTOr (mTNot (mTest (mIsi "tuple" (mVar 1)))) (mTOr (mTest (mBin gEq (mVar 1) (mTup mNil))) (mTest (mBin gEq (mFz (mLend 0 mf__law_draw [0] [] (mCons (mC (.int 6)) mNil) mNil)) (mC (.int 0)))))) (mRet (mLend 0 mf__law_odd [0] [] (mCons (mVar 1) mNil) mNil)) mNx)
def mb__law_bent (r : MF) : MS := (mSeq (mb__law_bent_1 r) (mSeq (mAsg (mFz (mLend 0 mf__law_draw [0] [] (mCons (mFz (mCB gLen (mCons (mVar 1) mNil))) mNil) mNil)) (mN 2)) (mRet (mVal (mBin gAdd (mBin gAdd (mFz (mSl (mVar 1) mP0 (mP1 (mVar 2)))) (mTup (mCons (mFz (mLend 0 r [0] [] (mCons (mBin gIx (mVar 1) (mVar 2)) mNil) mNil)) mNil))) (mFz (mSl (mVar 1) (mP1 (mBin gAdd (mVar 2) (mC (.int 1)))) mP0)))))))
def mf__law_bent : Nat → MF
  | 0 => fun _ => none
  | n + 1 => mFn 3 (mb__law_bent (mf__law_bent n))
theorem ok__law_bent (C : Cc K mg) (n : Nat) : ∃ fd, FnP K "_law_bent" s__law_bent (He.ga K "_law_bent") fd ∧ FnG P w K mg base (4 + n) (He.ga K "_law_bent") fd P__law_bent (mf__law_bent n) := by
  obtain ⟨fd, F⟩ := C.says.def_ 40 (d := d__law_bent) rfl
  obtain ⟨fd__law_draw, F__law_draw, G__law_draw⟩ := ok__law_draw (P := P) (w := w) (base := base) C
  obtain ⟨fd__law_odd, F__law_odd, G__law_odd⟩ := ok__law_odd (P := P) (w := w) (base := base) C
  refine ⟨fd, F, ?_⟩
  induction n with
  | zero => exact FnG.never
  | succ n G_r => exact fnG_of F sc__law_bent fun cdv A outer s H hr hg => (b_cons (s_if ((w_or (t_not (t_val (j_isi (j_var 1) (g_isinstance C) (g_tuple C)))) (w_or (t_cmp o_eq (j_var 1) (j_tup a_nil)) (w_or1 (t_cmp o_eq (j_fz (j_lend 0 (ps := P__law_draw) (ks := []) G__law_draw F__law_draw.kp (g__law_draw C) (bg__law_draw_2 F__law_draw) (fun _ => .nil) (a_cons j_int a_nil) k_nil (l_cons l_nil) l_nil (Nat.le_trans (Nat.le_of_ble_eq_true rfl : 1 ≤ 4) (Nat.le_add_right _ _)))) j_int))))).jt (b_one (s_ret (j_lend 0 (ps := P__law_odd) (ks := []) G__law_odd F__law_odd.kp (g__law_odd C) (bg__law_odd_2 F__law_odd) (fun _ => .nil) (a_cons (j_var 1) a_nil) k_nil (l_cons l_nil) l_nil (Nat.le_trans (Nat.le_of_ble_eq_true rfl : 3 ≤ 4) (Nat.le_add_right _ _))))) b_nil) (b_cons (s_asg (j_fz (j_lend 0 (ps := P__law_draw) (ks := []) G__law_draw F__law_draw.kp (g__law_draw C) (bg__law_draw_2 F__law_draw) (fun _ => .nil) (a_cons (j_fz (j_callB c_len (g_len C) (a_cons (j_var 1) a_nil))) a_nil) k_nil (l_cons l_nil) l_nil (Nat.le_trans (Nat.le_of_ble_eq_true rfl : 1 ≤ 4) (Nat.le_add_right _ _)))) (g_name 2 (hN := by exact fun _ => sc__law_bent.nd))) (b_one (s_ret (j_val (j_bin o_add (j_bin o_add (j_fz (j_sl (j_var 1) p_none (p_some (j_var 2)))) (j_tup (a_cons (j_fz (j_lend 0 (ps := P__law_bent) (ks := []) G_r F.kp (g__law_bent C) (bg__law_bent_2 F) (fun _ => .nil) (a_cons (j_ix (j_var 1) (j_var 2)) a_nil) k_nil (l_cons l_nil) l_nil (Nat.le_refl _))) a_nil))) (j_fz (j_sl (j_var 1) (p_some (j_bin o_add (j_var 2) j_int)) p_none))))))))
def mb__law_are_forms_1 : MS := (mAsg (mIf (mTest (mBin gGt (mVar 4) (mC (.int 0)))) (mFz (mLend 0 (mf__law_bent 40) [0] [] (mCons (mVar 2) mNil) mNil)) (mVar 2)) (mN 5))
def mb__law_are_forms_2 : MS := (mAsg (mIf (mTest (mBin gEq (mVar 4) (mC (.int 1)))) (mFz (mLend 0 mf__law_great [0] [] (mCons (mVar 3) mNil) mNil)) (mVar 5)) (mN 5))
def mb__law_are_forms_3 : MS := (mAsg (mIf (mTest (mBin gEq (mBin gMod (mFz (mCB gInt (mCons (mVar 4) mNil))) (mC (.int 2))) (mC (.int 0)))) (mFz (mCall mf_is_problem [0] [] (mCons (mVar 5) mNil) mNil)) (mFz (mCall mf_is_problem [0] [] mNil (mCons (mVar 5) mNil)))) (mN 6))
def mb__law_are_forms_4 : MS := (mIf (mTNot (mTest (mFz (mCall (mf__law_same 40) [0, 1] [] (mCons (mVar 6) (mCons (mFz (mCall mf__law_is_problem [0] [] (mCons (mVar 5) mNil) mNil)) mNil)) mNil)))) (mRet (mVal (mC (.bool false)))) mNx)
def mb__law_are_forms_5 : MS := (mAsg (mIf (mTest (mBin gGt (mFz (mLend 0 mf__law_draw [0] [] (mCons (mC (.int 3)) mNil) mNil)) (mC (.int 0)))) (mFz (mLend 0 (mf__law_bent 40) [0] [] (mCons (mVar 7) mNil) mNil)) (mVar 7)) (mN 7))
def mb__law_are_forms_6 : MS := (mAsg (mIf (mTest (mBin gEq (mBin gMod (mFz (mCB gInt (mCons (mVar 4) mNil))) (mC (.int 2))) (mC (.int 0)))) (mFz (mCall mf_is_bar [0, 1] [] (mCons (mVar 3) (mCons (mVar 7) mNil)) mNil)) (mFz (mCall mf_is_bar [1, 0] [] mNil (mCons (mVar 7) (mCons (mVar 3) mNil))))) (mN 6))
def mb__law_are_forms_7 : MS := (mIf (mTNot (mTest (mFz (mCall (mf__law_same 40) [0, 1] [] (mCons (mVar 6) (mCons (mFz (mCall mf__law_is_bar [0, 1] [] (mCons (mVar 3) (mCons (mVar 7) mNil)) mNil)) mNil)) mNil)))) (mRet (mVal (mC (.bool false)))) mNx)
def lc__law_are_forms_8 : MO := (mLc (mIt (mVar 3)) (mN 9) mYes (mFz (mLend 0 mf__law_draw [0] [] (mCons (mBin gAdd (mVar 9) (mFz (mCB gInt (mCons (mBin gEq (mFz (mLend 0 mf__law_draw [0] [] (mCons (mC (.int 9)) mNil) mNil)) (mC (.int 0))) mNil)))) mNil) mNil)) [9])
def mb__law_are_forms_9 : MS := (mAsg (mIf (mTest (mBin gEq (mFz (mLend 0 mf__law_draw [0] [] (mCons (mC (.int 2)) mNil) mNil)) (mC (.int 0)))) (mFz (mLend 0 (mf__law_bent 40) [0] [] (mCons (mVar 8) mNil) mNil)) (mVar 8)) (mN 8))
def mb__law_are_forms_10 : MS := (mAsg (mIf (mTest (mBin gEq (mBin gMod (mFz (mCB gInt (mCons (mVar 4) mNil))) (mC (.int 2))) (mC (.int 0)))) (mFz (mCall mf_is_choice_of [0, 1] [] (mCons (mVar 2) (mCons (mVar 8) mNil)) mNil)) (mFz (mCall mf_is_choice_of [1, 0] [] mNil (mCons (mVar 8) (mCons (mVar 2) mNil))))) (mN 6))
def mb__law_are_forms_11 : MS := (mIf (mTNot (mTest (mFz (mCall (mf__law_same 40) [0, 1] [] (mCons (mVar 6) (mCons (mFz (mCall mf__law_is_choice [0, 1] [] (mCons (mVar 3) (mCons (mVar 8) mNil)) mNil)) mNil)) mNil)))) (mRet (mVal (mC (.bool false)))) mNx)
def mb__law_are_forms_12 : MS := (mFor (mR1 (mCons (mC (.int 4)) mNil)) (mN 4) (mSeq mb__law_are_forms_1 (mSeq mb__law_are_forms_2 (mSeq mb__law_are_forms_3 (mSeq mb__law_are_forms_4 (mSeq (mAsg (mFz (mLend 0 mf__law_drawn_bar [0, 1] [] (mCons (mVar 3) (mCons (mC (.int 6)) mNil)) mNil)) (mN 7)) (mSeq mb__law_are_forms_5 (mSeq mb__law_are_forms_6 (mSeq mb__law_are_forms_7 (mSeq (mAsg (mFz (mCB gTuple (mCons (mFz lc__law_are_forms_8) mNil))) (mN 8)) (mSeq mb__law_are_forms_9 (mSeq mb__law_are_forms_10 mb__law_are_forms_11))))))))))))
def mb__law_are_forms_13 : MS := (mFor (mR1 (mCons (mC (.int 4)) mNil)) (mN 1) (mSeq (mAsg (mFz (mLend 0 mf__law_problem [0, 1] [] (mCons (mC (.int 300)) (mCons (mC (.int 6)) mNil)) mNil)) (mN 2)) (mSeq (mAsg (mBin gIx (mVar 2) (mC (.int 0))) (mN 3)) mb__law_are_forms_12)))
def mb__law_are_forms : MS := (mSeq mb__law_are_forms_13 (mRet (mVal (mC (.bool true)))))
def mf__law_are_forms : MF := mFn 10 mb__law_are_forms
theorem ok__law_are_forms (C : Cc K mg) : ∃ fd, FnP K "_law_are_forms" s__law_are_forms (He.ga K "_law_are_forms") fd ∧ FnG P w K mg base 45 (He.ga K "_law_are_forms") fd P__law_are_forms mf__law_are_forms := by
  obtain ⟨fd, F⟩ := C.says.def_ 41 (d := d__law_are_forms) rfl
  obtain ⟨fd__law_bent, F__law_bent, G__law_bent⟩ := ok__law_bent (P := P) (w := w) (base := base) C 40
  obtain ⟨fd__law_draw, F__law_draw, G__law_draw⟩ := ok__law_draw (P := P) (w := w) (base := base) C
  obtain ⟨fd__law_drawn_bar, F__law_drawn_bar, G__law_drawn_bar⟩ := ok__law_drawn_bar (P := P) (w := w) (base := base) C
  obtain ⟨fd__law_great, F__law_great, G__law_great⟩ := ok__law_great (P := P) (w := w) (base := base) C
  obtain ⟨fd__law_is_bar, F__law_is_bar, G__law_is_bar⟩ := ok__law_is_bar (P := P) (w := w) (base := base) C
  obtain ⟨fd__law_is_choice, F__law_is_choice, G__law_is_choice⟩ := ok__law_is_choice (P := P) (w := w) (base := base) C
  obtain ⟨fd__law_is_problem, F__law_is_problem, G__law_is_problem⟩ := ok__law_is_problem (P := P) (w := w) (base := base) C
  obtain ⟨fd__law_problem, F__law_problem, G__law_problem⟩ := ok__law_problem (P := P) (w := w) (base := base) C
  obtain ⟨fd__law_same, F__law_same, G__law_same⟩ := ok__law_same (P := P) (w := w) (base := base) C 40
  obtain ⟨fd_is_bar, F_is_bar, G_is_bar⟩ := ok_is_bar (P := P) (w := w) (base := base) C
  obtain ⟨fd_is_choice_of, F_is_choice_of, G_is_choice_of⟩ := ok_is_choice_of (P := P) (w := w) (base := base) C
  obtain ⟨fd_is_problem, F_is_problem, G_is_problem⟩ := ok_is_problem (P := P) (w := w) (base := base) C
  exact ⟨fd, F, fnG_of F sc__law_are_forms fun cdv A outer s H hr hg => (b_cons (s_for (i_range1 (a_cons j_int a_nil) (g_range C)) (g_name 1 (hN := by exact fun _ => sc__law_are_forms.nd)) (b_cons (s_asg (j_fz (j_lend 0 (ps := P__law_problem) (ks := []) G__law_problem F__law_problem.kp (g__law_problem C) (bg__law_problem_3 F__law_problem) (fun _ => .nil) (a_cons j_int (a_cons j_int a_nil)) k_nil (l_cons (l_cons l_nil)) l_nil (Nat.le_of_ble_eq_true rfl))) (g_name 2 (hN := by exact fun _ => sc__law_are_forms.nd))) (b_cons (s_asg (j_ix (j_var 2) j_int) (g_name 3 (hN := by exact fun _ => sc__law_are_forms.nd))) (b_one (s_for (i_range1 (a_cons j_int a_nil) (g_range C)) (g_name 4 (hN := by exact fun _ => sc__law_are_forms.nd)) (b_cons (s_asg (j_if (t_cmp o_gt (j_var 4) j_int) (j_fz (j_lend 0 (ps := P__law_bent) (ks := []) G__law_bent F__law_bent.kp (g__law_bent C) (bg__law_bent_2 F__law_bent) (fun _ => .nil) (a_cons (j_var 2) a_nil) k_nil (l_cons l_nil) l_nil (Nat.le_of_ble_eq_true rfl))) (j_var 2)) (g_name 5 (hN := by exact fun _ => sc__law_are_forms.nd))) (b_cons (s_asg (j_if (t_cmp o_eq (j_var 4) j_int) (j_fz (j_lend 0 (ps := P__law_great) (ks := []) G__law_great F__law_great.kp (g__law_great C) (bg__law_great_2 F__law_great) (fun _ => .nil) (a_cons (j_var 3) a_nil) k_nil (l_cons l_nil) l_nil (Nat.le_of_ble_eq_true rfl))) (j_var 5)) (g_name 5 (hN := by exact fun _ => sc__law_are_forms.nd))) (b_cons (s_asg (j_if (t_cmp o_eq (j_bin o_mod (j_fz (j_callT c_int (g_int C) (a_cons (j_var 4) a_nil))) j_int) j_int) (j_fz (j_call (ps := P_is_problem) (ks := []) G_is_problem F_is_problem.kp (g_is_problem C) (bg_is_problem_1 F_is_problem) (fun _ => .nil) (a_cons (j_var 5) a_nil) k_nil (l_cons l_nil) l_nil (Nat.le_of_ble_eq_true rfl))) (j_fz (j_call0 (ps := P_is_problem) (ks := ["thing"]) G_is_problem F_is_problem.kp (g_is_problem C) (bg_is_problem_0_thing F_is_problem) (fun _ => .nil) (k_cons (j_var 5) k_nil) (l_cons l_nil) (Nat.le_of_ble_eq_true rfl)))) (g_name 6 (hN := by exact fun _ => sc__law_are_forms.nd))) (b_cons (s_if (t_not (t_val (j_fz (j_call (ps := P__law_same) (ks := []) G__law_same F__law_same.kp (g__law_same C) (bg__law_same_2 F__law_same) (fun _ => .nil) (a_cons (j_var 6) (a_cons (j_fz (j_call (ps := P__law_is_problem) (ks := []) G__law_is_problem F__law_is_problem.kp (g__law_is_problem C) (bg__law_is_problem_1 F__law_is_problem) (fun _ => .nil) (a_cons (j_var 5) a_nil) k_nil (l_cons l_nil) l_nil (Nat.le_of_ble_eq_true rfl))) a_nil)) k_nil (l_cons (l_cons l_nil)) l_nil (Nat.le_of_ble_eq_true rfl))))) (b_one (s_ret (j_val j_bool))) b_nil) (b_cons (s_asg (j_fz (j_lend 0 (ps := P__law_drawn_bar) (ks := []) G__law_drawn_bar F__law_drawn_bar.kp (g__law_drawn_bar C) (bg__law_drawn_bar_3 F__law_drawn_bar) (fun _ => .nil) (a_cons (j_var 3) (a_cons j_int a_nil)) k_nil (l_cons (l_cons l_nil)) l_nil (Nat.le_of_ble_eq_true rfl))) (g_name 7 (hN := by exact fun _ => sc__law_are_forms.nd))) (b_cons (s_asg (j_if (t_cmp o_gt (j_fz (j_lend 0 (ps := P__law_draw) (ks := []) G__law_draw F__law_draw.kp (g__law_draw C) (bg__law_draw_2 F__law_draw) (fun _ => .nil) (a_cons j_int a_nil) k_nil (l_cons l_nil) l_nil (Nat.le_of_ble_eq_true rfl))) j_int) (j_fz (j_lend 0 (ps := P__law_bent) (ks := []) G__law_bent F__law_bent.kp (g__law_bent C) (bg__law_bent_2 F__law_bent) (fun _ => .nil) (a_cons (j_var 7) a_nil) k_nil (l_cons l_nil) l_nil (Nat.le_of_ble_eq_true rfl))) (j_var 7)) (g_name 7 (hN := by exact fun _ => sc__law_are_forms.nd))) (b_cons (s_asg (j_if (t_cmp o_eq (j_bin o_mod (j_fz (j_callT c_int (g_int C) (a_cons (j_var 4) a_nil))) j_int) j_int) (j_fz (j_call (ps := P_is_bar) (ks := []) G_is_bar F_is_bar.kp (g_is_bar C) (bg_is_bar_2 F_is_bar) (fun _ => .nil) (a_cons (j_var 3) (a_cons (j_var 7) a_nil)) k_nil (l_cons (l_cons l_nil)) l_nil (Nat.le_of_ble_eq_true rfl))) (j_fz (j_call0 (ps := P_is_bar) (ks := ["thing", "sizes"]) G_is_bar F_is_bar.kp (g_is_bar C) (bg_is_bar_0_thing_sizes F_is_bar) (fun _ => .nil) (k_cons (j_var 7) (k_cons (j_var 3) k_nil)) (l_cons (l_cons l_nil)) (Nat.le_of_ble_eq_true rfl)))) (g_name 6 (hN := by exact fun _ => sc__law_are_forms.nd))) (b_cons (s_if (t_not (t_val (j_fz (j_call (ps := P__law_same) (ks := []) G__law_same F__law_same.kp (g__law_same C) (bg__law_same_2 F__law_same) (fun _ => .nil) (a_cons (j_var 6) (a_cons (j_fz (j_call (ps := P__law_is_bar) (ks := []) G__law_is_bar F__law_is_bar.kp (g__law_is_bar C) (bg__law_is_bar_2 F__law_is_bar) (fun _ => .nil) (a_cons (j_var 3) (a_cons (j_var 7) a_nil)) k_nil (l_cons (l_cons l_nil)) l_nil (Nat.le_of_ble_eq_true rfl))) a_nil)) k_nil (l_cons (l_cons l_nil)) l_nil (Nat.le_of_ble_eq_true rfl))))) (b_one (s_ret (j_val j_bool))) b_nil) (b_cons (s_asg (j_fz (j_callT c_tuple (g_tuple C) (a_cons (j_fz (j_lc [("size", 9)] (i_any (j_var 3)) (g_name 9 (hN := by exact fun _ => sc__law_are_forms.nd)) ts_nil (j_fz (j_lend 0 (ps := P__law_draw) (ks := []) (by exact G__law_draw) (by exact F__law_draw.kp) (by exact (g__law_draw C)) (by exact bg__law_draw_2 F__law_draw) (fun _ => .nil) (a_cons (j_bin o_add (j_var 9) (j_fz (j_callT c_int (g_int C) (a_cons (j_cmp o_eq (j_fz (j_lend 0 (ps := P__law_draw) (ks := []) (by exact G__law_draw) (by exact F__law_draw.kp) (by exact (g__law_draw C)) (by exact bg__law_draw_2 F__law_draw) (fun _ => .nil) (a_cons j_int a_nil) k_nil (l_cons l_nil) l_nil (Nat.le_of_ble_eq_true rfl))) j_int) a_nil)))) a_nil) k_nil (l_cons l_nil) l_nil (Nat.le_of_ble_eq_true rfl))) (fun _ => blkOk_by (N := N__law_are_forms) (sc := defScope s__law_are_forms) (by decide +kernel)) (hN := by exact fun _ => sc__law_are_forms.nd))) a_nil))) (g_name 8 (hN := by exact fun _ => sc__law_are_forms.nd))) (b_cons (s_asg (j_if (t_cmp o_eq (j_fz (j_lend 0 (ps := P__law_draw) (ks := []) G__law_draw F__law_draw.kp (g__law_draw C) (bg__law_draw_2 F__law_draw) (fun _ => .nil) (a_cons j_int a_nil) k_nil (l_cons l_nil) l_nil (Nat.le_of_ble_eq_true rfl))) j_int) (j_fz (j_lend 0 (ps := P__law_bent) (ks := []) G__law_bent F__law_bent.kp (g__law_bent C) (bg__law_bent_2 F__law_bent) (fun _ => .nil) (a_cons (j_var 8) a_nil) k_nil (l_cons l_nil) l_nil (Nat.le_of_ble_eq_true rfl))) (j_var 8)) (g_name 8 (hN := by exact fun _ => sc__law_are_forms.nd))) (b_cons (s_asg (j_if (t_cmp o_eq (j_bin o_mod (j_fz (j_callT c_int (g_int C) (a_cons (j_var 4) a_nil))) j_int) j_int) (j_fz (j_call (ps := P_is_choice_of) (ks := []) G_is_choice_of F_is_choice_of.kp (g_is_choice_of C) (bg_is_choice_of_2 F_is_choice_of) (fun _ => .nil) (a_cons (j_var 2) (a_cons (j_var 8) a_nil)) k_nil (l_cons (l_cons l_nil)) l_nil (Nat.le_of_ble_eq_true rfl))) (j_fz (j_call0 (ps := P_is_choice_of) (ks := ["thing", "problem"]) G_is_choice_of F_is_choice_of.kp (g_is_choice_of C) (bg_is_choice_of_0_thing_problem F_is_choice_of) (fun _ => .nil) (k_cons (j_var 8) (k_cons (j_var 2) k_nil)) (l_cons (l_cons l_nil)) (Nat.le_of_ble_eq_true rfl)))) (g_name 6 (hN := by exact fun _ => sc__law_are_forms.nd))) (b_one (s_if (t_not (t_val (j_fz (j_call (ps := P__law_same) (ks := []) G__law_same F__law_same.kp (g__law_same C) (bg__law_same_2 F__law_same) (fun _ => .nil) (a_cons (j_var 6) (a_cons (j_fz (j_call (ps := P__law_is_choice) (ks := []) G__law_is_choice F__law_is_choice.kp (g__law_is_choice C) (bg__law_is_choice_2 F__law_is_choice) (fun _ => .nil) (a_cons (j_var 3) (a_cons (j_var 8) a_nil)) k_nil (l_cons (l_cons l_nil)) l_nil (Nat.le_of_ble_eq_true rfl))) a_nil)) k_nil (l_cons (l_cons l_nil)) l_nil (Nat.le_of_ble_eq_true rfl))))) (b_one (s_ret (j_val j_bool))) b_nil)))))))))))))))))) (b_one (s_ret (j_val j_bool))))⟩
def mb_law : MS := (mSeq (mOwn (mScr 0 mf__law_deck) 1) (mRet (mVal (mAnd (mFz (mLend 1 mf__law_are_forms [] [] mNil mNil)) (mFz (mLend 1 mf__law_are_meetings [] [] mNil mNil))))))
def mf_law : MF := mFn 2 mb_law
theorem ok_law (C : Cc K mg) : ∃ fd, FnP K "law" s_law (He.ga K "law") fd ∧ FnG P w K mg base 46 (He.ga K "law") fd P_law mf_law := by
  obtain ⟨fd, F⟩ := C.says.def_ 42 (d := d_law) rfl
  obtain ⟨fd__law_are_forms, F__law_are_forms, G__law_are_forms⟩ := ok__law_are_forms (P := P) (w := w) (base := base) C
  obtain ⟨fd__law_are_meetings, F__law_are_meetings, G__law_are_meetings⟩ := ok__law_are_meetings (P := P) (w := w) (base := base) C
  obtain ⟨fd__law_deck, F__law_deck, G__law_deck⟩ := ok__law_deck (P := P) (w := w) (base := base) C
  exact ⟨fd, F, fnG_of F sc_law fun cdv A outer s H hr hg => (b_cons (s_own 1 (j_scr 0 G__law_deck F__law_deck.kp (g__law_deck C) (bg__law_deck_1 F__law_deck) (Nat.le_of_ble_eq_true rfl)) (hN := by exact fun _ => sc_law.nd)) (b_one (s_ret (j_val (j_and (j_fz (j_lend 1 (ps := P__law_are_forms) (ks := []) G__law_are_forms F__law_are_forms.kp (g__law_are_forms C) (bg__law_are_forms_1 F__law_are_forms) (fun _ => .nil) a_nil k_nil l_nil l_nil (Nat.le_of_ble_eq_true rfl))) (j_one (j_fz (j_lend 1 (ps := P__law_are_meetings) (ks := []) G__law_are_meetings F__law_are_meetings.kp (g__law_are_meetings C) (bg__law_are_meetings_1 F__law_are_meetings) (fun _ => .nil) a_nil k_nil l_nil l_nil (Nat.le_of_ble_eq_true rfl)))))))))⟩
end
abbrev R : PySem.W.OpenRow := PySem.W.OpenLaw.row PySem.Challenge.rw_facejudge_k36_whole_problems_bars_and_ch
abbrev hk : PySem.W.Hook := Fj.hookC 4 fa fn cs
def ob (s : PySem.W.SharedT) : Fj.AlC := Fj.obsCG 4 fa fn cs (HandSHeadRun.getT s)
theorem ob_eq (s : PySem.W.SharedT) : ob s = hk.obs s.abs := Fj.obsCG_eq (HandSHeadRun.getT_eq s)
def names : List Str := (["VersionError", "BadChoice", "BadProblem", "BadBar", "is_integer", "is_between", "are_between", "is_row", "is_rising", "are_sizes", "is_term", "is_bar_value", "is_problem_value", "need_problem", "need_bar", "is_choice_value"] : List Str) ++ (["meets", "is_right_value", "is_problem", "is_bar", "is_choice_of", "need_choice", "does_meet", "is_right_choice", "_law_deck", "_law_draw", "_law_pick", "_law_shuffled", "_law_same", "_law_sizes", "_law_term", "_law_drawn_bar"] : List Str) ++ (["_law_problem", "_law_is_number", "_law_is_bar", "_law_are_sizes", "_law_is_problem", "_law_is_choice", "_law_odd", "_law_bent", "_law_great", "_law_all", "_law_meets", "_law_rights", "_law_are_forms", "_law_are_meetings"] : List Str)
theorem run (w : World) : HandSHeadRun.RunEq R (PySem.W.view R.prog [51]) hk ob 3520 names w := by
  intro os
  kernel_rfl
theorem facts {P : Program} {w : World} {K : PySem.W.Frag} {h : Heap} {mg : Str → Option Value} {f : Addr} (X : K.In h) (G : h.Ns mainGlobals mg) (hfa : mg ("law" : Str) = some (.ref f)) (c : SaysC fa fn cs K) :
    ∃ fd : FuncData, (∀ (s : Shared) (v : Value), BindsTo s fd ⟨[v], []⟩ [("script", v)]) ∧ ∀ base : Heap, FnG P w K mg base 46 f fd ["script"] mf_law := by
  have C : Cc K mg := ⟨c, h, X, G⟩
  obtain ⟨fd, F⟩ := c.d.def_ 42 (d := d_law) rfl
  have e := hfa.symm.trans (g_law C)
  cases e
  have b := FunD.bindsA (ps := ["script"]) F fun _ _ _ _ _ _ us hl => match us, hl with | [_], _ => rfl
  refine ⟨fd, fun s v => b s [v] rfl, fun base => ?_⟩
  obtain ⟨fd2, F2, G2⟩ := ok_law (P := P) (w := w) (base := base) C
  have e : fd2 = fd := FunD.same F2 F
  subst e
  exact G2
end
end L_k36

set_option maxRecDepth 100000
set_option maxHeartbeats 0
set_option linter.all false
set_option linter.unusedSimpArgs false
namespace L_k36
open PySem PySem.Spec PyProof.Rows L2 Fj
theorem draw_ok : DrawS 1 mf__law_draw := by
  intro n l m t below hd hn hb hb2
  obtain ⟨h1, h2, h3, h4, h5⟩ := hd
  have ml : (if below > 2 then below else 2) < 2 ^ 120 ∧ 0 < (if below > 2 then below else 2) := by split <;> omega
  rcases List.eq_nil_or_concat l with rfl | ⟨l1, x, rfl⟩
  · simp (config := {maxSteps := 1000000}) only [mf__law_draw, mb__law_draw, mb__law_draw_2, mb__law_draw_1, Fj.wp0, Fj.wp1, Fj.wp2, Fj.wp3, Fj.wp4, Fj.wp5, Fj.wp6, Fj.wp7, Fj.wp8, Fj.wp9, Fj.wp10, Fj.wp11, Fj.wp12, Fj.wp13, Fj.wp14, Fj.wp15, Fj.wp16, Fj.wp17, Fj.wp18, Fj.wp19, Fj.wp20, Fj.wp21, Fj.wpz, Fj.tyN, Int.reduceEq, Int.reduceLT, Int.reduceLE, Int.reduceAdd, Int.reduceSub, Int.reduceMul, Int.reduceNeg, Int.reducePow, Int.reduceToNat, Int.reduceMod, Int.reduceDiv, Int.reduceNe, Nat.reduceEqDiff, Nat.reduceMul, borOk, dkAll, dkKept, nlD, nlAll, id, frz, freeE, outsE, pick, merE, wipeE, Nat.reduceAdd, Nat.reduceSub, Nat.reduceLeDiff, Nat.reduceLT, reduceCtorEq, if_true, if_false, eq_self, forall_const, Bool.false_and]
    repeat' first
      | exact mulCi (by omega) (by omega) (by omega) (by omega)
      | exact divCi (by omega) (by omega)
      | exact dk_end hb ⟨by omega, by omega, by omega, by omega, by simp⟩
      | omega
      | refine And.intro ?_ ?_
  · have h6 : l1.length + 1 ≤ 63 := by simpa using h5
    have e1 : (l1 ++ [x]).isEmpty = false := by simp
    simp (config := {maxSteps := 1000000}) only [mf__law_draw, mb__law_draw, mb__law_draw_2, mb__law_draw_1, List.concat_eq_append, List.getLast?_concat, List.dropLast_concat, e1, Fj.wp0, Fj.wp1, Fj.wp2, Fj.wp3, Fj.wp4, Fj.wp5, Fj.wp6, Fj.wp7, Fj.wp8, Fj.wp9, Fj.wp10, Fj.wp11, Fj.wp12, Fj.wp13, Fj.wp14, Fj.wp15, Fj.wp16, Fj.wp17, Fj.wp18, Fj.wp19, Fj.wp20, Fj.wp21, Fj.wpz, Fj.tyN, Int.reduceEq, Int.reduceLT, Int.reduceLE, Int.reduceAdd, Int.reduceSub, Int.reduceMul, Int.reduceNeg, Int.reducePow, Int.reduceToNat, Int.reduceMod, Int.reduceDiv, Int.reduceNe, Nat.reduceEqDiff, Nat.reduceMul, borOk, dkAll, dkKept, nlD, nlAll, id, frz, freeE, outsE, pick, merE, wipeE, Nat.reduceAdd, Nat.reduceSub, Nat.reduceLeDiff, Nat.reduceLT, reduceCtorEq, if_true, if_false, eq_self, forall_const, Bool.false_and]
    repeat' first
      | exact mulCi (by omega) (by omega) (by omega) (by omega)
      | exact divCi (by omega) (by omega)
      | exact divCi ml.2 ml.1
      | exact dk_end hb ⟨by omega, by omega, by omega, by omega, by first | omega | (simp; omega)⟩
      | decide
      | (refine IfB.mk (fun _ => ?_) (fun _ => ?_) <;> simp (config := {maxSteps := 1000000}) only [Fj.wp0, Fj.wp1, Fj.wp2, Fj.wp3, Fj.wp4, Fj.wp5, Fj.wp6, Fj.wp7, Fj.wp8, Fj.wp9, Fj.wp10, Fj.wp11, Fj.wp12, Fj.wp13, Fj.wp14, Fj.wp15, Fj.wp16, Fj.wp17, Fj.wp18, Fj.wp19, Fj.wp20, Fj.wp21, Fj.wpz, Fj.tyN, Int.reduceEq, Int.reduceLT, Int.reduceLE, Int.reduceAdd, Int.reduceSub, Int.reduceMul, Int.reduceNeg, Int.reducePow, Int.reduceToNat, Int.reduceMod, Int.reduceDiv, Int.reduceNe, Nat.reduceEqDiff, Nat.reduceMul, borOk, dkAll, dkKept, nlD, nlAll, id, frz, freeE, outsE, pick, merE, wipeE, Nat.reduceAdd, Nat.reduceSub, Nat.reduceLeDiff, Nat.reduceLT, reduceCtorEq, if_true, if_false, eq_self, forall_const, Bool.false_and])
      | refine And.intro ?_ ?_
      | omega
theorem pick_ok : PickS 1 mf__law_pick := by
  intro n l m t ds hd hn hne hlen
  have hl : 0 < ds.length := List.length_pos_iff.mpr hne
  simp (config := {maxSteps := 1000000}) only [mf__law_pick, mb__law_pick, Fj.wp0, Fj.wp1, Fj.wp2, Fj.wp3, Fj.wp4, Fj.wp5, Fj.wp6, Fj.wp7, Fj.wp8, Fj.wp9, Fj.wp10, Fj.wp11, Fj.wp12, Fj.wp13, Fj.wp14, Fj.wp15, Fj.wp16, Fj.wp17, Fj.wp18, Fj.wp19, Fj.wp20, Fj.wp21, Fj.wpz, Fj.tyN, Int.reduceEq, Int.reduceLT, Int.reduceLE, Int.reduceAdd, Int.reduceSub, Int.reduceMul, Int.reduceNeg, Int.reducePow, Int.reduceToNat, Int.reduceMod, Int.reduceDiv, Int.reduceNe, Nat.reduceEqDiff, Nat.reduceMul, borOk, dkAll, dkKept, nlD, nlAll, id, frz, freeE, outsE, pick, merE, wipeE, Nat.reduceAdd, Nat.reduceSub, Nat.reduceLeDiff, Nat.reduceLT, reduceCtorEq, if_true, if_false, eq_self, forall_const, Bool.false_and]
  refine (draw_ok n l m t ds.length hd hn (by omega) (by omega)).mono ?_
  rintro _ _ ⟨r, l', m', t', o, rfl, h1, h2, rfl, h3⟩
  obtain ⟨d, e, hm, _⟩ := atI_mem h1 h2
  simp (config := {maxSteps := 1000000}) only [e, Fj.wp0, Fj.wp1, Fj.wp2, Fj.wp3, Fj.wp4, Fj.wp5, Fj.wp6, Fj.wp7, Fj.wp8, Fj.wp9, Fj.wp10, Fj.wp11, Fj.wp12, Fj.wp13, Fj.wp14, Fj.wp15, Fj.wp16, Fj.wp17, Fj.wp18, Fj.wp19, Fj.wp20, Fj.wp21, Fj.wpz, Fj.tyN, Int.reduceEq, Int.reduceLT, Int.reduceLE, Int.reduceAdd, Int.reduceSub, Int.reduceMul, Int.reduceNeg, Int.reducePow, Int.reduceToNat, Int.reduceMod, Int.reduceDiv, Int.reduceNe, Nat.reduceEqDiff, Nat.reduceMul, borOk, dkAll, dkKept, nlD, nlAll, id, frz, freeE, outsE, pick, merE, wipeE, Nat.reduceAdd, Nat.reduceSub, Nat.reduceLeDiff, Nat.reduceLT, reduceCtorEq, if_true, if_false, eq_self, forall_const, Bool.false_and]
  exact ⟨d, l', m', t', [Ent.no], hm, rfl, rfl, h3⟩
def PickT (s : Nat) (f : MF) : Prop := ∀ (n : Nat) (l : List Int) (m t : Int) (ds : List PyData), DkOk n l m t → n < 2 ^ 64 → ds ≠ [] → ds.length ≤ 100000 → W (f [.own false (.deck s l m t), .val (.tuple ds)]) fun e outs => ∃ d l' m' t' o, d ∈ ds ∧ e = .val d ∧ outs = .own false (.deck s l' m' t') :: o ∧ DkOk (n + 1) l' m' t'
theorem pickT_ok : PickT 1 mf__law_pick := by
  intro n l m t ds hd hn hne hlen
  have hl : 0 < ds.length := List.length_pos_iff.mpr hne
  simp (config := {maxSteps := 1000000}) only [mf__law_pick, mb__law_pick, Fj.wp0, Fj.wp1, Fj.wp2, Fj.wp3, Fj.wp4, Fj.wp5, Fj.wp6, Fj.wp7, Fj.wp8, Fj.wp9, Fj.wp10, Fj.wp11, Fj.wp12, Fj.wp13, Fj.wp14, Fj.wp15, Fj.wp16, Fj.wp17, Fj.wp18, Fj.wp19, Fj.wp20, Fj.wp21, Fj.wpz, Fj.tyN, Int.reduceEq, Int.reduceLT, Int.reduceLE, Int.reduceAdd, Int.reduceSub, Int.reduceMul, Int.reduceNeg, Int.reducePow, Int.reduceToNat, Int.reduceMod, Int.reduceDiv, Int.reduceNe, Nat.reduceEqDiff, Nat.reduceMul, borOk, dkAll, dkKept, nlD, nlAll, id, frz, freeE, outsE, pick, merE, wipeE, Nat.reduceAdd, Nat.reduceSub, Nat.reduceLeDiff, Nat.reduceLT, reduceCtorEq, if_true, if_false, eq_self, forall_const, Bool.false_and]
  refine (draw_ok n l m t ds.length hd hn (by omega) (by omega)).mono ?_
  rintro _ _ ⟨r, l', m', t', o, rfl, h1, h2, rfl, h3⟩
  obtain ⟨d, e, hm, _⟩ := atI_mem h1 h2
  simp (config := {maxSteps := 1000000}) only [e, Fj.wp0, Fj.wp1, Fj.wp2, Fj.wp3, Fj.wp4, Fj.wp5, Fj.wp6, Fj.wp7, Fj.wp8, Fj.wp9, Fj.wp10, Fj.wp11, Fj.wp12, Fj.wp13, Fj.wp14, Fj.wp15, Fj.wp16, Fj.wp17, Fj.wp18, Fj.wp19, Fj.wp20, Fj.wp21, Fj.wpz, Fj.tyN, Int.reduceEq, Int.reduceLT, Int.reduceLE, Int.reduceAdd, Int.reduceSub, Int.reduceMul, Int.reduceNeg, Int.reducePow, Int.reduceToNat, Int.reduceMod, Int.reduceDiv, Int.reduceNe, Nat.reduceEqDiff, Nat.reduceMul, borOk, dkAll, dkKept, nlD, nlAll, id, frz, freeE, outsE, pick, merE, wipeE, Nat.reduceAdd, Nat.reduceSub, Nat.reduceLeDiff, Nat.reduceLT, reduceCtorEq, if_true, if_false, eq_self, forall_const, Bool.false_and]
  exact ⟨d, l', m', t', [Ent.no], hm, rfl, rfl, h3⟩
theorem deck_ok : DeckS 1 mf__law_deck := by
  intro ns hn
  have hl : (ns.map PyData.int).length ≤ 63 := by rw [List.length_map]; exact hn
  have hc := cut63 hl
  simp (config := {maxSteps := 1000000}) only [mf__law_deck, mb__law_deck, mb__law_deck_1, hc, Fj.wp0, Fj.wp1, Fj.wp2, Fj.wp3, Fj.wp4, Fj.wp5, Fj.wp6, Fj.wp7, Fj.wp8, Fj.wp9, Fj.wp10, Fj.wp11, Fj.wp12, Fj.wp13, Fj.wp14, Fj.wp15, Fj.wp16, Fj.wp17, Fj.wp18, Fj.wp19, Fj.wp20, Fj.wp21, Fj.wpz, Fj.tyN, Int.reduceEq, Int.reduceLT, Int.reduceLE, Int.reduceAdd, Int.reduceSub, Int.reduceMul, Int.reduceNeg, Int.reducePow, Int.reduceToNat, Int.reduceMod, Int.reduceDiv, Int.reduceNe, Nat.reduceEqDiff, Nat.reduceMul, borOk, dkAll, dkKept, nlD, nlAll, id, frz, freeE, outsE, pick, merE, wipeE, Nat.reduceAdd, Nat.reduceSub, Nat.reduceLeDiff, Nat.reduceLT, reduceCtorEq, if_true, if_false, eq_self, forall_const, Bool.false_and]
  refine w_forL (fun ds ρ => (∃ js : List Int, ds = js.map .int) ∧ ∃ m e, 0 ≤ m ∧ m < 4611686018427387904 ∧ pinE e = false ∧ ρ = [.scr ns, .val (.int m), e]) ?_ ?_ _ _ ⟨⟨ns, rfl⟩, _, _, by decide, by decide, rfl, rfl⟩
  · rintro d ds ρ ⟨⟨js, e⟩, m, e2, h1, h2, h3, rfl⟩
    cases js with
    | nil => cases e
    | cons j js =>
      cases e
      simp (config := {maxSteps := 1000000}) only [h3, Fj.wp0, Fj.wp1, Fj.wp2, Fj.wp3, Fj.wp4, Fj.wp5, Fj.wp6, Fj.wp7, Fj.wp8, Fj.wp9, Fj.wp10, Fj.wp11, Fj.wp12, Fj.wp13, Fj.wp14, Fj.wp15, Fj.wp16, Fj.wp17, Fj.wp18, Fj.wp19, Fj.wp20, Fj.wp21, Fj.wpz, Fj.tyN, Int.reduceEq, Int.reduceLT, Int.reduceLE, Int.reduceAdd, Int.reduceSub, Int.reduceMul, Int.reduceNeg, Int.reducePow, Int.reduceToNat, Int.reduceMod, Int.reduceDiv, Int.reduceNe, Nat.reduceEqDiff, Nat.reduceMul, borOk, dkAll, dkKept, nlD, nlAll, id, frz, freeE, outsE, pick, merE, wipeE, Nat.reduceAdd, Nat.reduceSub, Nat.reduceLeDiff, Nat.reduceLT, reduceCtorEq, if_true, if_false, eq_self, forall_const, Bool.false_and]
      refine ⟨mulCi (by omega) (by omega) (by omega) (by omega), ⟨js, rfl⟩, _, _, Int.emod_nonneg _ (by decide), Int.lt_of_lt_of_le (Int.emod_lt_of_pos _ (by decide)) (by decide), rfl, rfl⟩
  · rintro ρ ⟨-, m, e2, h1, h2, h3, rfl⟩
    simp (config := {maxSteps := 1000000}) only [hc, h3, lc__law_deck_2, Fj.wp0, Fj.wp1, Fj.wp2, Fj.wp3, Fj.wp4, Fj.wp5, Fj.wp6, Fj.wp7, Fj.wp8, Fj.wp9, Fj.wp10, Fj.wp11, Fj.wp12, Fj.wp13, Fj.wp14, Fj.wp15, Fj.wp16, Fj.wp17, Fj.wp18, Fj.wp19, Fj.wp20, Fj.wp21, Fj.wpz, Fj.tyN, Int.reduceEq, Int.reduceLT, Int.reduceLE, Int.reduceAdd, Int.reduceSub, Int.reduceMul, Int.reduceNeg, Int.reducePow, Int.reduceToNat, Int.reduceMod, Int.reduceDiv, Int.reduceNe, Nat.reduceEqDiff, Nat.reduceMul, borOk, dkAll, dkKept, nlD, nlAll, id, frz, freeE, outsE, pick, merE, wipeE, Nat.reduceAdd, Nat.reduceSub, Nat.reduceLeDiff, Nat.reduceLT, reduceCtorEq, if_true, if_false, eq_self, forall_const, Bool.false_and]
    refine w_lcL (fun ds acc ρ => (∃ js : List Int, ds = js.map .int) ∧ (∃ ks : List Int, acc = ks.map .int) ∧ acc.length + ds.length ≤ 63 ∧ ρ = [.scr ns, .val (.int m), .no]) ?_ ?_ _ _ _ ⟨⟨ns, rfl⟩, ⟨[], rfl⟩, by simpa using hn, rfl⟩
    · rintro d ds acc ρ ⟨⟨js, e⟩, ⟨ks, rfl⟩, h4, rfl⟩
      cases js with
      | nil => cases e
      | cons j js =>
        cases e
        have h5 : ks.length + (js.length + 1) ≤ 63 := by simpa using h4
        simp (config := {maxSteps := 1000000}) only [Fj.wp0, Fj.wp1, Fj.wp2, Fj.wp3, Fj.wp4, Fj.wp5, Fj.wp6, Fj.wp7, Fj.wp8, Fj.wp9, Fj.wp10, Fj.wp11, Fj.wp12, Fj.wp13, Fj.wp14, Fj.wp15, Fj.wp16, Fj.wp17, Fj.wp18, Fj.wp19, Fj.wp20, Fj.wp21, Fj.wpz, Fj.tyN, Int.reduceEq, Int.reduceLT, Int.reduceLE, Int.reduceAdd, Int.reduceSub, Int.reduceMul, Int.reduceNeg, Int.reducePow, Int.reduceToNat, Int.reduceMod, Int.reduceDiv, Int.reduceNe, Nat.reduceEqDiff, Nat.reduceMul, borOk, dkAll, dkKept, nlD, nlAll, id, frz, freeE, outsE, pick, merE, wipeE, Nat.reduceAdd, Nat.reduceSub, Nat.reduceLeDiff, Nat.reduceLT, reduceCtorEq, if_true, if_false, eq_self, forall_const, Bool.false_and]
        exact ⟨by rw [List.length_map]; omega, ⟨js, rfl⟩, ⟨ks ++ [j], by simp⟩, by simp; omega⟩
    · rintro acc ρ ⟨-, ⟨ks, rfl⟩, h4, rfl⟩
      have h5 : ks.length ≤ 63 := by simpa using h4
      simp (config := {maxSteps := 1000000}) only [← List.map_reverse, Fj.wp0, Fj.wp1, Fj.wp2, Fj.wp3, Fj.wp4, Fj.wp5, Fj.wp6, Fj.wp7, Fj.wp8, Fj.wp9, Fj.wp10, Fj.wp11, Fj.wp12, Fj.wp13, Fj.wp14, Fj.wp15, Fj.wp16, Fj.wp17, Fj.wp18, Fj.wp19, Fj.wp20, Fj.wp21, Fj.wpz, Fj.tyN, Int.reduceEq, Int.reduceLT, Int.reduceLE, Int.reduceAdd, Int.reduceSub, Int.reduceMul, Int.reduceNeg, Int.reducePow, Int.reduceToNat, Int.reduceMod, Int.reduceDiv, Int.reduceNe, Nat.reduceEqDiff, Nat.reduceMul, borOk, dkAll, dkKept, nlD, nlAll, id, frz, freeE, outsE, pick, merE, wipeE, Nat.reduceAdd, Nat.reduceSub, Nat.reduceLeDiff, Nat.reduceLT, reduceCtorEq, if_true, if_false, eq_self, forall_const, Bool.false_and]
      exact ⟨_, _, _, rfl, h1, by omega, by decide, by decide, by rw [List.length_reverse]; exact h5⟩
end L_k36

set_option maxRecDepth 100000
set_option maxHeartbeats 0
set_option linter.all false
set_option linter.unusedSimpArgs false
namespace L_k36
open PySem PySem.Spec PyProof.Rows L2 Fj
def isI : PyData → Bool
  | .int _ => true
  | _ => false
def oBtw (lo hi : Int) : PyData → Bool
  | .int i => decide (lo ≤ i) && decide (i ≤ hi)
  | _ => false
def oPos : PyData → Bool
  | .int i => decide (1 ≤ i)
  | _ => false
def oNum : PyData → Bool
  | .int i => decide (0 ≤ i)
  | _ => false
theorem p_int (d : PyData) : mf_is_integer [.val d] = some (.val (.bool (isI d)), [.no]) := by
  refine W_eq ?_
  cases d <;> simp (config := {maxSteps := 1000000}) only [mf_is_integer, mb_is_integer, isI, Fj.wp0, Fj.wp1, Fj.wp2, Fj.wp3, Fj.wp4, Fj.wp5, Fj.wp6, Fj.wp7, Fj.wp8, Fj.wp9, Fj.wp10, Fj.wp11, Fj.wp12, Fj.wp13, Fj.wp14, Fj.wp15, Fj.wp16, Fj.wp17, Fj.wp18, Fj.wp19, Fj.wp20, Fj.wp21, Fj.wpz, Fj.tyN, Int.reduceEq, Int.reduceLT, Int.reduceLE, Int.reduceAdd, Int.reduceSub, Int.reduceMul, Int.reduceNeg, Int.reducePow, Int.reduceToNat, Int.reduceMod, Int.reduceDiv, Int.reduceNe, Nat.reduceEqDiff, Nat.reduceMul, borOk, dkAll, dkKept, nlD, nlAll, id, frz, freeE, outsE, pick, merE, wipeE, Nat.reduceAdd, Nat.reduceSub, Nat.reduceLeDiff, Nat.reduceLT, reduceCtorEq, if_true, if_false, eq_self, forall_const, Bool.false_and]
theorem p_btw (lo hi : Int) (d : PyData) : mf_is_between [.val d, .val (.int lo), .val (.int hi)] = some (.val (.bool (oBtw lo hi d)), [.no, .no, .no]) := by
  refine W_eq ?_
  cases d with
  | int i =>
    by_cases h : lo ≤ i <;> by_cases g : i ≤ hi <;> simp (config := {maxSteps := 1000000}) only [mf_is_between, mb_is_between, p_int, isI, oBtw, h, g, Fj.wp0, Fj.wp1, Fj.wp2, Fj.wp3, Fj.wp4, Fj.wp5, Fj.wp6, Fj.wp7, Fj.wp8, Fj.wp9, Fj.wp10, Fj.wp11, Fj.wp12, Fj.wp13, Fj.wp14, Fj.wp15, Fj.wp16, Fj.wp17, Fj.wp18, Fj.wp19, Fj.wp20, Fj.wp21, Fj.wpz, Fj.tyN, Int.reduceEq, Int.reduceLT, Int.reduceLE, Int.reduceAdd, Int.reduceSub, Int.reduceMul, Int.reduceNeg, Int.reducePow, Int.reduceToNat, Int.reduceMod, Int.reduceDiv, Int.reduceNe, Nat.reduceEqDiff, Nat.reduceMul, borOk, dkAll, dkKept, nlD, nlAll, id, frz, freeE, outsE, pick, merE, wipeE, Nat.reduceAdd, Nat.reduceSub, Nat.reduceLeDiff, Nat.reduceLT, reduceCtorEq, if_true, if_false, eq_self, forall_const, Bool.false_and]
  | _ => simp (config := {maxSteps := 1000000}) only [mf_is_between, mb_is_between, p_int, isI, oBtw, Fj.wp0, Fj.wp1, Fj.wp2, Fj.wp3, Fj.wp4, Fj.wp5, Fj.wp6, Fj.wp7, Fj.wp8, Fj.wp9, Fj.wp10, Fj.wp11, Fj.wp12, Fj.wp13, Fj.wp14, Fj.wp15, Fj.wp16, Fj.wp17, Fj.wp18, Fj.wp19, Fj.wp20, Fj.wp21, Fj.wpz, Fj.tyN, Int.reduceEq, Int.reduceLT, Int.reduceLE, Int.reduceAdd, Int.reduceSub, Int.reduceMul, Int.reduceNeg, Int.reducePow, Int.reduceToNat, Int.reduceMod, Int.reduceDiv, Int.reduceNe, Nat.reduceEqDiff, Nat.reduceMul, borOk, dkAll, dkKept, nlD, nlAll, id, frz, freeE, outsE, pick, merE, wipeE, Nat.reduceAdd, Nat.reduceSub, Nat.reduceLeDiff, Nat.reduceLT, reduceCtorEq, if_true, if_false, eq_self, forall_const, Bool.false_and]
theorem p_pos (d : PyData) : mf_is_between [.val d, .val (.int 1), .val d] = some (.val (.bool (oPos d)), [.no, .no, .no]) := by
  refine W_eq ?_
  cases d with
  | int i =>
    by_cases h : 1 ≤ i <;> simp (config := {maxSteps := 1000000}) only [mf_is_between, mb_is_between, p_int, isI, oPos, h, Int.le_refl, Fj.wp0, Fj.wp1, Fj.wp2, Fj.wp3, Fj.wp4, Fj.wp5, Fj.wp6, Fj.wp7, Fj.wp8, Fj.wp9, Fj.wp10, Fj.wp11, Fj.wp12, Fj.wp13, Fj.wp14, Fj.wp15, Fj.wp16, Fj.wp17, Fj.wp18, Fj.wp19, Fj.wp20, Fj.wp21, Fj.wpz, Fj.tyN, Int.reduceEq, Int.reduceLT, Int.reduceLE, Int.reduceAdd, Int.reduceSub, Int.reduceMul, Int.reduceNeg, Int.reducePow, Int.reduceToNat, Int.reduceMod, Int.reduceDiv, Int.reduceNe, Nat.reduceEqDiff, Nat.reduceMul, borOk, dkAll, dkKept, nlD, nlAll, id, frz, freeE, outsE, pick, merE, wipeE, Nat.reduceAdd, Nat.reduceSub, Nat.reduceLeDiff, Nat.reduceLT, reduceCtorEq, if_true, if_false, eq_self, forall_const, Bool.false_and]
  | _ => simp (config := {maxSteps := 1000000}) only [mf_is_between, mb_is_between, p_int, isI, oPos, Fj.wp0, Fj.wp1, Fj.wp2, Fj.wp3, Fj.wp4, Fj.wp5, Fj.wp6, Fj.wp7, Fj.wp8, Fj.wp9, Fj.wp10, Fj.wp11, Fj.wp12, Fj.wp13, Fj.wp14, Fj.wp15, Fj.wp16, Fj.wp17, Fj.wp18, Fj.wp19, Fj.wp20, Fj.wp21, Fj.wpz, Fj.tyN, Int.reduceEq, Int.reduceLT, Int.reduceLE, Int.reduceAdd, Int.reduceSub, Int.reduceMul, Int.reduceNeg, Int.reducePow, Int.reduceToNat, Int.reduceMod, Int.reduceDiv, Int.reduceNe, Nat.reduceEqDiff, Nat.reduceMul, borOk, dkAll, dkKept, nlD, nlAll, id, frz, freeE, outsE, pick, merE, wipeE, Nat.reduceAdd, Nat.reduceSub, Nat.reduceLeDiff, Nat.reduceLT, reduceCtorEq, if_true, if_false, eq_self, forall_const, Bool.false_and]
theorem q_num (d : PyData) : mf__law_is_number [.val d] = some (.val (.bool (oNum d)), [.no]) := by
  refine W_eq ?_
  cases d with
  | int i =>
    by_cases h : 0 ≤ i <;> simp (config := {maxSteps := 1000000}) only [mf__law_is_number, mb__law_is_number, isI, oNum, h, ge_iff_le, Fj.wp0, Fj.wp1, Fj.wp2, Fj.wp3, Fj.wp4, Fj.wp5, Fj.wp6, Fj.wp7, Fj.wp8, Fj.wp9, Fj.wp10, Fj.wp11, Fj.wp12, Fj.wp13, Fj.wp14, Fj.wp15, Fj.wp16, Fj.wp17, Fj.wp18, Fj.wp19, Fj.wp20, Fj.wp21, Fj.wpz, Fj.tyN, Int.reduceEq, Int.reduceLT, Int.reduceLE, Int.reduceAdd, Int.reduceSub, Int.reduceMul, Int.reduceNeg, Int.reducePow, Int.reduceToNat, Int.reduceMod, Int.reduceDiv, Int.reduceNe, Nat.reduceEqDiff, Nat.reduceMul, borOk, dkAll, dkKept, nlD, nlAll, id, frz, freeE, outsE, pick, merE, wipeE, Nat.reduceAdd, Nat.reduceSub, Nat.reduceLeDiff, Nat.reduceLT, reduceCtorEq, if_true, if_false, eq_self, forall_const, Bool.false_and]
  | _ => simp (config := {maxSteps := 1000000}) only [mf__law_is_number, mb__law_is_number, isI, oNum, Fj.wp0, Fj.wp1, Fj.wp2, Fj.wp3, Fj.wp4, Fj.wp5, Fj.wp6, Fj.wp7, Fj.wp8, Fj.wp9, Fj.wp10, Fj.wp11, Fj.wp12, Fj.wp13, Fj.wp14, Fj.wp15, Fj.wp16, Fj.wp17, Fj.wp18, Fj.wp19, Fj.wp20, Fj.wp21, Fj.wpz, Fj.tyN, Int.reduceEq, Int.reduceLT, Int.reduceLE, Int.reduceAdd, Int.reduceSub, Int.reduceMul, Int.reduceNeg, Int.reducePow, Int.reduceToNat, Int.reduceMod, Int.reduceDiv, Int.reduceNe, Nat.reduceEqDiff, Nat.reduceMul, borOk, dkAll, dkKept, nlD, nlAll, id, frz, freeE, outsE, pick, merE, wipeE, Nat.reduceAdd, Nat.reduceSub, Nat.reduceLeDiff, Nat.reduceLT, reduceCtorEq, if_true, if_false, eq_self, forall_const, Bool.false_and]
def oSizes : PyData → Bool
  | .tuple ds => ds.all oPos
  | _ => false
theorem p_sizes (d : PyData) (hl : ∀ ds, d = .tuple ds → ds.length ≤ 1000) : mf_are_sizes [.val d] = some (.val (.bool (oSizes d)), [.no]) := by
  refine W_eq ?_
  cases d with
  | tuple ds =>
    have hl := hl ds rfl
    simp (config := {maxSteps := 1000000}) only [mf_are_sizes, mb_are_sizes, lc_are_sizes_1, Fj.wp0, Fj.wp1, Fj.wp2, Fj.wp3, Fj.wp4, Fj.wp5, Fj.wp6, Fj.wp7, Fj.wp8, Fj.wp9, Fj.wp10, Fj.wp11, Fj.wp12, Fj.wp13, Fj.wp14, Fj.wp15, Fj.wp16, Fj.wp17, Fj.wp18, Fj.wp19, Fj.wp20, Fj.wp21, Fj.wpz, Fj.tyN, Int.reduceEq, Int.reduceLT, Int.reduceLE, Int.reduceAdd, Int.reduceSub, Int.reduceMul, Int.reduceNeg, Int.reducePow, Int.reduceToNat, Int.reduceMod, Int.reduceDiv, Int.reduceNe, Nat.reduceEqDiff, Nat.reduceMul, borOk, dkAll, dkKept, nlD, nlAll, id, frz, freeE, outsE, pick, merE, wipeE, Nat.reduceAdd, Nat.reduceSub, Nat.reduceLeDiff, Nat.reduceLT, reduceCtorEq, if_true, if_false, eq_self, forall_const, Bool.false_and]
    have := w_lcMap (g := mN 1) (t := mYes) (m := (mFz (mCall mf_is_between [0, 1, 2] [] (mCons (mVar 1) (mCons (mC (.int 1)) (mCons (mVar 1) mNil))) mNil))) (vs := [1]) (ρ := [.val (.tuple ds), .no]) (Q := fun acc ρ => acc = ds.map (fun d => PyData.bool (oPos d)) ∧ ρ = [.val (.tuple ds), .no]) id (fun d => .bool (oPos d)) (xs := ds) (fun x hx => by simp (config := {maxSteps := 1000000}) only [p_pos, Fj.wp0, Fj.wp1, Fj.wp2, Fj.wp3, Fj.wp4, Fj.wp5, Fj.wp6, Fj.wp7, Fj.wp8, Fj.wp9, Fj.wp10, Fj.wp11, Fj.wp12, Fj.wp13, Fj.wp14, Fj.wp15, Fj.wp16, Fj.wp17, Fj.wp18, Fj.wp19, Fj.wp20, Fj.wp21, Fj.wpz, Fj.tyN, Int.reduceEq, Int.reduceLT, Int.reduceLE, Int.reduceAdd, Int.reduceSub, Int.reduceMul, Int.reduceNeg, Int.reducePow, Int.reduceToNat, Int.reduceMod, Int.reduceDiv, Int.reduceNe, Nat.reduceEqDiff, Nat.reduceMul, borOk, dkAll, dkKept, nlD, nlAll, id, frz, freeE, outsE, pick, merE, wipeE, Nat.reduceAdd, Nat.reduceSub, Nat.reduceLeDiff, Nat.reduceLT, reduceCtorEq, if_true, if_false, eq_self, forall_const, Bool.false_and]) (by omega) ⟨rfl, rfl⟩
    rw [List.map_id] at this
    refine this.mono ?_
    rintro _ _ ⟨rfl, rfl⟩
    simp (config := {maxSteps := 1000000}) only [g_boolsF, List.all_map, Fj.wp0, Fj.wp1, Fj.wp2, Fj.wp3, Fj.wp4, Fj.wp5, Fj.wp6, Fj.wp7, Fj.wp8, Fj.wp9, Fj.wp10, Fj.wp11, Fj.wp12, Fj.wp13, Fj.wp14, Fj.wp15, Fj.wp16, Fj.wp17, Fj.wp18, Fj.wp19, Fj.wp20, Fj.wp21, Fj.wpz, Fj.tyN, Int.reduceEq, Int.reduceLT, Int.reduceLE, Int.reduceAdd, Int.reduceSub, Int.reduceMul, Int.reduceNeg, Int.reducePow, Int.reduceToNat, Int.reduceMod, Int.reduceDiv, Int.reduceNe, Nat.reduceEqDiff, Nat.reduceMul, borOk, dkAll, dkKept, nlD, nlAll, id, frz, freeE, outsE, pick, merE, wipeE, Nat.reduceAdd, Nat.reduceSub, Nat.reduceLeDiff, Nat.reduceLT, reduceCtorEq, if_true, if_false, eq_self, forall_const, Bool.false_and]
    rfl
  | _ => simp (config := {maxSteps := 1000000}) only [mf_are_sizes, mb_are_sizes, lc_are_sizes_1, oSizes, Fj.wp0, Fj.wp1, Fj.wp2, Fj.wp3, Fj.wp4, Fj.wp5, Fj.wp6, Fj.wp7, Fj.wp8, Fj.wp9, Fj.wp10, Fj.wp11, Fj.wp12, Fj.wp13, Fj.wp14, Fj.wp15, Fj.wp16, Fj.wp17, Fj.wp18, Fj.wp19, Fj.wp20, Fj.wp21, Fj.wpz, Fj.tyN, Int.reduceEq, Int.reduceLT, Int.reduceLE, Int.reduceAdd, Int.reduceSub, Int.reduceMul, Int.reduceNeg, Int.reducePow, Int.reduceToNat, Int.reduceMod, Int.reduceDiv, Int.reduceNe, Nat.reduceEqDiff, Nat.reduceMul, borOk, dkAll, dkKept, nlD, nlAll, id, frz, freeE, outsE, pick, merE, wipeE, Nat.reduceAdd, Nat.reduceSub, Nat.reduceLeDiff, Nat.reduceLT, reduceCtorEq, if_true, if_false, eq_self, forall_const, Bool.false_and]
end L_k36

set_option maxRecDepth 100000
set_option maxHeartbeats 0
set_option linter.all false
set_option linter.unusedSimpArgs false
namespace L_k36
open PySem PySem.Spec PyProof.Rows L2 Fj
/-! terms and bars, by the program -/
theorem p_row (k : Int) (d : PyData) : mf_is_row [.val d, .val (.int k)] = some (.val (.bool (match d with | .tuple ds => decide ((ds.length : Int) = k) | _ => false)), [.no, .no]) := by
  refine W_eq ?_
  cases d <;> simp (config := {maxSteps := 1000000}) only [mf_is_row, mb_is_row, Fj.wp0, Fj.wp1, Fj.wp2, Fj.wp3, Fj.wp4, Fj.wp5, Fj.wp6, Fj.wp7, Fj.wp8, Fj.wp9, Fj.wp10, Fj.wp11, Fj.wp12, Fj.wp13, Fj.wp14, Fj.wp15, Fj.wp16, Fj.wp17, Fj.wp18, Fj.wp19, Fj.wp20, Fj.wp21, Fj.wpz, Fj.tyN, Int.reduceEq, Int.reduceLT, Int.reduceLE, Int.reduceAdd, Int.reduceSub, Int.reduceMul, Int.reduceNeg, Int.reducePow, Int.reduceToNat, Int.reduceMod, Int.reduceDiv, Int.reduceNe, Nat.reduceEqDiff, Nat.reduceMul, borOk, dkAll, dkKept, nlD, nlAll, id, frz, freeE, outsE, pick, merE, wipeE, Nat.reduceAdd, Nat.reduceSub, Nat.reduceLeDiff, Nat.reduceLT, reduceCtorEq, if_true, if_false, eq_self, forall_const, Bool.false_and]
theorem p_betw (lo hi : Int) (d : PyData) (hl : ∀ ds, d = .tuple ds → ds.length ≤ 1000) : mf_are_between [.val d, .val (.int lo), .val (.int hi)] = some (.val (.bool (match d with | .tuple ds => ds.all (oBtw lo hi) | _ => false)), [.no, .no, .no]) := by
  refine W_eq ?_
  cases d with
  | tuple ds =>
    have hl := hl ds rfl
    simp (config := {maxSteps := 1000000}) only [mf_are_between, mb_are_between, lc_are_between_1, Fj.wp0, Fj.wp1, Fj.wp2, Fj.wp3, Fj.wp4, Fj.wp5, Fj.wp6, Fj.wp7, Fj.wp8, Fj.wp9, Fj.wp10, Fj.wp11, Fj.wp12, Fj.wp13, Fj.wp14, Fj.wp15, Fj.wp16, Fj.wp17, Fj.wp18, Fj.wp19, Fj.wp20, Fj.wp21, Fj.wpz, Fj.tyN, Int.reduceEq, Int.reduceLT, Int.reduceLE, Int.reduceAdd, Int.reduceSub, Int.reduceMul, Int.reduceNeg, Int.reducePow, Int.reduceToNat, Int.reduceMod, Int.reduceDiv, Int.reduceNe, Nat.reduceEqDiff, Nat.reduceMul, borOk, dkAll, dkKept, nlD, nlAll, id, frz, freeE, outsE, pick, merE, wipeE, Nat.reduceAdd, Nat.reduceSub, Nat.reduceLeDiff, Nat.reduceLT, reduceCtorEq, if_true, if_false, eq_self, forall_const, Bool.false_and]
    refine w_lcMapD (fun d => .bool (oBtw lo hi d)) (fun x hx => by simp (config := {maxSteps := 1000000}) only [p_btw, Fj.wp0, Fj.wp1, Fj.wp2, Fj.wp3, Fj.wp4, Fj.wp5, Fj.wp6, Fj.wp7, Fj.wp8, Fj.wp9, Fj.wp10, Fj.wp11, Fj.wp12, Fj.wp13, Fj.wp14, Fj.wp15, Fj.wp16, Fj.wp17, Fj.wp18, Fj.wp19, Fj.wp20, Fj.wp21, Fj.wpz, Fj.tyN, Int.reduceEq, Int.reduceLT, Int.reduceLE, Int.reduceAdd, Int.reduceSub, Int.reduceMul, Int.reduceNeg, Int.reducePow, Int.reduceToNat, Int.reduceMod, Int.reduceDiv, Int.reduceNe, Nat.reduceEqDiff, Nat.reduceMul, borOk, dkAll, dkKept, nlD, nlAll, id, frz, freeE, outsE, pick, merE, wipeE, Nat.reduceAdd, Nat.reduceSub, Nat.reduceLeDiff, Nat.reduceLT, reduceCtorEq, if_true, if_false, eq_self, forall_const, Bool.false_and]) (by omega) ?_
    simp (config := {maxSteps := 1000000}) only [g_boolsF, List.all_map, Fj.wp0, Fj.wp1, Fj.wp2, Fj.wp3, Fj.wp4, Fj.wp5, Fj.wp6, Fj.wp7, Fj.wp8, Fj.wp9, Fj.wp10, Fj.wp11, Fj.wp12, Fj.wp13, Fj.wp14, Fj.wp15, Fj.wp16, Fj.wp17, Fj.wp18, Fj.wp19, Fj.wp20, Fj.wp21, Fj.wpz, Fj.tyN, Int.reduceEq, Int.reduceLT, Int.reduceLE, Int.reduceAdd, Int.reduceSub, Int.reduceMul, Int.reduceNeg, Int.reducePow, Int.reduceToNat, Int.reduceMod, Int.reduceDiv, Int.reduceNe, Nat.reduceEqDiff, Nat.reduceMul, borOk, dkAll, dkKept, nlD, nlAll, id, frz, freeE, outsE, pick, merE, wipeE, Nat.reduceAdd, Nat.reduceSub, Nat.reduceLeDiff, Nat.reduceLT, reduceCtorEq, if_true, if_false, eq_self, forall_const, Bool.false_and]
    rfl
  | _ => simp (config := {maxSteps := 1000000}) only [mf_are_between, mb_are_between, lc_are_between_1, Fj.wp0, Fj.wp1, Fj.wp2, Fj.wp3, Fj.wp4, Fj.wp5, Fj.wp6, Fj.wp7, Fj.wp8, Fj.wp9, Fj.wp10, Fj.wp11, Fj.wp12, Fj.wp13, Fj.wp14, Fj.wp15, Fj.wp16, Fj.wp17, Fj.wp18, Fj.wp19, Fj.wp20, Fj.wp21, Fj.wpz, Fj.tyN, Int.reduceEq, Int.reduceLT, Int.reduceLE, Int.reduceAdd, Int.reduceSub, Int.reduceMul, Int.reduceNeg, Int.reducePow, Int.reduceToNat, Int.reduceMod, Int.reduceDiv, Int.reduceNe, Nat.reduceEqDiff, Nat.reduceMul, borOk, dkAll, dkKept, nlD, nlAll, id, frz, freeE, outsE, pick, merE, wipeE, Nat.reduceAdd, Nat.reduceSub, Nat.reduceLeDiff, Nat.reduceLT, reduceCtorEq, if_true, if_false, eq_self, forall_const, Bool.false_and]
theorem p_riseT (ns : List Int) (hl : ns.length ≤ 1000) : mf_is_rising [.val (.tuple (ns.map .int))] = some (.val (.bool (rise ns)), [.no]) := by
  refine W_eq ?_
  simp (config := {maxSteps := 1000000}) only [mf_is_rising, mb_is_rising, lc_is_rising_1, zip_next, Fj.wp0, Fj.wp1, Fj.wp2, Fj.wp3, Fj.wp4, Fj.wp5, Fj.wp6, Fj.wp7, Fj.wp8, Fj.wp9, Fj.wp10, Fj.wp11, Fj.wp12, Fj.wp13, Fj.wp14, Fj.wp15, Fj.wp16, Fj.wp17, Fj.wp18, Fj.wp19, Fj.wp20, Fj.wp21, Fj.wpz, Fj.tyN, Int.reduceEq, Int.reduceLT, Int.reduceLE, Int.reduceAdd, Int.reduceSub, Int.reduceMul, Int.reduceNeg, Int.reducePow, Int.reduceToNat, Int.reduceMod, Int.reduceDiv, Int.reduceNe, Nat.reduceEqDiff, Nat.reduceMul, borOk, dkAll, dkKept, nlD, nlAll, id, frz, freeE, outsE, pick, merE, wipeE, Nat.reduceAdd, Nat.reduceSub, Nat.reduceLeDiff, Nat.reduceLT, reduceCtorEq, if_true, if_false, eq_self, forall_const, Bool.false_and]
  refine w_lcMap _ (fun p => .bool (decide (p.1 < p.2))) (fun x hx => by simp (config := {maxSteps := 1000000}) only [Fj.wp0, Fj.wp1, Fj.wp2, Fj.wp3, Fj.wp4, Fj.wp5, Fj.wp6, Fj.wp7, Fj.wp8, Fj.wp9, Fj.wp10, Fj.wp11, Fj.wp12, Fj.wp13, Fj.wp14, Fj.wp15, Fj.wp16, Fj.wp17, Fj.wp18, Fj.wp19, Fj.wp20, Fj.wp21, Fj.wpz, Fj.tyN, Int.reduceEq, Int.reduceLT, Int.reduceLE, Int.reduceAdd, Int.reduceSub, Int.reduceMul, Int.reduceNeg, Int.reducePow, Int.reduceToNat, Int.reduceMod, Int.reduceDiv, Int.reduceNe, Nat.reduceEqDiff, Nat.reduceMul, borOk, dkAll, dkKept, nlD, nlAll, id, frz, freeE, outsE, pick, merE, wipeE, Nat.reduceAdd, Nat.reduceSub, Nat.reduceLeDiff, Nat.reduceLT, reduceCtorEq, if_true, if_false, eq_self, forall_const, Bool.false_and]) (by rw [List.length_zip]; omega) ?_
  simp (config := {maxSteps := 1000000}) only [g_boolsF, List.all_map, Fj.wp0, Fj.wp1, Fj.wp2, Fj.wp3, Fj.wp4, Fj.wp5, Fj.wp6, Fj.wp7, Fj.wp8, Fj.wp9, Fj.wp10, Fj.wp11, Fj.wp12, Fj.wp13, Fj.wp14, Fj.wp15, Fj.wp16, Fj.wp17, Fj.wp18, Fj.wp19, Fj.wp20, Fj.wp21, Fj.wpz, Fj.tyN, Int.reduceEq, Int.reduceLT, Int.reduceLE, Int.reduceAdd, Int.reduceSub, Int.reduceMul, Int.reduceNeg, Int.reducePow, Int.reduceToNat, Int.reduceMod, Int.reduceDiv, Int.reduceNe, Nat.reduceEqDiff, Nat.reduceMul, borOk, dkAll, dkKept, nlD, nlAll, id, frz, freeE, outsE, pick, merE, wipeE, Nat.reduceAdd, Nat.reduceSub, Nat.reduceLeDiff, Nat.reduceLT, reduceCtorEq, if_true, if_false, eq_self, forall_const, Bool.false_and]
  rfl
theorem p_riseL (ns : List Int) (hl : ns.length ≤ 1000) : mf_is_rising [.val (.list (ns.map .int))] = some (.val (.bool (rise ns)), [.no]) := by
  refine W_eq ?_
  simp (config := {maxSteps := 1000000}) only [mf_is_rising, mb_is_rising, lc_is_rising_1, zip_next, Fj.wp0, Fj.wp1, Fj.wp2, Fj.wp3, Fj.wp4, Fj.wp5, Fj.wp6, Fj.wp7, Fj.wp8, Fj.wp9, Fj.wp10, Fj.wp11, Fj.wp12, Fj.wp13, Fj.wp14, Fj.wp15, Fj.wp16, Fj.wp17, Fj.wp18, Fj.wp19, Fj.wp20, Fj.wp21, Fj.wpz, Fj.tyN, Int.reduceEq, Int.reduceLT, Int.reduceLE, Int.reduceAdd, Int.reduceSub, Int.reduceMul, Int.reduceNeg, Int.reducePow, Int.reduceToNat, Int.reduceMod, Int.reduceDiv, Int.reduceNe, Nat.reduceEqDiff, Nat.reduceMul, borOk, dkAll, dkKept, nlD, nlAll, id, frz, freeE, outsE, pick, merE, wipeE, Nat.reduceAdd, Nat.reduceSub, Nat.reduceLeDiff, Nat.reduceLT, reduceCtorEq, if_true, if_false, eq_self, forall_const, Bool.false_and]
  refine w_lcMap _ (fun p => .bool (decide (p.1 < p.2))) (fun x hx => by simp (config := {maxSteps := 1000000}) only [Fj.wp0, Fj.wp1, Fj.wp2, Fj.wp3, Fj.wp4, Fj.wp5, Fj.wp6, Fj.wp7, Fj.wp8, Fj.wp9, Fj.wp10, Fj.wp11, Fj.wp12, Fj.wp13, Fj.wp14, Fj.wp15, Fj.wp16, Fj.wp17, Fj.wp18, Fj.wp19, Fj.wp20, Fj.wp21, Fj.wpz, Fj.tyN, Int.reduceEq, Int.reduceLT, Int.reduceLE, Int.reduceAdd, Int.reduceSub, Int.reduceMul, Int.reduceNeg, Int.reducePow, Int.reduceToNat, Int.reduceMod, Int.reduceDiv, Int.reduceNe, Nat.reduceEqDiff, Nat.reduceMul, borOk, dkAll, dkKept, nlD, nlAll, id, frz, freeE, outsE, pick, merE, wipeE, Nat.reduceAdd, Nat.reduceSub, Nat.reduceLeDiff, Nat.reduceLT, reduceCtorEq, if_true, if_false, eq_self, forall_const, Bool.false_and]) (by rw [List.length_zip]; omega) ?_
  simp (config := {maxSteps := 1000000}) only [g_boolsF, List.all_map, Fj.wp0, Fj.wp1, Fj.wp2, Fj.wp3, Fj.wp4, Fj.wp5, Fj.wp6, Fj.wp7, Fj.wp8, Fj.wp9, Fj.wp10, Fj.wp11, Fj.wp12, Fj.wp13, Fj.wp14, Fj.wp15, Fj.wp16, Fj.wp17, Fj.wp18, Fj.wp19, Fj.wp20, Fj.wp21, Fj.wpz, Fj.tyN, Int.reduceEq, Int.reduceLT, Int.reduceLE, Int.reduceAdd, Int.reduceSub, Int.reduceMul, Int.reduceNeg, Int.reducePow, Int.reduceToNat, Int.reduceMod, Int.reduceDiv, Int.reduceNe, Nat.reduceEqDiff, Nat.reduceMul, borOk, dkAll, dkKept, nlD, nlAll, id, frz, freeE, outsE, pick, merE, wipeE, Nat.reduceAdd, Nat.reduceSub, Nat.reduceLeDiff, Nat.reduceLT, reduceCtorEq, if_true, if_false, eq_self, forall_const, Bool.false_and]
  rfl
def valI : PyData → Int
  | .int i => i
  | _ => 0
theorem ints_of {ms : List PyData} {lo hi : Int} (h : ms.all (oBtw lo hi) = true) : ms = (ms.map valI).map .int := by
  rw [List.map_map]
  refine (List.map_id ms).symm.trans (List.map_congr_left fun d hd => ?_)
  have := List.all_eq_true.mp h d hd
  cases d <;> first | rfl | cases this
/-- the states of a term at a size -/
def oMarks (size : Int) : PyData → Bool
  | .tuple ms => ms.all (oBtw 0 (size - 1)) && (rise (ms.map valI) && decide (1 ≤ ms.length ∧ (ms.length : Int) < size))
  | _ => false
def oTerm (ns : List Int) : PyData → Bool
  | .tuple [.int i, m] => decide (0 ≤ i) && (decide (i < ns.length) && oMarks (ns.getD i.toNat 0) m)
  | _ => false
/-- rows within data are short -/
inductive Sh : PyData → Prop
  | at {d : PyData} (h : (match d with | .tuple _ => false | _ => true) = true) : Sh d
  | tup {ds : List PyData} (h : ds.length < 64) (r : ∀ d ∈ ds, Sh d) : Sh (.tuple ds)
theorem Sh.of {ds : List PyData} (h : Sh (.tuple ds)) : ds.length < 64 ∧ ∀ d ∈ ds, Sh d := by
  cases h with
  | «at» h => cases h
  | tup h r => exact ⟨h, r⟩
theorem Sh.len {d : PyData} (h : Sh d) : ∀ ds, d = .tuple ds → ds.length ≤ 1000 := fun ds e => by
  subst e
  have := h.of.1
  omega
theorem at_int {ns : List Int} {i : Int} (h0 : 0 ≤ i) (h1 : i < ns.length) : L2.atI (ns.map PyData.int) i = some (.int (ns.getD i.toNat 0)) := by
  obtain ⟨d, e, _, e2⟩ := atI_mem (ds := ns.map .int) h0 (by rw [List.length_map]; exact h1)
  rw [e, ← e2, List.getElem?_map, List.getElem?_eq_getElem (by omega), List.getD_eq_getElem?_getD, List.getElem?_eq_getElem (by omega)]
  rfl
theorem p_term (ns : List Int) (hn : ns.length ≤ 1000) (d : PyData) (hs : Sh d) : mf_is_term [.val (.tuple (ns.map .int)), .val d] = some (.val (.bool (oTerm ns d)), [.no, .no]) := by
  refine W_eq ?_
  cases d with
  | tuple ds =>
    obtain ⟨hl, hr⟩ := hs.of
    rcases ds with _ | ⟨a, _ | ⟨b, _ | ⟨c, r⟩⟩⟩
    · simp (config := {maxSteps := 1000000}) only [mf_is_term, mb_is_term, mb_is_term_1, p_row, oTerm, Fj.wp0, Fj.wp1, Fj.wp2, Fj.wp3, Fj.wp4, Fj.wp5, Fj.wp6, Fj.wp7, Fj.wp8, Fj.wp9, Fj.wp10, Fj.wp11, Fj.wp12, Fj.wp13, Fj.wp14, Fj.wp15, Fj.wp16, Fj.wp17, Fj.wp18, Fj.wp19, Fj.wp20, Fj.wp21, Fj.wpz, Fj.tyN, Int.reduceEq, Int.reduceLT, Int.reduceLE, Int.reduceAdd, Int.reduceSub, Int.reduceMul, Int.reduceNeg, Int.reducePow, Int.reduceToNat, Int.reduceMod, Int.reduceDiv, Int.reduceNe, Nat.reduceEqDiff, Nat.reduceMul, borOk, dkAll, dkKept, nlD, nlAll, id, frz, freeE, outsE, pick, merE, wipeE, Nat.reduceAdd, Nat.reduceSub, Nat.reduceLeDiff, Nat.reduceLT, reduceCtorEq, if_true, if_false, eq_self, forall_const, Bool.false_and]
    · simp (config := {maxSteps := 1000000}) only [mf_is_term, mb_is_term, mb_is_term_1, p_row, oTerm, Fj.wp0, Fj.wp1, Fj.wp2, Fj.wp3, Fj.wp4, Fj.wp5, Fj.wp6, Fj.wp7, Fj.wp8, Fj.wp9, Fj.wp10, Fj.wp11, Fj.wp12, Fj.wp13, Fj.wp14, Fj.wp15, Fj.wp16, Fj.wp17, Fj.wp18, Fj.wp19, Fj.wp20, Fj.wp21, Fj.wpz, Fj.tyN, Int.reduceEq, Int.reduceLT, Int.reduceLE, Int.reduceAdd, Int.reduceSub, Int.reduceMul, Int.reduceNeg, Int.reducePow, Int.reduceToNat, Int.reduceMod, Int.reduceDiv, Int.reduceNe, Nat.reduceEqDiff, Nat.reduceMul, borOk, dkAll, dkKept, nlD, nlAll, id, frz, freeE, outsE, pick, merE, wipeE, Nat.reduceAdd, Nat.reduceSub, Nat.reduceLeDiff, Nat.reduceLT, reduceCtorEq, if_true, if_false, eq_self, forall_const, Bool.false_and]
    · simp (config := {maxSteps := 1000000}) only [mf_is_term, mb_is_term, mb_is_term_1, p_row, p_btw, List.length_map, Fj.wp0, Fj.wp1, Fj.wp2, Fj.wp3, Fj.wp4, Fj.wp5, Fj.wp6, Fj.wp7, Fj.wp8, Fj.wp9, Fj.wp10, Fj.wp11, Fj.wp12, Fj.wp13, Fj.wp14, Fj.wp15, Fj.wp16, Fj.wp17, Fj.wp18, Fj.wp19, Fj.wp20, Fj.wp21, Fj.wpz, Fj.tyN, Int.reduceEq, Int.reduceLT, Int.reduceLE, Int.reduceAdd, Int.reduceSub, Int.reduceMul, Int.reduceNeg, Int.reducePow, Int.reduceToNat, Int.reduceMod, Int.reduceDiv, Int.reduceNe, Nat.reduceEqDiff, Nat.reduceMul, borOk, dkAll, dkKept, nlD, nlAll, id, frz, freeE, outsE, pick, merE, wipeE, Nat.reduceAdd, Nat.reduceSub, Nat.reduceLeDiff, Nat.reduceLT, reduceCtorEq, if_true, if_false, eq_self, forall_const, Bool.false_and]
      cases a with
      | int i =>
        by_cases h0 : 0 ≤ i
        · by_cases h1 : i < ns.length
          · have h2 : i ≤ ns.length - 1 := by omega
            have h3 := at_int h0 h1
            simp (config := {maxSteps := 1000000}) only [oBtw, h0, h2, h3, Fj.wp0, Fj.wp1, Fj.wp2, Fj.wp3, Fj.wp4, Fj.wp5, Fj.wp6, Fj.wp7, Fj.wp8, Fj.wp9, Fj.wp10, Fj.wp11, Fj.wp12, Fj.wp13, Fj.wp14, Fj.wp15, Fj.wp16, Fj.wp17, Fj.wp18, Fj.wp19, Fj.wp20, Fj.wp21, Fj.wpz, Fj.tyN, Int.reduceEq, Int.reduceLT, Int.reduceLE, Int.reduceAdd, Int.reduceSub, Int.reduceMul, Int.reduceNeg, Int.reducePow, Int.reduceToNat, Int.reduceMod, Int.reduceDiv, Int.reduceNe, Nat.reduceEqDiff, Nat.reduceMul, borOk, dkAll, dkKept, nlD, nlAll, id, frz, freeE, outsE, pick, merE, wipeE, Nat.reduceAdd, Nat.reduceSub, Nat.reduceLeDiff, Nat.reduceLT, reduceCtorEq, if_true, if_false, eq_self, forall_const, Bool.false_and]
            rw [p_betw _ _ b (hr b (by simp)).len]
            cases b with
            | tuple ms =>
              have hm := (hr (.tuple ms) (by simp)).of.1
              cases ha : ms.all (oBtw 0 (ns.getD i.toNat 0 - 1)) with
              | false => simp (config := {maxSteps := 1000000}) only [oTerm, oMarks, h0, h1, ha, Fj.wp0, Fj.wp1, Fj.wp2, Fj.wp3, Fj.wp4, Fj.wp5, Fj.wp6, Fj.wp7, Fj.wp8, Fj.wp9, Fj.wp10, Fj.wp11, Fj.wp12, Fj.wp13, Fj.wp14, Fj.wp15, Fj.wp16, Fj.wp17, Fj.wp18, Fj.wp19, Fj.wp20, Fj.wp21, Fj.wpz, Fj.tyN, Int.reduceEq, Int.reduceLT, Int.reduceLE, Int.reduceAdd, Int.reduceSub, Int.reduceMul, Int.reduceNeg, Int.reducePow, Int.reduceToNat, Int.reduceMod, Int.reduceDiv, Int.reduceNe, Nat.reduceEqDiff, Nat.reduceMul, borOk, dkAll, dkKept, nlD, nlAll, id, frz, freeE, outsE, pick, merE, wipeE, Nat.reduceAdd, Nat.reduceSub, Nat.reduceLeDiff, Nat.reduceLT, reduceCtorEq, if_true, if_false, eq_self, forall_const, Bool.false_and]
              | true =>
                have e := ints_of ha
                have hr' := p_riseT (ms.map valI) (by rw [List.length_map]; omega)
                rw [← e] at hr'
                have i1 : ((1:Int) ≤ (ms.length : Int)) = (1 ≤ ms.length) := propext ⟨fun z => by omega, fun z => by omega⟩
                cases hb : rise (ms.map valI) with
                | false => simp (config := {maxSteps := 1000000}) only [oTerm, oMarks, h0, h1, ha, hb, hr', Fj.wp0, Fj.wp1, Fj.wp2, Fj.wp3, Fj.wp4, Fj.wp5, Fj.wp6, Fj.wp7, Fj.wp8, Fj.wp9, Fj.wp10, Fj.wp11, Fj.wp12, Fj.wp13, Fj.wp14, Fj.wp15, Fj.wp16, Fj.wp17, Fj.wp18, Fj.wp19, Fj.wp20, Fj.wp21, Fj.wpz, Fj.tyN, Int.reduceEq, Int.reduceLT, Int.reduceLE, Int.reduceAdd, Int.reduceSub, Int.reduceMul, Int.reduceNeg, Int.reducePow, Int.reduceToNat, Int.reduceMod, Int.reduceDiv, Int.reduceNe, Nat.reduceEqDiff, Nat.reduceMul, borOk, dkAll, dkKept, nlD, nlAll, id, frz, freeE, outsE, pick, merE, wipeE, Nat.reduceAdd, Nat.reduceSub, Nat.reduceLeDiff, Nat.reduceLT, reduceCtorEq, if_true, if_false, eq_self, forall_const, Bool.false_and]
                | true =>
                  by_cases g1 : 1 ≤ ms.length <;> by_cases g2 : (ms.length : Int) < ns.getD i.toNat 0 <;> simp (config := {maxSteps := 1000000}) only [oTerm, oMarks, h0, h1, ha, hb, hr', i1, g1, g2, and_self, and_false, false_and, Fj.wp0, Fj.wp1, Fj.wp2, Fj.wp3, Fj.wp4, Fj.wp5, Fj.wp6, Fj.wp7, Fj.wp8, Fj.wp9, Fj.wp10, Fj.wp11, Fj.wp12, Fj.wp13, Fj.wp14, Fj.wp15, Fj.wp16, Fj.wp17, Fj.wp18, Fj.wp19, Fj.wp20, Fj.wp21, Fj.wpz, Fj.tyN, Int.reduceEq, Int.reduceLT, Int.reduceLE, Int.reduceAdd, Int.reduceSub, Int.reduceMul, Int.reduceNeg, Int.reducePow, Int.reduceToNat, Int.reduceMod, Int.reduceDiv, Int.reduceNe, Nat.reduceEqDiff, Nat.reduceMul, borOk, dkAll, dkKept, nlD, nlAll, id, frz, freeE, outsE, pick, merE, wipeE, Nat.reduceAdd, Nat.reduceSub, Nat.reduceLeDiff, Nat.reduceLT, reduceCtorEq, if_true, if_false, eq_self, forall_const, Bool.false_and]
            | _ => simp (config := {maxSteps := 1000000}) only [oTerm, oMarks, h0, h1, Fj.wp0, Fj.wp1, Fj.wp2, Fj.wp3, Fj.wp4, Fj.wp5, Fj.wp6, Fj.wp7, Fj.wp8, Fj.wp9, Fj.wp10, Fj.wp11, Fj.wp12, Fj.wp13, Fj.wp14, Fj.wp15, Fj.wp16, Fj.wp17, Fj.wp18, Fj.wp19, Fj.wp20, Fj.wp21, Fj.wpz, Fj.tyN, Int.reduceEq, Int.reduceLT, Int.reduceLE, Int.reduceAdd, Int.reduceSub, Int.reduceMul, Int.reduceNeg, Int.reducePow, Int.reduceToNat, Int.reduceMod, Int.reduceDiv, Int.reduceNe, Nat.reduceEqDiff, Nat.reduceMul, borOk, dkAll, dkKept, nlD, nlAll, id, frz, freeE, outsE, pick, merE, wipeE, Nat.reduceAdd, Nat.reduceSub, Nat.reduceLeDiff, Nat.reduceLT, reduceCtorEq, if_true, if_false, eq_self, forall_const, Bool.false_and]
          · have h2 : ¬ i ≤ ns.length - 1 := by omega
            simp (config := {maxSteps := 1000000}) only [oBtw, h0, h2, oTerm, h1, Fj.wp0, Fj.wp1, Fj.wp2, Fj.wp3, Fj.wp4, Fj.wp5, Fj.wp6, Fj.wp7, Fj.wp8, Fj.wp9, Fj.wp10, Fj.wp11, Fj.wp12, Fj.wp13, Fj.wp14, Fj.wp15, Fj.wp16, Fj.wp17, Fj.wp18, Fj.wp19, Fj.wp20, Fj.wp21, Fj.wpz, Fj.tyN, Int.reduceEq, Int.reduceLT, Int.reduceLE, Int.reduceAdd, Int.reduceSub, Int.reduceMul, Int.reduceNeg, Int.reducePow, Int.reduceToNat, Int.reduceMod, Int.reduceDiv, Int.reduceNe, Nat.reduceEqDiff, Nat.reduceMul, borOk, dkAll, dkKept, nlD, nlAll, id, frz, freeE, outsE, pick, merE, wipeE, Nat.reduceAdd, Nat.reduceSub, Nat.reduceLeDiff, Nat.reduceLT, reduceCtorEq, if_true, if_false, eq_self, forall_const, Bool.false_and]
        · simp (config := {maxSteps := 1000000}) only [oBtw, h0, oTerm, Fj.wp0, Fj.wp1, Fj.wp2, Fj.wp3, Fj.wp4, Fj.wp5, Fj.wp6, Fj.wp7, Fj.wp8, Fj.wp9, Fj.wp10, Fj.wp11, Fj.wp12, Fj.wp13, Fj.wp14, Fj.wp15, Fj.wp16, Fj.wp17, Fj.wp18, Fj.wp19, Fj.wp20, Fj.wp21, Fj.wpz, Fj.tyN, Int.reduceEq, Int.reduceLT, Int.reduceLE, Int.reduceAdd, Int.reduceSub, Int.reduceMul, Int.reduceNeg, Int.reducePow, Int.reduceToNat, Int.reduceMod, Int.reduceDiv, Int.reduceNe, Nat.reduceEqDiff, Nat.reduceMul, borOk, dkAll, dkKept, nlD, nlAll, id, frz, freeE, outsE, pick, merE, wipeE, Nat.reduceAdd, Nat.reduceSub, Nat.reduceLeDiff, Nat.reduceLT, reduceCtorEq, if_true, if_false, eq_self, forall_const, Bool.false_and]
      | _ => simp (config := {maxSteps := 1000000}) only [oBtw, oTerm, Fj.wp0, Fj.wp1, Fj.wp2, Fj.wp3, Fj.wp4, Fj.wp5, Fj.wp6, Fj.wp7, Fj.wp8, Fj.wp9, Fj.wp10, Fj.wp11, Fj.wp12, Fj.wp13, Fj.wp14, Fj.wp15, Fj.wp16, Fj.wp17, Fj.wp18, Fj.wp19, Fj.wp20, Fj.wp21, Fj.wpz, Fj.tyN, Int.reduceEq, Int.reduceLT, Int.reduceLE, Int.reduceAdd, Int.reduceSub, Int.reduceMul, Int.reduceNeg, Int.reducePow, Int.reduceToNat, Int.reduceMod, Int.reduceDiv, Int.reduceNe, Nat.reduceEqDiff, Nat.reduceMul, borOk, dkAll, dkKept, nlD, nlAll, id, frz, freeE, outsE, pick, merE, wipeE, Nat.reduceAdd, Nat.reduceSub, Nat.reduceLeDiff, Nat.reduceLT, reduceCtorEq, if_true, if_false, eq_self, forall_const, Bool.false_and]
    · have : ¬ (((r.length + 1 + 1 + 1 : Nat) : Int) = 2) := by omega
      simp (config := {maxSteps := 1000000}) only [mf_is_term, mb_is_term, mb_is_term_1, p_row, oTerm, this, Fj.wp0, Fj.wp1, Fj.wp2, Fj.wp3, Fj.wp4, Fj.wp5, Fj.wp6, Fj.wp7, Fj.wp8, Fj.wp9, Fj.wp10, Fj.wp11, Fj.wp12, Fj.wp13, Fj.wp14, Fj.wp15, Fj.wp16, Fj.wp17, Fj.wp18, Fj.wp19, Fj.wp20, Fj.wp21, Fj.wpz, Fj.tyN, Int.reduceEq, Int.reduceLT, Int.reduceLE, Int.reduceAdd, Int.reduceSub, Int.reduceMul, Int.reduceNeg, Int.reducePow, Int.reduceToNat, Int.reduceMod, Int.reduceDiv, Int.reduceNe, Nat.reduceEqDiff, Nat.reduceMul, borOk, dkAll, dkKept, nlD, nlAll, id, frz, freeE, outsE, pick, merE, wipeE, Nat.reduceAdd, Nat.reduceSub, Nat.reduceLeDiff, Nat.reduceLT, reduceCtorEq, if_true, if_false, eq_self, forall_const, Bool.false_and]
  | _ => simp (config := {maxSteps := 1000000}) only [mf_is_term, mb_is_term, mb_is_term_1, p_row, oTerm, Fj.wp0, Fj.wp1, Fj.wp2, Fj.wp3, Fj.wp4, Fj.wp5, Fj.wp6, Fj.wp7, Fj.wp8, Fj.wp9, Fj.wp10, Fj.wp11, Fj.wp12, Fj.wp13, Fj.wp14, Fj.wp15, Fj.wp16, Fj.wp17, Fj.wp18, Fj.wp19, Fj.wp20, Fj.wp21, Fj.wpz, Fj.tyN, Int.reduceEq, Int.reduceLT, Int.reduceLE, Int.reduceAdd, Int.reduceSub, Int.reduceMul, Int.reduceNeg, Int.reducePow, Int.reduceToNat, Int.reduceMod, Int.reduceDiv, Int.reduceNe, Nat.reduceEqDiff, Nat.reduceMul, borOk, dkAll, dkKept, nlD, nlAll, id, frz, freeE, outsE, pick, merE, wipeE, Nat.reduceAdd, Nat.reduceSub, Nat.reduceLeDiff, Nat.reduceLT, reduceCtorEq, if_true, if_false, eq_self, forall_const, Bool.false_and]
end L_k36

set_option maxRecDepth 100000
set_option maxHeartbeats 0
set_option linter.all false
set_option linter.unusedSimpArgs false
namespace L_k36
open PySem PySem.Spec PyProof.Rows L2 Fj
/-! bars, problems, choices, by the program -/
theorem term_form {ns : List Int} {d : PyData} (h : oTerm ns d = true) : ∃ i m, d = .tuple [.int i, m] ∧ 0 ≤ i ∧ i < ns.length ∧ oMarks (ns.getD i.toNat 0) m = true := by
  unfold oTerm at h
  split at h
  · rename_i i m
    rw [Bool.and_eq_true, Bool.and_eq_true, decide_eq_true_iff, decide_eq_true_iff] at h
    exact ⟨i, m, rfl, h.1, h.2.1, h.2.2⟩
  · cases h
def fst0 : PyData → Int
  | .tuple (.int i :: _) => i
  | _ => 0
def oBar (ns : List Int) : PyData → Bool
  | .tuple ts => ts.all (oTerm ns) && rise (ts.map fst0)
  | _ => false
theorem p_bar (ns : List Int) (hn : ns.length ≤ 1000) (d : PyData) (hs : Sh d) : mf_is_bar_value [.val (.tuple (ns.map .int)), .val d] = some (.val (.bool (oBar ns d)), [.no, .no]) := by
  refine W_eq ?_
  cases d with
  | tuple ts =>
    obtain ⟨hl, hr⟩ := hs.of
    simp (config := {maxSteps := 1000000}) only [mf_is_bar_value, mb_is_bar_value, mb_is_bar_value_2, lc_is_bar_value_1, Fj.wp0, Fj.wp1, Fj.wp2, Fj.wp3, Fj.wp4, Fj.wp5, Fj.wp6, Fj.wp7, Fj.wp8, Fj.wp9, Fj.wp10, Fj.wp11, Fj.wp12, Fj.wp13, Fj.wp14, Fj.wp15, Fj.wp16, Fj.wp17, Fj.wp18, Fj.wp19, Fj.wp20, Fj.wp21, Fj.wpz, Fj.tyN, Int.reduceEq, Int.reduceLT, Int.reduceLE, Int.reduceAdd, Int.reduceSub, Int.reduceMul, Int.reduceNeg, Int.reducePow, Int.reduceToNat, Int.reduceMod, Int.reduceDiv, Int.reduceNe, Nat.reduceEqDiff, Nat.reduceMul, borOk, dkAll, dkKept, nlD, nlAll, id, frz, freeE, outsE, pick, merE, wipeE, Nat.reduceAdd, Nat.reduceSub, Nat.reduceLeDiff, Nat.reduceLT, reduceCtorEq, if_true, if_false, eq_self, forall_const, Bool.false_and]
    refine w_lcMapD (fun d => .bool (oTerm ns d)) (fun x hx => by simp (config := {maxSteps := 1000000}) only [p_term ns hn x (hr x hx), Fj.wp0, Fj.wp1, Fj.wp2, Fj.wp3, Fj.wp4, Fj.wp5, Fj.wp6, Fj.wp7, Fj.wp8, Fj.wp9, Fj.wp10, Fj.wp11, Fj.wp12, Fj.wp13, Fj.wp14, Fj.wp15, Fj.wp16, Fj.wp17, Fj.wp18, Fj.wp19, Fj.wp20, Fj.wp21, Fj.wpz, Fj.tyN, Int.reduceEq, Int.reduceLT, Int.reduceLE, Int.reduceAdd, Int.reduceSub, Int.reduceMul, Int.reduceNeg, Int.reducePow, Int.reduceToNat, Int.reduceMod, Int.reduceDiv, Int.reduceNe, Nat.reduceEqDiff, Nat.reduceMul, borOk, dkAll, dkKept, nlD, nlAll, id, frz, freeE, outsE, pick, merE, wipeE, Nat.reduceAdd, Nat.reduceSub, Nat.reduceLeDiff, Nat.reduceLT, reduceCtorEq, if_true, if_false, eq_self, forall_const, Bool.false_and]) (by omega) ?_
    simp (config := {maxSteps := 1000000}) only [g_boolsF, List.all_map, Fj.wp0, Fj.wp1, Fj.wp2, Fj.wp3, Fj.wp4, Fj.wp5, Fj.wp6, Fj.wp7, Fj.wp8, Fj.wp9, Fj.wp10, Fj.wp11, Fj.wp12, Fj.wp13, Fj.wp14, Fj.wp15, Fj.wp16, Fj.wp17, Fj.wp18, Fj.wp19, Fj.wp20, Fj.wp21, Fj.wpz, Fj.tyN, Int.reduceEq, Int.reduceLT, Int.reduceLE, Int.reduceAdd, Int.reduceSub, Int.reduceMul, Int.reduceNeg, Int.reducePow, Int.reduceToNat, Int.reduceMod, Int.reduceDiv, Int.reduceNe, Nat.reduceEqDiff, Nat.reduceMul, borOk, dkAll, dkKept, nlD, nlAll, id, frz, freeE, outsE, pick, merE, wipeE, Nat.reduceAdd, Nat.reduceSub, Nat.reduceLeDiff, Nat.reduceLT, reduceCtorEq, if_true, if_false, eq_self, forall_const, Bool.false_and]
    have e1 : (ts.all (id ∘ oTerm ns)) = ts.all (oTerm ns) := rfl
    rw [e1]
    cases ha : ts.all (oTerm ns) with
    | false => simp (config := {maxSteps := 1000000}) only [oBar, ha, Fj.wp0, Fj.wp1, Fj.wp2, Fj.wp3, Fj.wp4, Fj.wp5, Fj.wp6, Fj.wp7, Fj.wp8, Fj.wp9, Fj.wp10, Fj.wp11, Fj.wp12, Fj.wp13, Fj.wp14, Fj.wp15, Fj.wp16, Fj.wp17, Fj.wp18, Fj.wp19, Fj.wp20, Fj.wp21, Fj.wpz, Fj.tyN, Int.reduceEq, Int.reduceLT, Int.reduceLE, Int.reduceAdd, Int.reduceSub, Int.reduceMul, Int.reduceNeg, Int.reducePow, Int.reduceToNat, Int.reduceMod, Int.reduceDiv, Int.reduceNe, Nat.reduceEqDiff, Nat.reduceMul, borOk, dkAll, dkKept, nlD, nlAll, id, frz, freeE, outsE, pick, merE, wipeE, Nat.reduceAdd, Nat.reduceSub, Nat.reduceLeDiff, Nat.reduceLT, reduceCtorEq, if_true, if_false, eq_self, forall_const, Bool.false_and]
    | true =>
      simp (config := {maxSteps := 1000000}) only [lc_is_bar_value_3, Fj.wp0, Fj.wp1, Fj.wp2, Fj.wp3, Fj.wp4, Fj.wp5, Fj.wp6, Fj.wp7, Fj.wp8, Fj.wp9, Fj.wp10, Fj.wp11, Fj.wp12, Fj.wp13, Fj.wp14, Fj.wp15, Fj.wp16, Fj.wp17, Fj.wp18, Fj.wp19, Fj.wp20, Fj.wp21, Fj.wpz, Fj.tyN, Int.reduceEq, Int.reduceLT, Int.reduceLE, Int.reduceAdd, Int.reduceSub, Int.reduceMul, Int.reduceNeg, Int.reducePow, Int.reduceToNat, Int.reduceMod, Int.reduceDiv, Int.reduceNe, Nat.reduceEqDiff, Nat.reduceMul, borOk, dkAll, dkKept, nlD, nlAll, id, frz, freeE, outsE, pick, merE, wipeE, Nat.reduceAdd, Nat.reduceSub, Nat.reduceLeDiff, Nat.reduceLT, reduceCtorEq, if_true, if_false, eq_self, forall_const, Bool.false_and]
      refine w_lcMapD (fun d => .int (fst0 d)) (fun x hx => ?_) (by omega) ?_
      · obtain ⟨i, m, rfl, _⟩ := term_form (List.all_eq_true.mp ha x hx)
        simp (config := {maxSteps := 1000000}) only [fst0, Fj.wp0, Fj.wp1, Fj.wp2, Fj.wp3, Fj.wp4, Fj.wp5, Fj.wp6, Fj.wp7, Fj.wp8, Fj.wp9, Fj.wp10, Fj.wp11, Fj.wp12, Fj.wp13, Fj.wp14, Fj.wp15, Fj.wp16, Fj.wp17, Fj.wp18, Fj.wp19, Fj.wp20, Fj.wp21, Fj.wpz, Fj.tyN, Int.reduceEq, Int.reduceLT, Int.reduceLE, Int.reduceAdd, Int.reduceSub, Int.reduceMul, Int.reduceNeg, Int.reducePow, Int.reduceToNat, Int.reduceMod, Int.reduceDiv, Int.reduceNe, Nat.reduceEqDiff, Nat.reduceMul, borOk, dkAll, dkKept, nlD, nlAll, id, frz, freeE, outsE, pick, merE, wipeE, Nat.reduceAdd, Nat.reduceSub, Nat.reduceLeDiff, Nat.reduceLT, reduceCtorEq, if_true, if_false, eq_self, forall_const, Bool.false_and]
      · have hb := p_riseL (ts.map fst0) (by rw [List.length_map]; omega)
        rw [List.map_map] at hb
        have e2 : (PyData.int ∘ fst0) = fun d => PyData.int (fst0 d) := rfl
        rw [e2] at hb
        simp (config := {maxSteps := 1000000}) only [hb, oBar, ha, Fj.wp0, Fj.wp1, Fj.wp2, Fj.wp3, Fj.wp4, Fj.wp5, Fj.wp6, Fj.wp7, Fj.wp8, Fj.wp9, Fj.wp10, Fj.wp11, Fj.wp12, Fj.wp13, Fj.wp14, Fj.wp15, Fj.wp16, Fj.wp17, Fj.wp18, Fj.wp19, Fj.wp20, Fj.wp21, Fj.wpz, Fj.tyN, Int.reduceEq, Int.reduceLT, Int.reduceLE, Int.reduceAdd, Int.reduceSub, Int.reduceMul, Int.reduceNeg, Int.reducePow, Int.reduceToNat, Int.reduceMod, Int.reduceDiv, Int.reduceNe, Nat.reduceEqDiff, Nat.reduceMul, borOk, dkAll, dkKept, nlD, nlAll, id, frz, freeE, outsE, pick, merE, wipeE, Nat.reduceAdd, Nat.reduceSub, Nat.reduceLeDiff, Nat.reduceLT, reduceCtorEq, if_true, if_false, eq_self, forall_const, Bool.false_and]
  | _ => simp (config := {maxSteps := 1000000}) only [mf_is_bar_value, mb_is_bar_value, mb_is_bar_value_2, lc_is_bar_value_1, oBar, Fj.wp0, Fj.wp1, Fj.wp2, Fj.wp3, Fj.wp4, Fj.wp5, Fj.wp6, Fj.wp7, Fj.wp8, Fj.wp9, Fj.wp10, Fj.wp11, Fj.wp12, Fj.wp13, Fj.wp14, Fj.wp15, Fj.wp16, Fj.wp17, Fj.wp18, Fj.wp19, Fj.wp20, Fj.wp21, Fj.wpz, Fj.tyN, Int.reduceEq, Int.reduceLT, Int.reduceLE, Int.reduceAdd, Int.reduceSub, Int.reduceMul, Int.reduceNeg, Int.reducePow, Int.reduceToNat, Int.reduceMod, Int.reduceDiv, Int.reduceNe, Nat.reduceEqDiff, Nat.reduceMul, borOk, dkAll, dkKept, nlD, nlAll, id, frz, freeE, outsE, pick, merE, wipeE, Nat.reduceAdd, Nat.reduceSub, Nat.reduceLeDiff, Nat.reduceLT, reduceCtorEq, if_true, if_false, eq_self, forall_const, Bool.false_and]
def szs : PyData → List Int
  | .tuple ds => ds.map valI
  | _ => []
theorem sizes_form {d : PyData} (h : oSizes d = true) : d = .tuple ((szs d).map .int) ∧ ∀ n ∈ szs d, 1 ≤ n := by
  cases d with
  | tuple ds =>
    have h : ds.all oPos = true := h
    refine ⟨?_, fun n hn => ?_⟩
    · show PyData.tuple ds = .tuple ((ds.map valI).map .int)
      rw [List.map_map]
      refine congrArg PyData.tuple ((List.map_id ds).symm.trans (List.map_congr_left fun d hd => ?_))
      have := List.all_eq_true.mp h d hd
      cases d <;> first | rfl | cases this
    · obtain ⟨d, hd, rfl⟩ := List.mem_map.mp hn
      have := List.all_eq_true.mp h d hd
      cases d <;> first | exact of_decide_eq_true this | cases this
  | _ => cases h
def oProblem : PyData → Bool
  | .tuple [s, .tuple bs] => oSizes s && bs.all (oBar (szs s))
  | _ => false
theorem p_problem (d : PyData) (hs : Sh d) : mf_is_problem_value [.val d] = some (.val (.bool (oProblem d)), [.no]) := by
  refine W_eq ?_
  cases d with
  | tuple ds =>
    obtain ⟨hl, hr⟩ := hs.of
    rcases ds with _ | ⟨a, _ | ⟨b, _ | ⟨c, r⟩⟩⟩
    · simp (config := {maxSteps := 1000000}) only [mf_is_problem_value, mb_is_problem_value, mb_is_problem_value_1, p_row, oProblem, Fj.wp0, Fj.wp1, Fj.wp2, Fj.wp3, Fj.wp4, Fj.wp5, Fj.wp6, Fj.wp7, Fj.wp8, Fj.wp9, Fj.wp10, Fj.wp11, Fj.wp12, Fj.wp13, Fj.wp14, Fj.wp15, Fj.wp16, Fj.wp17, Fj.wp18, Fj.wp19, Fj.wp20, Fj.wp21, Fj.wpz, Fj.tyN, Int.reduceEq, Int.reduceLT, Int.reduceLE, Int.reduceAdd, Int.reduceSub, Int.reduceMul, Int.reduceNeg, Int.reducePow, Int.reduceToNat, Int.reduceMod, Int.reduceDiv, Int.reduceNe, Nat.reduceEqDiff, Nat.reduceMul, borOk, dkAll, dkKept, nlD, nlAll, id, frz, freeE, outsE, pick, merE, wipeE, Nat.reduceAdd, Nat.reduceSub, Nat.reduceLeDiff, Nat.reduceLT, reduceCtorEq, if_true, if_false, eq_self, forall_const, Bool.false_and]
    · simp (config := {maxSteps := 1000000}) only [mf_is_problem_value, mb_is_problem_value, mb_is_problem_value_1, p_row, oProblem, Fj.wp0, Fj.wp1, Fj.wp2, Fj.wp3, Fj.wp4, Fj.wp5, Fj.wp6, Fj.wp7, Fj.wp8, Fj.wp9, Fj.wp10, Fj.wp11, Fj.wp12, Fj.wp13, Fj.wp14, Fj.wp15, Fj.wp16, Fj.wp17, Fj.wp18, Fj.wp19, Fj.wp20, Fj.wp21, Fj.wpz, Fj.tyN, Int.reduceEq, Int.reduceLT, Int.reduceLE, Int.reduceAdd, Int.reduceSub, Int.reduceMul, Int.reduceNeg, Int.reducePow, Int.reduceToNat, Int.reduceMod, Int.reduceDiv, Int.reduceNe, Nat.reduceEqDiff, Nat.reduceMul, borOk, dkAll, dkKept, nlD, nlAll, id, frz, freeE, outsE, pick, merE, wipeE, Nat.reduceAdd, Nat.reduceSub, Nat.reduceLeDiff, Nat.reduceLT, reduceCtorEq, if_true, if_false, eq_self, forall_const, Bool.false_and]
    · have ps := p_sizes a (hr a (by simp)).len
      simp (config := {maxSteps := 1000000}) only [mf_is_problem_value, mb_is_problem_value, mb_is_problem_value_1, p_row, ps, Fj.wp0, Fj.wp1, Fj.wp2, Fj.wp3, Fj.wp4, Fj.wp5, Fj.wp6, Fj.wp7, Fj.wp8, Fj.wp9, Fj.wp10, Fj.wp11, Fj.wp12, Fj.wp13, Fj.wp14, Fj.wp15, Fj.wp16, Fj.wp17, Fj.wp18, Fj.wp19, Fj.wp20, Fj.wp21, Fj.wpz, Fj.tyN, Int.reduceEq, Int.reduceLT, Int.reduceLE, Int.reduceAdd, Int.reduceSub, Int.reduceMul, Int.reduceNeg, Int.reducePow, Int.reduceToNat, Int.reduceMod, Int.reduceDiv, Int.reduceNe, Nat.reduceEqDiff, Nat.reduceMul, borOk, dkAll, dkKept, nlD, nlAll, id, frz, freeE, outsE, pick, merE, wipeE, Nat.reduceAdd, Nat.reduceSub, Nat.reduceLeDiff, Nat.reduceLT, reduceCtorEq, if_true, if_false, eq_self, forall_const, Bool.false_and]
      cases ha : oSizes a with
      | false =>
        cases b <;> simp (config := {maxSteps := 1000000}) only [oProblem, ha, Fj.wp0, Fj.wp1, Fj.wp2, Fj.wp3, Fj.wp4, Fj.wp5, Fj.wp6, Fj.wp7, Fj.wp8, Fj.wp9, Fj.wp10, Fj.wp11, Fj.wp12, Fj.wp13, Fj.wp14, Fj.wp15, Fj.wp16, Fj.wp17, Fj.wp18, Fj.wp19, Fj.wp20, Fj.wp21, Fj.wpz, Fj.tyN, Int.reduceEq, Int.reduceLT, Int.reduceLE, Int.reduceAdd, Int.reduceSub, Int.reduceMul, Int.reduceNeg, Int.reducePow, Int.reduceToNat, Int.reduceMod, Int.reduceDiv, Int.reduceNe, Nat.reduceEqDiff, Nat.reduceMul, borOk, dkAll, dkKept, nlD, nlAll, id, frz, freeE, outsE, pick, merE, wipeE, Nat.reduceAdd, Nat.reduceSub, Nat.reduceLeDiff, Nat.reduceLT, reduceCtorEq, if_true, if_false, eq_self, forall_const, Bool.false_and]
      | true =>
        simp (config := {maxSteps := 1000000}) only [Fj.wp0, Fj.wp1, Fj.wp2, Fj.wp3, Fj.wp4, Fj.wp5, Fj.wp6, Fj.wp7, Fj.wp8, Fj.wp9, Fj.wp10, Fj.wp11, Fj.wp12, Fj.wp13, Fj.wp14, Fj.wp15, Fj.wp16, Fj.wp17, Fj.wp18, Fj.wp19, Fj.wp20, Fj.wp21, Fj.wpz, Fj.tyN, Int.reduceEq, Int.reduceLT, Int.reduceLE, Int.reduceAdd, Int.reduceSub, Int.reduceMul, Int.reduceNeg, Int.reducePow, Int.reduceToNat, Int.reduceMod, Int.reduceDiv, Int.reduceNe, Nat.reduceEqDiff, Nat.reduceMul, borOk, dkAll, dkKept, nlD, nlAll, id, frz, freeE, outsE, pick, merE, wipeE, Nat.reduceAdd, Nat.reduceSub, Nat.reduceLeDiff, Nat.reduceLT, reduceCtorEq, if_true, if_false, eq_self, forall_const, Bool.false_and]
        cases b with
        | tuple bs =>
          obtain ⟨hbl, hbr⟩ := (hr (.tuple bs) (by simp)).of
          obtain ⟨ea, _⟩ := sizes_form ha
          have hal : (szs a).length ≤ 1000 := by
            have := (hr a (by simp)).len _ ea
            rwa [List.length_map] at this
          simp (config := {maxSteps := 1000000}) only [lc_is_problem_value_2, Fj.wp0, Fj.wp1, Fj.wp2, Fj.wp3, Fj.wp4, Fj.wp5, Fj.wp6, Fj.wp7, Fj.wp8, Fj.wp9, Fj.wp10, Fj.wp11, Fj.wp12, Fj.wp13, Fj.wp14, Fj.wp15, Fj.wp16, Fj.wp17, Fj.wp18, Fj.wp19, Fj.wp20, Fj.wp21, Fj.wpz, Fj.tyN, Int.reduceEq, Int.reduceLT, Int.reduceLE, Int.reduceAdd, Int.reduceSub, Int.reduceMul, Int.reduceNeg, Int.reducePow, Int.reduceToNat, Int.reduceMod, Int.reduceDiv, Int.reduceNe, Nat.reduceEqDiff, Nat.reduceMul, borOk, dkAll, dkKept, nlD, nlAll, id, frz, freeE, outsE, pick, merE, wipeE, Nat.reduceAdd, Nat.reduceSub, Nat.reduceLeDiff, Nat.reduceLT, reduceCtorEq, if_true, if_false, eq_self, forall_const, Bool.false_and]
          refine w_lcMapD (fun d => .bool (oBar (szs a) d)) (fun x hx => ?_) (by omega) ?_
          · have hb := p_bar (szs a) hal x (hbr x hx)
            rw [← ea] at hb
            simp (config := {maxSteps := 1000000}) only [hb, Fj.wp0, Fj.wp1, Fj.wp2, Fj.wp3, Fj.wp4, Fj.wp5, Fj.wp6, Fj.wp7, Fj.wp8, Fj.wp9, Fj.wp10, Fj.wp11, Fj.wp12, Fj.wp13, Fj.wp14, Fj.wp15, Fj.wp16, Fj.wp17, Fj.wp18, Fj.wp19, Fj.wp20, Fj.wp21, Fj.wpz, Fj.tyN, Int.reduceEq, Int.reduceLT, Int.reduceLE, Int.reduceAdd, Int.reduceSub, Int.reduceMul, Int.reduceNeg, Int.reducePow, Int.reduceToNat, Int.reduceMod, Int.reduceDiv, Int.reduceNe, Nat.reduceEqDiff, Nat.reduceMul, borOk, dkAll, dkKept, nlD, nlAll, id, frz, freeE, outsE, pick, merE, wipeE, Nat.reduceAdd, Nat.reduceSub, Nat.reduceLeDiff, Nat.reduceLT, reduceCtorEq, if_true, if_false, eq_self, forall_const, Bool.false_and]
          · simp (config := {maxSteps := 1000000}) only [g_boolsF, List.all_map, oProblem, ha, Fj.wp0, Fj.wp1, Fj.wp2, Fj.wp3, Fj.wp4, Fj.wp5, Fj.wp6, Fj.wp7, Fj.wp8, Fj.wp9, Fj.wp10, Fj.wp11, Fj.wp12, Fj.wp13, Fj.wp14, Fj.wp15, Fj.wp16, Fj.wp17, Fj.wp18, Fj.wp19, Fj.wp20, Fj.wp21, Fj.wpz, Fj.tyN, Int.reduceEq, Int.reduceLT, Int.reduceLE, Int.reduceAdd, Int.reduceSub, Int.reduceMul, Int.reduceNeg, Int.reducePow, Int.reduceToNat, Int.reduceMod, Int.reduceDiv, Int.reduceNe, Nat.reduceEqDiff, Nat.reduceMul, borOk, dkAll, dkKept, nlD, nlAll, id, frz, freeE, outsE, pick, merE, wipeE, Nat.reduceAdd, Nat.reduceSub, Nat.reduceLeDiff, Nat.reduceLT, reduceCtorEq, if_true, if_false, eq_self, forall_const, Bool.false_and]
            rfl
        | _ => simp (config := {maxSteps := 1000000}) only [oProblem, ha, Fj.wp0, Fj.wp1, Fj.wp2, Fj.wp3, Fj.wp4, Fj.wp5, Fj.wp6, Fj.wp7, Fj.wp8, Fj.wp9, Fj.wp10, Fj.wp11, Fj.wp12, Fj.wp13, Fj.wp14, Fj.wp15, Fj.wp16, Fj.wp17, Fj.wp18, Fj.wp19, Fj.wp20, Fj.wp21, Fj.wpz, Fj.tyN, Int.reduceEq, Int.reduceLT, Int.reduceLE, Int.reduceAdd, Int.reduceSub, Int.reduceMul, Int.reduceNeg, Int.reducePow, Int.reduceToNat, Int.reduceMod, Int.reduceDiv, Int.reduceNe, Nat.reduceEqDiff, Nat.reduceMul, borOk, dkAll, dkKept, nlD, nlAll, id, frz, freeE, outsE, pick, merE, wipeE, Nat.reduceAdd, Nat.reduceSub, Nat.reduceLeDiff, Nat.reduceLT, reduceCtorEq, if_true, if_false, eq_self, forall_const, Bool.false_and]
    · have : ¬ (((r.length + 1 + 1 + 1 : Nat) : Int) = 2) := by omega
      simp (config := {maxSteps := 1000000}) only [mf_is_problem_value, mb_is_problem_value, mb_is_problem_value_1, p_row, oProblem, this, Fj.wp0, Fj.wp1, Fj.wp2, Fj.wp3, Fj.wp4, Fj.wp5, Fj.wp6, Fj.wp7, Fj.wp8, Fj.wp9, Fj.wp10, Fj.wp11, Fj.wp12, Fj.wp13, Fj.wp14, Fj.wp15, Fj.wp16, Fj.wp17, Fj.wp18, Fj.wp19, Fj.wp20, Fj.wp21, Fj.wpz, Fj.tyN, Int.reduceEq, Int.reduceLT, Int.reduceLE, Int.reduceAdd, Int.reduceSub, Int.reduceMul, Int.reduceNeg, Int.reducePow, Int.reduceToNat, Int.reduceMod, Int.reduceDiv, Int.reduceNe, Nat.reduceEqDiff, Nat.reduceMul, borOk, dkAll, dkKept, nlD, nlAll, id, frz, freeE, outsE, pick, merE, wipeE, Nat.reduceAdd, Nat.reduceSub, Nat.reduceLeDiff, Nat.reduceLT, reduceCtorEq, if_true, if_false, eq_self, forall_const, Bool.false_and]
  | _ => simp (config := {maxSteps := 1000000}) only [mf_is_problem_value, mb_is_problem_value, mb_is_problem_value_1, p_row, oProblem, Fj.wp0, Fj.wp1, Fj.wp2, Fj.wp3, Fj.wp4, Fj.wp5, Fj.wp6, Fj.wp7, Fj.wp8, Fj.wp9, Fj.wp10, Fj.wp11, Fj.wp12, Fj.wp13, Fj.wp14, Fj.wp15, Fj.wp16, Fj.wp17, Fj.wp18, Fj.wp19, Fj.wp20, Fj.wp21, Fj.wpz, Fj.tyN, Int.reduceEq, Int.reduceLT, Int.reduceLE, Int.reduceAdd, Int.reduceSub, Int.reduceMul, Int.reduceNeg, Int.reducePow, Int.reduceToNat, Int.reduceMod, Int.reduceDiv, Int.reduceNe, Nat.reduceEqDiff, Nat.reduceMul, borOk, dkAll, dkKept, nlD, nlAll, id, frz, freeE, outsE, pick, merE, wipeE, Nat.reduceAdd, Nat.reduceSub, Nat.reduceLeDiff, Nat.reduceLT, reduceCtorEq, if_true, if_false, eq_self, forall_const, Bool.false_and]
def oChoice (ns : List Int) : PyData → Bool
  | .tuple ss => decide ((ss.length : Int) = ns.length) && (ss.zip ns).all fun p => oBtw 0 (p.2 - 1) p.1
  | _ => false
theorem zip_dn (ss : List PyData) (ns : List Int) : zipD ss (ns.map .int) = (ss.zip ns).map fun p => .tuple [p.1, .int p.2] := by
  unfold zipD
  rw [show ss.zip (ns.map PyData.int) = (ss.map id).zip (ns.map .int) by rw [List.map_id], List.zip_map, List.map_map]
  rfl
theorem p_choice (ns : List Int) (hn : ns.length ≤ 1000) (d : PyData) : mf_is_choice_value [.val (.tuple (ns.map .int)), .val d] = some (.val (.bool (oChoice ns d)), [.no, .no]) := by
  refine W_eq ?_
  cases d with
  | tuple ss =>
    by_cases h : (ss.length : Int) = ns.length
    · simp (config := {maxSteps := 1000000}) only [mf_is_choice_value, mb_is_choice_value, p_row, h, List.length_map, lc_is_choice_value_1, zip_dn, Fj.wp0, Fj.wp1, Fj.wp2, Fj.wp3, Fj.wp4, Fj.wp5, Fj.wp6, Fj.wp7, Fj.wp8, Fj.wp9, Fj.wp10, Fj.wp11, Fj.wp12, Fj.wp13, Fj.wp14, Fj.wp15, Fj.wp16, Fj.wp17, Fj.wp18, Fj.wp19, Fj.wp20, Fj.wp21, Fj.wpz, Fj.tyN, Int.reduceEq, Int.reduceLT, Int.reduceLE, Int.reduceAdd, Int.reduceSub, Int.reduceMul, Int.reduceNeg, Int.reducePow, Int.reduceToNat, Int.reduceMod, Int.reduceDiv, Int.reduceNe, Nat.reduceEqDiff, Nat.reduceMul, borOk, dkAll, dkKept, nlD, nlAll, id, frz, freeE, outsE, pick, merE, wipeE, Nat.reduceAdd, Nat.reduceSub, Nat.reduceLeDiff, Nat.reduceLT, reduceCtorEq, if_true, if_false, eq_self, forall_const, Bool.false_and]
      refine w_lcMap _ (fun p => .bool (oBtw 0 (p.2 - 1) p.1)) (fun x hx => by simp (config := {maxSteps := 1000000}) only [p_btw, Fj.wp0, Fj.wp1, Fj.wp2, Fj.wp3, Fj.wp4, Fj.wp5, Fj.wp6, Fj.wp7, Fj.wp8, Fj.wp9, Fj.wp10, Fj.wp11, Fj.wp12, Fj.wp13, Fj.wp14, Fj.wp15, Fj.wp16, Fj.wp17, Fj.wp18, Fj.wp19, Fj.wp20, Fj.wp21, Fj.wpz, Fj.tyN, Int.reduceEq, Int.reduceLT, Int.reduceLE, Int.reduceAdd, Int.reduceSub, Int.reduceMul, Int.reduceNeg, Int.reducePow, Int.reduceToNat, Int.reduceMod, Int.reduceDiv, Int.reduceNe, Nat.reduceEqDiff, Nat.reduceMul, borOk, dkAll, dkKept, nlD, nlAll, id, frz, freeE, outsE, pick, merE, wipeE, Nat.reduceAdd, Nat.reduceSub, Nat.reduceLeDiff, Nat.reduceLT, reduceCtorEq, if_true, if_false, eq_self, forall_const, Bool.false_and]) (by rw [List.length_zip]; omega) ?_
      simp (config := {maxSteps := 1000000}) only [g_boolsF, List.all_map, oChoice, h, Fj.wp0, Fj.wp1, Fj.wp2, Fj.wp3, Fj.wp4, Fj.wp5, Fj.wp6, Fj.wp7, Fj.wp8, Fj.wp9, Fj.wp10, Fj.wp11, Fj.wp12, Fj.wp13, Fj.wp14, Fj.wp15, Fj.wp16, Fj.wp17, Fj.wp18, Fj.wp19, Fj.wp20, Fj.wp21, Fj.wpz, Fj.tyN, Int.reduceEq, Int.reduceLT, Int.reduceLE, Int.reduceAdd, Int.reduceSub, Int.reduceMul, Int.reduceNeg, Int.reducePow, Int.reduceToNat, Int.reduceMod, Int.reduceDiv, Int.reduceNe, Nat.reduceEqDiff, Nat.reduceMul, borOk, dkAll, dkKept, nlD, nlAll, id, frz, freeE, outsE, pick, merE, wipeE, Nat.reduceAdd, Nat.reduceSub, Nat.reduceLeDiff, Nat.reduceLT, reduceCtorEq, if_true, if_false, eq_self, forall_const, Bool.false_and]
      rfl
    · simp (config := {maxSteps := 1000000}) only [mf_is_choice_value, mb_is_choice_value, p_row, h, List.length_map, oChoice, Fj.wp0, Fj.wp1, Fj.wp2, Fj.wp3, Fj.wp4, Fj.wp5, Fj.wp6, Fj.wp7, Fj.wp8, Fj.wp9, Fj.wp10, Fj.wp11, Fj.wp12, Fj.wp13, Fj.wp14, Fj.wp15, Fj.wp16, Fj.wp17, Fj.wp18, Fj.wp19, Fj.wp20, Fj.wp21, Fj.wpz, Fj.tyN, Int.reduceEq, Int.reduceLT, Int.reduceLE, Int.reduceAdd, Int.reduceSub, Int.reduceMul, Int.reduceNeg, Int.reducePow, Int.reduceToNat, Int.reduceMod, Int.reduceDiv, Int.reduceNe, Nat.reduceEqDiff, Nat.reduceMul, borOk, dkAll, dkKept, nlD, nlAll, id, frz, freeE, outsE, pick, merE, wipeE, Nat.reduceAdd, Nat.reduceSub, Nat.reduceLeDiff, Nat.reduceLT, reduceCtorEq, if_true, if_false, eq_self, forall_const, Bool.false_and]
  | _ => simp (config := {maxSteps := 1000000}) only [mf_is_choice_value, mb_is_choice_value, p_row, List.length_map, oChoice, Fj.wp0, Fj.wp1, Fj.wp2, Fj.wp3, Fj.wp4, Fj.wp5, Fj.wp6, Fj.wp7, Fj.wp8, Fj.wp9, Fj.wp10, Fj.wp11, Fj.wp12, Fj.wp13, Fj.wp14, Fj.wp15, Fj.wp16, Fj.wp17, Fj.wp18, Fj.wp19, Fj.wp20, Fj.wp21, Fj.wpz, Fj.tyN, Int.reduceEq, Int.reduceLT, Int.reduceLE, Int.reduceAdd, Int.reduceSub, Int.reduceMul, Int.reduceNeg, Int.reducePow, Int.reduceToNat, Int.reduceMod, Int.reduceDiv, Int.reduceNe, Nat.reduceEqDiff, Nat.reduceMul, borOk, dkAll, dkKept, nlD, nlAll, id, frz, freeE, outsE, pick, merE, wipeE, Nat.reduceAdd, Nat.reduceSub, Nat.reduceLeDiff, Nat.reduceLT, reduceCtorEq, if_true, if_false, eq_self, forall_const, Bool.false_and]
end L_k36

set_option maxRecDepth 100000
set_option maxHeartbeats 0
set_option linter.all false
set_option linter.unusedSimpArgs false
namespace L_k36
open PySem PySem.Spec PyProof.Rows L2 Fj
/-! the same by the law's own looks -/
theorem all_notempty {α β : Type} (p : α → Bool) (f : α → β) (xs : List α) : ((xs.filter fun x => !p x).map f).isEmpty = xs.all p := by
  have := any_filter (fun x => !p x) f xs
  have h2 := congrArg (!·) this
  simp only [Bool.not_not] at h2
  rw [h2, Bool.eq_iff_iff]
  simp
theorem q_sizes (d : PyData) (hl : ∀ ds, d = .tuple ds → ds.length ≤ 1000) : mf__law_are_sizes [.val d] = some (.val (.bool (oSizes d)), [.no]) := by
  refine W_eq ?_
  cases d with
  | tuple ds =>
    have hl := hl ds rfl
    simp (config := {maxSteps := 1000000}) only [mf__law_are_sizes, mb__law_are_sizes, lc__law_are_sizes_1, Fj.wp0, Fj.wp1, Fj.wp2, Fj.wp3, Fj.wp4, Fj.wp5, Fj.wp6, Fj.wp7, Fj.wp8, Fj.wp9, Fj.wp10, Fj.wp11, Fj.wp12, Fj.wp13, Fj.wp14, Fj.wp15, Fj.wp16, Fj.wp17, Fj.wp18, Fj.wp19, Fj.wp20, Fj.wp21, Fj.wpz, Fj.tyN, Int.reduceEq, Int.reduceLT, Int.reduceLE, Int.reduceAdd, Int.reduceSub, Int.reduceMul, Int.reduceNeg, Int.reducePow, Int.reduceToNat, Int.reduceMod, Int.reduceDiv, Int.reduceNe, Nat.reduceEqDiff, Nat.reduceMul, borOk, dkAll, dkKept, nlD, nlAll, id, frz, freeE, outsE, pick, merE, wipeE, Nat.reduceAdd, Nat.reduceSub, Nat.reduceLeDiff, Nat.reduceLT, reduceCtorEq, if_true, if_false, eq_self, forall_const, Bool.false_and]
    refine w_lcFilD (fun d => !oPos d) id (fun x hx => ?_) (by omega) ?_
    · cases x with
      | int i =>
        by_cases h0 : 0 ≤ i
        · by_cases h1 : i = 0
          · subst h1
            simp (config := {maxSteps := 1000000}) only [q_num, oNum, oPos, Fj.wp0, Fj.wp1, Fj.wp2, Fj.wp3, Fj.wp4, Fj.wp5, Fj.wp6, Fj.wp7, Fj.wp8, Fj.wp9, Fj.wp10, Fj.wp11, Fj.wp12, Fj.wp13, Fj.wp14, Fj.wp15, Fj.wp16, Fj.wp17, Fj.wp18, Fj.wp19, Fj.wp20, Fj.wp21, Fj.wpz, Fj.tyN, Int.reduceEq, Int.reduceLT, Int.reduceLE, Int.reduceAdd, Int.reduceSub, Int.reduceMul, Int.reduceNeg, Int.reducePow, Int.reduceToNat, Int.reduceMod, Int.reduceDiv, Int.reduceNe, Nat.reduceEqDiff, Nat.reduceMul, borOk, dkAll, dkKept, nlD, nlAll, id, frz, freeE, outsE, pick, merE, wipeE, Nat.reduceAdd, Nat.reduceSub, Nat.reduceLeDiff, Nat.reduceLT, reduceCtorEq, if_true, if_false, eq_self, forall_const, Bool.false_and]
          · have : 1 ≤ i := by omega
            simp (config := {maxSteps := 1000000}) only [q_num, oNum, oPos, h0, h1, this, Fj.wp0, Fj.wp1, Fj.wp2, Fj.wp3, Fj.wp4, Fj.wp5, Fj.wp6, Fj.wp7, Fj.wp8, Fj.wp9, Fj.wp10, Fj.wp11, Fj.wp12, Fj.wp13, Fj.wp14, Fj.wp15, Fj.wp16, Fj.wp17, Fj.wp18, Fj.wp19, Fj.wp20, Fj.wp21, Fj.wpz, Fj.tyN, Int.reduceEq, Int.reduceLT, Int.reduceLE, Int.reduceAdd, Int.reduceSub, Int.reduceMul, Int.reduceNeg, Int.reducePow, Int.reduceToNat, Int.reduceMod, Int.reduceDiv, Int.reduceNe, Nat.reduceEqDiff, Nat.reduceMul, borOk, dkAll, dkKept, nlD, nlAll, id, frz, freeE, outsE, pick, merE, wipeE, Nat.reduceAdd, Nat.reduceSub, Nat.reduceLeDiff, Nat.reduceLT, reduceCtorEq, if_true, if_false, eq_self, forall_const, Bool.false_and]
        · have : ¬ 1 ≤ i := by omega
          simp (config := {maxSteps := 1000000}) only [q_num, oNum, oPos, h0, this, Fj.wp0, Fj.wp1, Fj.wp2, Fj.wp3, Fj.wp4, Fj.wp5, Fj.wp6, Fj.wp7, Fj.wp8, Fj.wp9, Fj.wp10, Fj.wp11, Fj.wp12, Fj.wp13, Fj.wp14, Fj.wp15, Fj.wp16, Fj.wp17, Fj.wp18, Fj.wp19, Fj.wp20, Fj.wp21, Fj.wpz, Fj.tyN, Int.reduceEq, Int.reduceLT, Int.reduceLE, Int.reduceAdd, Int.reduceSub, Int.reduceMul, Int.reduceNeg, Int.reducePow, Int.reduceToNat, Int.reduceMod, Int.reduceDiv, Int.reduceNe, Nat.reduceEqDiff, Nat.reduceMul, borOk, dkAll, dkKept, nlD, nlAll, id, frz, freeE, outsE, pick, merE, wipeE, Nat.reduceAdd, Nat.reduceSub, Nat.reduceLeDiff, Nat.reduceLT, reduceCtorEq, if_true, if_false, eq_self, forall_const, Bool.false_and]
      | _ =>
        simp (config := {maxSteps := 1000000}) only [q_num, oNum, oPos, Fj.wp0, Fj.wp1, Fj.wp2, Fj.wp3, Fj.wp4, Fj.wp5, Fj.wp6, Fj.wp7, Fj.wp8, Fj.wp9, Fj.wp10, Fj.wp11, Fj.wp12, Fj.wp13, Fj.wp14, Fj.wp15, Fj.wp16, Fj.wp17, Fj.wp18, Fj.wp19, Fj.wp20, Fj.wp21, Fj.wpz, Fj.tyN, Int.reduceEq, Int.reduceLT, Int.reduceLE, Int.reduceAdd, Int.reduceSub, Int.reduceMul, Int.reduceNeg, Int.reducePow, Int.reduceToNat, Int.reduceMod, Int.reduceDiv, Int.reduceNe, Nat.reduceEqDiff, Nat.reduceMul, borOk, dkAll, dkKept, nlD, nlAll, id, frz, freeE, outsE, pick, merE, wipeE, Nat.reduceAdd, Nat.reduceSub, Nat.reduceLeDiff, Nat.reduceLT, reduceCtorEq, if_true, if_false, eq_self, forall_const, Bool.false_and]
    · simp (config := {maxSteps := 1000000}) only [all_notempty, Fj.wp0, Fj.wp1, Fj.wp2, Fj.wp3, Fj.wp4, Fj.wp5, Fj.wp6, Fj.wp7, Fj.wp8, Fj.wp9, Fj.wp10, Fj.wp11, Fj.wp12, Fj.wp13, Fj.wp14, Fj.wp15, Fj.wp16, Fj.wp17, Fj.wp18, Fj.wp19, Fj.wp20, Fj.wp21, Fj.wpz, Fj.tyN, Int.reduceEq, Int.reduceLT, Int.reduceLE, Int.reduceAdd, Int.reduceSub, Int.reduceMul, Int.reduceNeg, Int.reducePow, Int.reduceToNat, Int.reduceMod, Int.reduceDiv, Int.reduceNe, Nat.reduceEqDiff, Nat.reduceMul, borOk, dkAll, dkKept, nlD, nlAll, id, frz, freeE, outsE, pick, merE, wipeE, Nat.reduceAdd, Nat.reduceSub, Nat.reduceLeDiff, Nat.reduceLT, reduceCtorEq, if_true, if_false, eq_self, forall_const, Bool.false_and]
      rfl
  | _ => simp (config := {maxSteps := 1000000}) only [mf__law_are_sizes, mb__law_are_sizes, oSizes, Fj.wp0, Fj.wp1, Fj.wp2, Fj.wp3, Fj.wp4, Fj.wp5, Fj.wp6, Fj.wp7, Fj.wp8, Fj.wp9, Fj.wp10, Fj.wp11, Fj.wp12, Fj.wp13, Fj.wp14, Fj.wp15, Fj.wp16, Fj.wp17, Fj.wp18, Fj.wp19, Fj.wp20, Fj.wp21, Fj.wpz, Fj.tyN, Int.reduceEq, Int.reduceLT, Int.reduceLE, Int.reduceAdd, Int.reduceSub, Int.reduceMul, Int.reduceNeg, Int.reducePow, Int.reduceToNat, Int.reduceMod, Int.reduceDiv, Int.reduceNe, Nat.reduceEqDiff, Nat.reduceMul, borOk, dkAll, dkKept, nlD, nlAll, id, frz, freeE, outsE, pick, merE, wipeE, Nat.reduceAdd, Nat.reduceSub, Nat.reduceLeDiff, Nat.reduceLT, reduceCtorEq, if_true, if_false, eq_self, forall_const, Bool.false_and]
theorem vals_ints (ks : List Int) : (ks.map PyData.int).map valI = ks := by
  rw [List.map_map]
  exact List.map_id ks
theorem bar_bad {ns : List Int} {ts done ds : List PyData} {d : PyData} (e : ts = done ++ d :: ds) (h : oTerm ns d = false) : oBar ns (.tuple ts) = false := by
  have : ts.all (oTerm ns) = false := by
    rw [e, List.all_append, List.all_cons, h, Bool.false_and, Bool.and_false]
  show (ts.all (oTerm ns) && rise (ts.map fst0)) = false
  rw [this, Bool.false_and]
theorem zip_dd (xs ys : List PyData) : zipD xs ys = (xs.zip ys).map fun p : PyData × PyData => .tuple [p.1, p.2] := rfl
theorem q_bar (ns : List Int) (hn : ns.length ≤ 1000) (d : PyData) (hs : Sh d) : mf__law_is_bar [.val (.tuple (ns.map .int)), .val d] = some (.val (.bool (oBar ns d)), [.no, .no]) := by
  refine W_eq ?_
  cases d with
  | tuple ts =>
    obtain ⟨hl, hr⟩ := hs.of
    simp (config := {maxSteps := 1000000}) only [mf__law_is_bar, mb__law_is_bar, mb__law_is_bar_1, mb__law_is_bar_6, Fj.wp0, Fj.wp1, Fj.wp2, Fj.wp3, Fj.wp4, Fj.wp5, Fj.wp6, Fj.wp7, Fj.wp8, Fj.wp9, Fj.wp10, Fj.wp11, Fj.wp12, Fj.wp13, Fj.wp14, Fj.wp15, Fj.wp16, Fj.wp17, Fj.wp18, Fj.wp19, Fj.wp20, Fj.wp21, Fj.wpz, Fj.tyN, Int.reduceEq, Int.reduceLT, Int.reduceLE, Int.reduceAdd, Int.reduceSub, Int.reduceMul, Int.reduceNeg, Int.reducePow, Int.reduceToNat, Int.reduceMod, Int.reduceDiv, Int.reduceNe, Nat.reduceEqDiff, Nat.reduceMul, borOk, dkAll, dkKept, nlD, nlAll, id, frz, freeE, outsE, pick, merE, wipeE, Nat.reduceAdd, Nat.reduceSub, Nat.reduceLeDiff, Nat.reduceLT, reduceCtorEq, if_true, if_false, eq_self, forall_const, Bool.false_and]
    refine w_forL (fun ds ρ => ∃ done e2, ts = done ++ ds ∧ done.all (oTerm ns) = true ∧ Pl e2 ∧ ρ = [.val (.tuple (ns.map .int)), .val (.tuple ts), e2, .no, .no, .no]) ?_ ?_ _ _ ⟨[], _, rfl, rfl, .no, rfl⟩
    · rintro d ds ρ ⟨done, e2, e, hd, p2, rfl⟩
      have hx : Sh d := hr d (by rw [e]; simp)
      have bad := fun h => bar_bad (ns := ns) (d := d) e h
      have good : oTerm ns d = true → ∃ done' e2', ts = done' ++ ds ∧ done'.all (oTerm ns) = true ∧ Pl e2' ∧ [Ent.val (.tuple (ns.map .int)), .val (.tuple ts), .val d, .no, .no, .no] = [Ent.val (.tuple (ns.map .int)), .val (.tuple ts), e2', .no, .no, .no] := fun h => ⟨done ++ [d], _, by rw [e, List.append_assoc]; rfl, by rw [List.all_append, hd, List.all_cons, h]; rfl, .val, rfl⟩
      simp (config := {maxSteps := 1000000}) only [mb__law_is_bar_2, p2.all, Fj.wp0, Fj.wp1, Fj.wp2, Fj.wp3, Fj.wp4, Fj.wp5, Fj.wp6, Fj.wp7, Fj.wp8, Fj.wp9, Fj.wp10, Fj.wp11, Fj.wp12, Fj.wp13, Fj.wp14, Fj.wp15, Fj.wp16, Fj.wp17, Fj.wp18, Fj.wp19, Fj.wp20, Fj.wp21, Fj.wpz, Fj.tyN, Int.reduceEq, Int.reduceLT, Int.reduceLE, Int.reduceAdd, Int.reduceSub, Int.reduceMul, Int.reduceNeg, Int.reducePow, Int.reduceToNat, Int.reduceMod, Int.reduceDiv, Int.reduceNe, Nat.reduceEqDiff, Nat.reduceMul, borOk, dkAll, dkKept, nlD, nlAll, id, frz, freeE, outsE, pick, merE, wipeE, Nat.reduceAdd, Nat.reduceSub, Nat.reduceLeDiff, Nat.reduceLT, reduceCtorEq, if_true, if_false, eq_self, forall_const, Bool.false_and]
      cases d with
      | tuple xs =>
        obtain ⟨hxl, hxr⟩ := hx.of
        rcases xs with _ | ⟨a, _ | ⟨b, _ | ⟨c, r⟩⟩⟩
        · have b0 := bad rfl
          simp (config := {maxSteps := 1000000}) only [b0, Fj.wp0, Fj.wp1, Fj.wp2, Fj.wp3, Fj.wp4, Fj.wp5, Fj.wp6, Fj.wp7, Fj.wp8, Fj.wp9, Fj.wp10, Fj.wp11, Fj.wp12, Fj.wp13, Fj.wp14, Fj.wp15, Fj.wp16, Fj.wp17, Fj.wp18, Fj.wp19, Fj.wp20, Fj.wp21, Fj.wpz, Fj.tyN, Int.reduceEq, Int.reduceLT, Int.reduceLE, Int.reduceAdd, Int.reduceSub, Int.reduceMul, Int.reduceNeg, Int.reducePow, Int.reduceToNat, Int.reduceMod, Int.reduceDiv, Int.reduceNe, Nat.reduceEqDiff, Nat.reduceMul, borOk, dkAll, dkKept, nlD, nlAll, id, frz, freeE, outsE, pick, merE, wipeE, Nat.reduceAdd, Nat.reduceSub, Nat.reduceLeDiff, Nat.reduceLT, reduceCtorEq, if_true, if_false, eq_self, forall_const, Bool.false_and]
        · have b0 := bad (by cases a <;> rfl)
          simp (config := {maxSteps := 1000000}) only [b0, Fj.wp0, Fj.wp1, Fj.wp2, Fj.wp3, Fj.wp4, Fj.wp5, Fj.wp6, Fj.wp7, Fj.wp8, Fj.wp9, Fj.wp10, Fj.wp11, Fj.wp12, Fj.wp13, Fj.wp14, Fj.wp15, Fj.wp16, Fj.wp17, Fj.wp18, Fj.wp19, Fj.wp20, Fj.wp21, Fj.wpz, Fj.tyN, Int.reduceEq, Int.reduceLT, Int.reduceLE, Int.reduceAdd, Int.reduceSub, Int.reduceMul, Int.reduceNeg, Int.reducePow, Int.reduceToNat, Int.reduceMod, Int.reduceDiv, Int.reduceNe, Nat.reduceEqDiff, Nat.reduceMul, borOk, dkAll, dkKept, nlD, nlAll, id, frz, freeE, outsE, pick, merE, wipeE, Nat.reduceAdd, Nat.reduceSub, Nat.reduceLeDiff, Nat.reduceLT, reduceCtorEq, if_true, if_false, eq_self, forall_const, Bool.false_and]
        · cases a with
          | int i =>
            by_cases h0 : 0 ≤ i
            · by_cases h1 : i < ns.length
              · have h2 : ¬ i ≥ ns.length := by omega
                have h3 := at_int h0 h1
                simp (config := {maxSteps := 1000000}) only [q_num, oNum, h0, h2, List.length_map, mb__law_is_bar_4, Fj.wp0, Fj.wp1, Fj.wp2, Fj.wp3, Fj.wp4, Fj.wp5, Fj.wp6, Fj.wp7, Fj.wp8, Fj.wp9, Fj.wp10, Fj.wp11, Fj.wp12, Fj.wp13, Fj.wp14, Fj.wp15, Fj.wp16, Fj.wp17, Fj.wp18, Fj.wp19, Fj.wp20, Fj.wp21, Fj.wpz, Fj.tyN, Int.reduceEq, Int.reduceLT, Int.reduceLE, Int.reduceAdd, Int.reduceSub, Int.reduceMul, Int.reduceNeg, Int.reducePow, Int.reduceToNat, Int.reduceMod, Int.reduceDiv, Int.reduceNe, Nat.reduceEqDiff, Nat.reduceMul, borOk, dkAll, dkKept, nlD, nlAll, id, frz, freeE, outsE, pick, merE, wipeE, Nat.reduceAdd, Nat.reduceSub, Nat.reduceLeDiff, Nat.reduceLT, reduceCtorEq, if_true, if_false, eq_self, forall_const, Bool.false_and]
                cases b with
                | tuple ms =>
                  have hm := (hxr (.tuple ms) (by simp)).of.1
                  simp (config := {maxSteps := 1000000}) only [lc__law_is_bar_3, Fj.wp0, Fj.wp1, Fj.wp2, Fj.wp3, Fj.wp4, Fj.wp5, Fj.wp6, Fj.wp7, Fj.wp8, Fj.wp9, Fj.wp10, Fj.wp11, Fj.wp12, Fj.wp13, Fj.wp14, Fj.wp15, Fj.wp16, Fj.wp17, Fj.wp18, Fj.wp19, Fj.wp20, Fj.wp21, Fj.wpz, Fj.tyN, Int.reduceEq, Int.reduceLT, Int.reduceLE, Int.reduceAdd, Int.reduceSub, Int.reduceMul, Int.reduceNeg, Int.reducePow, Int.reduceToNat, Int.reduceMod, Int.reduceDiv, Int.reduceNe, Nat.reduceEqDiff, Nat.reduceMul, borOk, dkAll, dkKept, nlD, nlAll, id, frz, freeE, outsE, pick, merE, wipeE, Nat.reduceAdd, Nat.reduceSub, Nat.reduceLeDiff, Nat.reduceLT, reduceCtorEq, if_true, if_false, eq_self, forall_const, Bool.false_and]
                  refine w_lcFilD (fun m => !oBtw 0 (ns.getD i.toNat 0 - 1) m) id (fun x hx => ?_) (by omega) ?_
                  · cases x with
                    | int j =>
                      by_cases g0 : 0 ≤ j
                      · by_cases g1 : j ≥ ns.getD i.toNat 0
                        · have : ¬ j ≤ ns.getD i.toNat 0 - 1 := by omega
                          simp (config := {maxSteps := 1000000}) only [q_num, oNum, oBtw, g0, g1, h3, this, Fj.wp0, Fj.wp1, Fj.wp2, Fj.wp3, Fj.wp4, Fj.wp5, Fj.wp6, Fj.wp7, Fj.wp8, Fj.wp9, Fj.wp10, Fj.wp11, Fj.wp12, Fj.wp13, Fj.wp14, Fj.wp15, Fj.wp16, Fj.wp17, Fj.wp18, Fj.wp19, Fj.wp20, Fj.wp21, Fj.wpz, Fj.tyN, Int.reduceEq, Int.reduceLT, Int.reduceLE, Int.reduceAdd, Int.reduceSub, Int.reduceMul, Int.reduceNeg, Int.reducePow, Int.reduceToNat, Int.reduceMod, Int.reduceDiv, Int.reduceNe, Nat.reduceEqDiff, Nat.reduceMul, borOk, dkAll, dkKept, nlD, nlAll, id, frz, freeE, outsE, pick, merE, wipeE, Nat.reduceAdd, Nat.reduceSub, Nat.reduceLeDiff, Nat.reduceLT, reduceCtorEq, if_true, if_false, eq_self, forall_const, Bool.false_and]
                        · have : j ≤ ns.getD i.toNat 0 - 1 := by omega
                          simp (config := {maxSteps := 1000000}) only [q_num, oNum, oBtw, g0, g1, h3, this, Fj.wp0, Fj.wp1, Fj.wp2, Fj.wp3, Fj.wp4, Fj.wp5, Fj.wp6, Fj.wp7, Fj.wp8, Fj.wp9, Fj.wp10, Fj.wp11, Fj.wp12, Fj.wp13, Fj.wp14, Fj.wp15, Fj.wp16, Fj.wp17, Fj.wp18, Fj.wp19, Fj.wp20, Fj.wp21, Fj.wpz, Fj.tyN, Int.reduceEq, Int.reduceLT, Int.reduceLE, Int.reduceAdd, Int.reduceSub, Int.reduceMul, Int.reduceNeg, Int.reducePow, Int.reduceToNat, Int.reduceMod, Int.reduceDiv, Int.reduceNe, Nat.reduceEqDiff, Nat.reduceMul, borOk, dkAll, dkKept, nlD, nlAll, id, frz, freeE, outsE, pick, merE, wipeE, Nat.reduceAdd, Nat.reduceSub, Nat.reduceLeDiff, Nat.reduceLT, reduceCtorEq, if_true, if_false, eq_self, forall_const, Bool.false_and]
                      · simp (config := {maxSteps := 1000000}) only [q_num, oNum, oBtw, g0, Fj.wp0, Fj.wp1, Fj.wp2, Fj.wp3, Fj.wp4, Fj.wp5, Fj.wp6, Fj.wp7, Fj.wp8, Fj.wp9, Fj.wp10, Fj.wp11, Fj.wp12, Fj.wp13, Fj.wp14, Fj.wp15, Fj.wp16, Fj.wp17, Fj.wp18, Fj.wp19, Fj.wp20, Fj.wp21, Fj.wpz, Fj.tyN, Int.reduceEq, Int.reduceLT, Int.reduceLE, Int.reduceAdd, Int.reduceSub, Int.reduceMul, Int.reduceNeg, Int.reducePow, Int.reduceToNat, Int.reduceMod, Int.reduceDiv, Int.reduceNe, Nat.reduceEqDiff, Nat.reduceMul, borOk, dkAll, dkKept, nlD, nlAll, id, frz, freeE, outsE, pick, merE, wipeE, Nat.reduceAdd, Nat.reduceSub, Nat.reduceLeDiff, Nat.reduceLT, reduceCtorEq, if_true, if_false, eq_self, forall_const, Bool.false_and]
                    | _ => simp (config := {maxSteps := 1000000}) only [q_num, oNum, oBtw, Fj.wp0, Fj.wp1, Fj.wp2, Fj.wp3, Fj.wp4, Fj.wp5, Fj.wp6, Fj.wp7, Fj.wp8, Fj.wp9, Fj.wp10, Fj.wp11, Fj.wp12, Fj.wp13, Fj.wp14, Fj.wp15, Fj.wp16, Fj.wp17, Fj.wp18, Fj.wp19, Fj.wp20, Fj.wp21, Fj.wpz, Fj.tyN, Int.reduceEq, Int.reduceLT, Int.reduceLE, Int.reduceAdd, Int.reduceSub, Int.reduceMul, Int.reduceNeg, Int.reducePow, Int.reduceToNat, Int.reduceMod, Int.reduceDiv, Int.reduceNe, Nat.reduceEqDiff, Nat.reduceMul, borOk, dkAll, dkKept, nlD, nlAll, id, frz, freeE, outsE, pick, merE, wipeE, Nat.reduceAdd, Nat.reduceSub, Nat.reduceLeDiff, Nat.reduceLT, reduceCtorEq, if_true, if_false, eq_self, forall_const, Bool.false_and]
                  · simp (config := {maxSteps := 1000000}) only [all_notempty, Fj.wp0, Fj.wp1, Fj.wp2, Fj.wp3, Fj.wp4, Fj.wp5, Fj.wp6, Fj.wp7, Fj.wp8, Fj.wp9, Fj.wp10, Fj.wp11, Fj.wp12, Fj.wp13, Fj.wp14, Fj.wp15, Fj.wp16, Fj.wp17, Fj.wp18, Fj.wp19, Fj.wp20, Fj.wp21, Fj.wpz, Fj.tyN, Int.reduceEq, Int.reduceLT, Int.reduceLE, Int.reduceAdd, Int.reduceSub, Int.reduceMul, Int.reduceNeg, Int.reducePow, Int.reduceToNat, Int.reduceMod, Int.reduceDiv, Int.reduceNe, Nat.reduceEqDiff, Nat.reduceMul, borOk, dkAll, dkKept, nlD, nlAll, id, frz, freeE, outsE, pick, merE, wipeE, Nat.reduceAdd, Nat.reduceSub, Nat.reduceLeDiff, Nat.reduceLT, reduceCtorEq, if_true, if_false, eq_self, forall_const, Bool.false_and]
                    cases ha : ms.all (oBtw 0 (ns.getD i.toNat 0 - 1)) with
                    | false =>
                      have b0 := bad (by simp only [oTerm, oMarks, ha, Bool.false_and, Bool.and_false])
                      simp (config := {maxSteps := 1000000}) only [b0, Fj.wp0, Fj.wp1, Fj.wp2, Fj.wp3, Fj.wp4, Fj.wp5, Fj.wp6, Fj.wp7, Fj.wp8, Fj.wp9, Fj.wp10, Fj.wp11, Fj.wp12, Fj.wp13, Fj.wp14, Fj.wp15, Fj.wp16, Fj.wp17, Fj.wp18, Fj.wp19, Fj.wp20, Fj.wp21, Fj.wpz, Fj.tyN, Int.reduceEq, Int.reduceLT, Int.reduceLE, Int.reduceAdd, Int.reduceSub, Int.reduceMul, Int.reduceNeg, Int.reducePow, Int.reduceToNat, Int.reduceMod, Int.reduceDiv, Int.reduceNe, Nat.reduceEqDiff, Nat.reduceMul, borOk, dkAll, dkKept, nlD, nlAll, id, frz, freeE, outsE, pick, merE, wipeE, Nat.reduceAdd, Nat.reduceSub, Nat.reduceLeDiff, Nat.reduceLT, reduceCtorEq, if_true, if_false, eq_self, forall_const, Bool.false_and]
                    | true =>
                      obtain ⟨ks, rfl⟩ : ∃ ks : List Int, ms = ks.map .int := ⟨_, ints_of ha⟩
                      have hk : ks.length < 64 := by rw [List.length_map] at hm; exact hm
                      have i1 : ((0:Int) < (ks.length : Int)) = (1 ≤ ks.length) := propext ⟨fun z => by omega, fun z => by omega⟩
                      have eT : oTerm ns (.tuple [.int i, .tuple (ks.map .int)]) = (rise ks && decide (1 ≤ ks.length ∧ (ks.length : Int) < ns.getD i.toNat 0)) := by
                        simp only [oTerm, oMarks, ha, h0, h1, decide_true, Bool.true_and, vals_ints, List.length_map]
                      have eS : (ks = isort (fun i j => decide (i < j)) (dedup ks)) = (rise ks = true) := propext ⟨fun z => rise_ssi.mp z.symm, fun z => (rise_ssi.mpr z).symm⟩
                      simp (config := {maxSteps := 1000000}) only [mb__law_is_bar_5, g_neLI, eS, hk, h3, Fj.wp0, Fj.wp1, Fj.wp2, Fj.wp3, Fj.wp4, Fj.wp5, Fj.wp6, Fj.wp7, Fj.wp8, Fj.wp9, Fj.wp10, Fj.wp11, Fj.wp12, Fj.wp13, Fj.wp14, Fj.wp15, Fj.wp16, Fj.wp17, Fj.wp18, Fj.wp19, Fj.wp20, Fj.wp21, Fj.wpz, Fj.tyN, Int.reduceEq, Int.reduceLT, Int.reduceLE, Int.reduceAdd, Int.reduceSub, Int.reduceMul, Int.reduceNeg, Int.reducePow, Int.reduceToNat, Int.reduceMod, Int.reduceDiv, Int.reduceNe, Nat.reduceEqDiff, Nat.reduceMul, borOk, dkAll, dkKept, nlD, nlAll, id, frz, freeE, outsE, pick, merE, wipeE, Nat.reduceAdd, Nat.reduceSub, Nat.reduceLeDiff, Nat.reduceLT, reduceCtorEq, if_true, if_false, eq_self, forall_const, Bool.false_and]
                      cases hb : rise ks with
                      | false =>
                        have b0 := bad (by rw [eT, hb, Bool.false_and])
                        simp (config := {maxSteps := 1000000}) only [b0, Fj.wp0, Fj.wp1, Fj.wp2, Fj.wp3, Fj.wp4, Fj.wp5, Fj.wp6, Fj.wp7, Fj.wp8, Fj.wp9, Fj.wp10, Fj.wp11, Fj.wp12, Fj.wp13, Fj.wp14, Fj.wp15, Fj.wp16, Fj.wp17, Fj.wp18, Fj.wp19, Fj.wp20, Fj.wp21, Fj.wpz, Fj.tyN, Int.reduceEq, Int.reduceLT, Int.reduceLE, Int.reduceAdd, Int.reduceSub, Int.reduceMul, Int.reduceNeg, Int.reducePow, Int.reduceToNat, Int.reduceMod, Int.reduceDiv, Int.reduceNe, Nat.reduceEqDiff, Nat.reduceMul, borOk, dkAll, dkKept, nlD, nlAll, id, frz, freeE, outsE, pick, merE, wipeE, Nat.reduceAdd, Nat.reduceSub, Nat.reduceLeDiff, Nat.reduceLT, reduceCtorEq, if_true, if_false, eq_self, forall_const, Bool.false_and]
                      | true =>
                        simp (config := {maxSteps := 1000000}) only [List.length_map, i1, Fj.wp0, Fj.wp1, Fj.wp2, Fj.wp3, Fj.wp4, Fj.wp5, Fj.wp6, Fj.wp7, Fj.wp8, Fj.wp9, Fj.wp10, Fj.wp11, Fj.wp12, Fj.wp13, Fj.wp14, Fj.wp15, Fj.wp16, Fj.wp17, Fj.wp18, Fj.wp19, Fj.wp20, Fj.wp21, Fj.wpz, Fj.tyN, Int.reduceEq, Int.reduceLT, Int.reduceLE, Int.reduceAdd, Int.reduceSub, Int.reduceMul, Int.reduceNeg, Int.reducePow, Int.reduceToNat, Int.reduceMod, Int.reduceDiv, Int.reduceNe, Nat.reduceEqDiff, Nat.reduceMul, borOk, dkAll, dkKept, nlD, nlAll, id, frz, freeE, outsE, pick, merE, wipeE, Nat.reduceAdd, Nat.reduceSub, Nat.reduceLeDiff, Nat.reduceLT, reduceCtorEq, if_true, if_false, eq_self, forall_const, Bool.false_and]
                        by_cases g1 : 1 ≤ ks.length
                        · by_cases g2 : (ks.length : Int) < ns.getD i.toNat 0
                          · have := good (by rw [eT, hb]; simp only [g1, g2, and_self, decide_true, Bool.and_self])
                            simp (config := {maxSteps := 1000000}) only [g1, g2, h3, Fj.wp0, Fj.wp1, Fj.wp2, Fj.wp3, Fj.wp4, Fj.wp5, Fj.wp6, Fj.wp7, Fj.wp8, Fj.wp9, Fj.wp10, Fj.wp11, Fj.wp12, Fj.wp13, Fj.wp14, Fj.wp15, Fj.wp16, Fj.wp17, Fj.wp18, Fj.wp19, Fj.wp20, Fj.wp21, Fj.wpz, Fj.tyN, Int.reduceEq, Int.reduceLT, Int.reduceLE, Int.reduceAdd, Int.reduceSub, Int.reduceMul, Int.reduceNeg, Int.reducePow, Int.reduceToNat, Int.reduceMod, Int.reduceDiv, Int.reduceNe, Nat.reduceEqDiff, Nat.reduceMul, borOk, dkAll, dkKept, nlD, nlAll, id, frz, freeE, outsE, pick, merE, wipeE, Nat.reduceAdd, Nat.reduceSub, Nat.reduceLeDiff, Nat.reduceLT, reduceCtorEq, if_true, if_false, eq_self, forall_const, Bool.false_and]
                            exact this
                          · have b0 := bad (by rw [eT, hb]; simp only [g1, g2, and_false, decide_false, Bool.and_false])
                            simp (config := {maxSteps := 1000000}) only [g1, g2, h3, b0, Fj.wp0, Fj.wp1, Fj.wp2, Fj.wp3, Fj.wp4, Fj.wp5, Fj.wp6, Fj.wp7, Fj.wp8, Fj.wp9, Fj.wp10, Fj.wp11, Fj.wp12, Fj.wp13, Fj.wp14, Fj.wp15, Fj.wp16, Fj.wp17, Fj.wp18, Fj.wp19, Fj.wp20, Fj.wp21, Fj.wpz, Fj.tyN, Int.reduceEq, Int.reduceLT, Int.reduceLE, Int.reduceAdd, Int.reduceSub, Int.reduceMul, Int.reduceNeg, Int.reducePow, Int.reduceToNat, Int.reduceMod, Int.reduceDiv, Int.reduceNe, Nat.reduceEqDiff, Nat.reduceMul, borOk, dkAll, dkKept, nlD, nlAll, id, frz, freeE, outsE, pick, merE, wipeE, Nat.reduceAdd, Nat.reduceSub, Nat.reduceLeDiff, Nat.reduceLT, reduceCtorEq, if_true, if_false, eq_self, forall_const, Bool.false_and]
                        · have b0 := bad (by rw [eT, hb]; simp only [g1, false_and, decide_false, Bool.and_false])
                          simp (config := {maxSteps := 1000000}) only [g1, b0, Fj.wp0, Fj.wp1, Fj.wp2, Fj.wp3, Fj.wp4, Fj.wp5, Fj.wp6, Fj.wp7, Fj.wp8, Fj.wp9, Fj.wp10, Fj.wp11, Fj.wp12, Fj.wp13, Fj.wp14, Fj.wp15, Fj.wp16, Fj.wp17, Fj.wp18, Fj.wp19, Fj.wp20, Fj.wp21, Fj.wpz, Fj.tyN, Int.reduceEq, Int.reduceLT, Int.reduceLE, Int.reduceAdd, Int.reduceSub, Int.reduceMul, Int.reduceNeg, Int.reducePow, Int.reduceToNat, Int.reduceMod, Int.reduceDiv, Int.reduceNe, Nat.reduceEqDiff, Nat.reduceMul, borOk, dkAll, dkKept, nlD, nlAll, id, frz, freeE, outsE, pick, merE, wipeE, Nat.reduceAdd, Nat.reduceSub, Nat.reduceLeDiff, Nat.reduceLT, reduceCtorEq, if_true, if_false, eq_self, forall_const, Bool.false_and]
                | _ =>
                  have b0 := bad (by simp only [oTerm, oMarks, Bool.and_false])
                  simp (config := {maxSteps := 1000000}) only [b0, Fj.wp0, Fj.wp1, Fj.wp2, Fj.wp3, Fj.wp4, Fj.wp5, Fj.wp6, Fj.wp7, Fj.wp8, Fj.wp9, Fj.wp10, Fj.wp11, Fj.wp12, Fj.wp13, Fj.wp14, Fj.wp15, Fj.wp16, Fj.wp17, Fj.wp18, Fj.wp19, Fj.wp20, Fj.wp21, Fj.wpz, Fj.tyN, Int.reduceEq, Int.reduceLT, Int.reduceLE, Int.reduceAdd, Int.reduceSub, Int.reduceMul, Int.reduceNeg, Int.reducePow, Int.reduceToNat, Int.reduceMod, Int.reduceDiv, Int.reduceNe, Nat.reduceEqDiff, Nat.reduceMul, borOk, dkAll, dkKept, nlD, nlAll, id, frz, freeE, outsE, pick, merE, wipeE, Nat.reduceAdd, Nat.reduceSub, Nat.reduceLeDiff, Nat.reduceLT, reduceCtorEq, if_true, if_false, eq_self, forall_const, Bool.false_and]
              · have h2 : i ≥ ns.length := by omega
                have b0 := bad (by simp only [oTerm, h1, decide_false, Bool.false_and, Bool.and_false])
                simp (config := {maxSteps := 1000000}) only [q_num, oNum, h0, h2, List.length_map, b0, Fj.wp0, Fj.wp1, Fj.wp2, Fj.wp3, Fj.wp4, Fj.wp5, Fj.wp6, Fj.wp7, Fj.wp8, Fj.wp9, Fj.wp10, Fj.wp11, Fj.wp12, Fj.wp13, Fj.wp14, Fj.wp15, Fj.wp16, Fj.wp17, Fj.wp18, Fj.wp19, Fj.wp20, Fj.wp21, Fj.wpz, Fj.tyN, Int.reduceEq, Int.reduceLT, Int.reduceLE, Int.reduceAdd, Int.reduceSub, Int.reduceMul, Int.reduceNeg, Int.reducePow, Int.reduceToNat, Int.reduceMod, Int.reduceDiv, Int.reduceNe, Nat.reduceEqDiff, Nat.reduceMul, borOk, dkAll, dkKept, nlD, nlAll, id, frz, freeE, outsE, pick, merE, wipeE, Nat.reduceAdd, Nat.reduceSub, Nat.reduceLeDiff, Nat.reduceLT, reduceCtorEq, if_true, if_false, eq_self, forall_const, Bool.false_and]
            · have b0 := bad (by simp only [oTerm, h0, decide_false, Bool.false_and])
              simp (config := {maxSteps := 1000000}) only [q_num, oNum, h0, b0, Fj.wp0, Fj.wp1, Fj.wp2, Fj.wp3, Fj.wp4, Fj.wp5, Fj.wp6, Fj.wp7, Fj.wp8, Fj.wp9, Fj.wp10, Fj.wp11, Fj.wp12, Fj.wp13, Fj.wp14, Fj.wp15, Fj.wp16, Fj.wp17, Fj.wp18, Fj.wp19, Fj.wp20, Fj.wp21, Fj.wpz, Fj.tyN, Int.reduceEq, Int.reduceLT, Int.reduceLE, Int.reduceAdd, Int.reduceSub, Int.reduceMul, Int.reduceNeg, Int.reducePow, Int.reduceToNat, Int.reduceMod, Int.reduceDiv, Int.reduceNe, Nat.reduceEqDiff, Nat.reduceMul, borOk, dkAll, dkKept, nlD, nlAll, id, frz, freeE, outsE, pick, merE, wipeE, Nat.reduceAdd, Nat.reduceSub, Nat.reduceLeDiff, Nat.reduceLT, reduceCtorEq, if_true, if_false, eq_self, forall_const, Bool.false_and]
          | _ =>
            have b0 := bad rfl
            simp (config := {maxSteps := 1000000}) only [q_num, oNum, b0, Fj.wp0, Fj.wp1, Fj.wp2, Fj.wp3, Fj.wp4, Fj.wp5, Fj.wp6, Fj.wp7, Fj.wp8, Fj.wp9, Fj.wp10, Fj.wp11, Fj.wp12, Fj.wp13, Fj.wp14, Fj.wp15, Fj.wp16, Fj.wp17, Fj.wp18, Fj.wp19, Fj.wp20, Fj.wp21, Fj.wpz, Fj.tyN, Int.reduceEq, Int.reduceLT, Int.reduceLE, Int.reduceAdd, Int.reduceSub, Int.reduceMul, Int.reduceNeg, Int.reducePow, Int.reduceToNat, Int.reduceMod, Int.reduceDiv, Int.reduceNe, Nat.reduceEqDiff, Nat.reduceMul, borOk, dkAll, dkKept, nlD, nlAll, id, frz, freeE, outsE, pick, merE, wipeE, Nat.reduceAdd, Nat.reduceSub, Nat.reduceLeDiff, Nat.reduceLT, reduceCtorEq, if_true, if_false, eq_self, forall_const, Bool.false_and]
        · have : ¬ (((r.length + 1 + 1 + 1 : Nat) : Int) = 2) := by omega
          have b0 := bad (by cases a <;> rfl)
          simp (config := {maxSteps := 1000000}) only [this, b0, Fj.wp0, Fj.wp1, Fj.wp2, Fj.wp3, Fj.wp4, Fj.wp5, Fj.wp6, Fj.wp7, Fj.wp8, Fj.wp9, Fj.wp10, Fj.wp11, Fj.wp12, Fj.wp13, Fj.wp14, Fj.wp15, Fj.wp16, Fj.wp17, Fj.wp18, Fj.wp19, Fj.wp20, Fj.wp21, Fj.wpz, Fj.tyN, Int.reduceEq, Int.reduceLT, Int.reduceLE, Int.reduceAdd, Int.reduceSub, Int.reduceMul, Int.reduceNeg, Int.reducePow, Int.reduceToNat, Int.reduceMod, Int.reduceDiv, Int.reduceNe, Nat.reduceEqDiff, Nat.reduceMul, borOk, dkAll, dkKept, nlD, nlAll, id, frz, freeE, outsE, pick, merE, wipeE, Nat.reduceAdd, Nat.reduceSub, Nat.reduceLeDiff, Nat.reduceLT, reduceCtorEq, if_true, if_false, eq_self, forall_const, Bool.false_and]
      | _ =>
        have b0 := bad rfl
        simp (config := {maxSteps := 1000000}) only [b0, Fj.wp0, Fj.wp1, Fj.wp2, Fj.wp3, Fj.wp4, Fj.wp5, Fj.wp6, Fj.wp7, Fj.wp8, Fj.wp9, Fj.wp10, Fj.wp11, Fj.wp12, Fj.wp13, Fj.wp14, Fj.wp15, Fj.wp16, Fj.wp17, Fj.wp18, Fj.wp19, Fj.wp20, Fj.wp21, Fj.wpz, Fj.tyN, Int.reduceEq, Int.reduceLT, Int.reduceLE, Int.reduceAdd, Int.reduceSub, Int.reduceMul, Int.reduceNeg, Int.reducePow, Int.reduceToNat, Int.reduceMod, Int.reduceDiv, Int.reduceNe, Nat.reduceEqDiff, Nat.reduceMul, borOk, dkAll, dkKept, nlD, nlAll, id, frz, freeE, outsE, pick, merE, wipeE, Nat.reduceAdd, Nat.reduceSub, Nat.reduceLeDiff, Nat.reduceLT, reduceCtorEq, if_true, if_false, eq_self, forall_const, Bool.false_and]
    · rintro ρ ⟨done, e2, e, hd, p2, rfl⟩
      rw [List.append_nil] at e
      subst e
      simp (config := {maxSteps := 1000000}) only [p2.all, lc__law_is_bar_7, cut_1, zip_dd, Fj.wp0, Fj.wp1, Fj.wp2, Fj.wp3, Fj.wp4, Fj.wp5, Fj.wp6, Fj.wp7, Fj.wp8, Fj.wp9, Fj.wp10, Fj.wp11, Fj.wp12, Fj.wp13, Fj.wp14, Fj.wp15, Fj.wp16, Fj.wp17, Fj.wp18, Fj.wp19, Fj.wp20, Fj.wp21, Fj.wpz, Fj.tyN, Int.reduceEq, Int.reduceLT, Int.reduceLE, Int.reduceAdd, Int.reduceSub, Int.reduceMul, Int.reduceNeg, Int.reducePow, Int.reduceToNat, Int.reduceMod, Int.reduceDiv, Int.reduceNe, Nat.reduceEqDiff, Nat.reduceMul, borOk, dkAll, dkKept, nlD, nlAll, id, frz, freeE, outsE, pick, merE, wipeE, Nat.reduceAdd, Nat.reduceSub, Nat.reduceLeDiff, Nat.reduceLT, reduceCtorEq, if_true, if_false, eq_self, forall_const, Bool.false_and]
      refine w_lcFil (fun p : PyData × PyData => PyData.tuple [p.1, p.2]) (fun p : PyData × PyData => !decide (fst0 p.1 < fst0 p.2)) (fun _ => .int 1) (fun x hx => ?_) (by rw [List.length_zip]; omega) ?_
      · obtain ⟨x, y⟩ := x
        have m1 := List.of_mem_zip hx
        obtain ⟨i, m, rfl, -⟩ := term_form (List.all_eq_true.mp hd x m1.1)
        obtain ⟨j, m', rfl, -⟩ := term_form (List.all_eq_true.mp hd y (List.mem_of_mem_drop m1.2))
        by_cases g : i ≥ j
        · have : ¬ i < j := by omega
          simp (config := {maxSteps := 1000000}) only [fst0, g, this, Fj.wp0, Fj.wp1, Fj.wp2, Fj.wp3, Fj.wp4, Fj.wp5, Fj.wp6, Fj.wp7, Fj.wp8, Fj.wp9, Fj.wp10, Fj.wp11, Fj.wp12, Fj.wp13, Fj.wp14, Fj.wp15, Fj.wp16, Fj.wp17, Fj.wp18, Fj.wp19, Fj.wp20, Fj.wp21, Fj.wpz, Fj.tyN, Int.reduceEq, Int.reduceLT, Int.reduceLE, Int.reduceAdd, Int.reduceSub, Int.reduceMul, Int.reduceNeg, Int.reducePow, Int.reduceToNat, Int.reduceMod, Int.reduceDiv, Int.reduceNe, Nat.reduceEqDiff, Nat.reduceMul, borOk, dkAll, dkKept, nlD, nlAll, id, frz, freeE, outsE, pick, merE, wipeE, Nat.reduceAdd, Nat.reduceSub, Nat.reduceLeDiff, Nat.reduceLT, reduceCtorEq, if_true, if_false, eq_self, forall_const, Bool.false_and]
        · have : i < j := by omega
          simp (config := {maxSteps := 1000000}) only [fst0, g, this, Fj.wp0, Fj.wp1, Fj.wp2, Fj.wp3, Fj.wp4, Fj.wp5, Fj.wp6, Fj.wp7, Fj.wp8, Fj.wp9, Fj.wp10, Fj.wp11, Fj.wp12, Fj.wp13, Fj.wp14, Fj.wp15, Fj.wp16, Fj.wp17, Fj.wp18, Fj.wp19, Fj.wp20, Fj.wp21, Fj.wpz, Fj.tyN, Int.reduceEq, Int.reduceLT, Int.reduceLE, Int.reduceAdd, Int.reduceSub, Int.reduceMul, Int.reduceNeg, Int.reducePow, Int.reduceToNat, Int.reduceMod, Int.reduceDiv, Int.reduceNe, Nat.reduceEqDiff, Nat.reduceMul, borOk, dkAll, dkKept, nlD, nlAll, id, frz, freeE, outsE, pick, merE, wipeE, Nat.reduceAdd, Nat.reduceSub, Nat.reduceLeDiff, Nat.reduceLT, reduceCtorEq, if_true, if_false, eq_self, forall_const, Bool.false_and]
      · have e1 : rise (ts.map fst0) = (ts.zip (ts.drop 1)).all fun p => decide (fst0 p.1 < fst0 p.2) := by
          unfold rise
          rw [← List.map_drop, List.zip_map, List.all_map]
          rfl
        simp (config := {maxSteps := 1000000}) only [all_notempty, oBar, hd, e1, Fj.wp0, Fj.wp1, Fj.wp2, Fj.wp3, Fj.wp4, Fj.wp5, Fj.wp6, Fj.wp7, Fj.wp8, Fj.wp9, Fj.wp10, Fj.wp11, Fj.wp12, Fj.wp13, Fj.wp14, Fj.wp15, Fj.wp16, Fj.wp17, Fj.wp18, Fj.wp19, Fj.wp20, Fj.wp21, Fj.wpz, Fj.tyN, Int.reduceEq, Int.reduceLT, Int.reduceLE, Int.reduceAdd, Int.reduceSub, Int.reduceMul, Int.reduceNeg, Int.reducePow, Int.reduceToNat, Int.reduceMod, Int.reduceDiv, Int.reduceNe, Nat.reduceEqDiff, Nat.reduceMul, borOk, dkAll, dkKept, nlD, nlAll, id, frz, freeE, outsE, pick, merE, wipeE, Nat.reduceAdd, Nat.reduceSub, Nat.reduceLeDiff, Nat.reduceLT, reduceCtorEq, if_true, if_false, eq_self, forall_const, Bool.false_and]
  | _ => simp (config := {maxSteps := 1000000}) only [mf__law_is_bar, mb__law_is_bar, mb__law_is_bar_1, oBar, Fj.wp0, Fj.wp1, Fj.wp2, Fj.wp3, Fj.wp4, Fj.wp5, Fj.wp6, Fj.wp7, Fj.wp8, Fj.wp9, Fj.wp10, Fj.wp11, Fj.wp12, Fj.wp13, Fj.wp14, Fj.wp15, Fj.wp16, Fj.wp17, Fj.wp18, Fj.wp19, Fj.wp20, Fj.wp21, Fj.wpz, Fj.tyN, Int.reduceEq, Int.reduceLT, Int.reduceLE, Int.reduceAdd, Int.reduceSub, Int.reduceMul, Int.reduceNeg, Int.reducePow, Int.reduceToNat, Int.reduceMod, Int.reduceDiv, Int.reduceNe, Nat.reduceEqDiff, Nat.reduceMul, borOk, dkAll, dkKept, nlD, nlAll, id, frz, freeE, outsE, pick, merE, wipeE, Nat.reduceAdd, Nat.reduceSub, Nat.reduceLeDiff, Nat.reduceLT, reduceCtorEq, if_true, if_false, eq_self, forall_const, Bool.false_and]
theorem q_problem (d : PyData) (hs : Sh d) : mf__law_is_problem [.val d] = some (.val (.bool (oProblem d)), [.no]) := by
  refine W_eq ?_
  cases d with
  | tuple ds =>
    obtain ⟨hl, hr⟩ := hs.of
    rcases ds with _ | ⟨a, _ | ⟨b, _ | ⟨c, r⟩⟩⟩
    · simp (config := {maxSteps := 1000000}) only [mf__law_is_problem, mb__law_is_problem, mb__law_is_problem_1, oProblem, Fj.wp0, Fj.wp1, Fj.wp2, Fj.wp3, Fj.wp4, Fj.wp5, Fj.wp6, Fj.wp7, Fj.wp8, Fj.wp9, Fj.wp10, Fj.wp11, Fj.wp12, Fj.wp13, Fj.wp14, Fj.wp15, Fj.wp16, Fj.wp17, Fj.wp18, Fj.wp19, Fj.wp20, Fj.wp21, Fj.wpz, Fj.tyN, Int.reduceEq, Int.reduceLT, Int.reduceLE, Int.reduceAdd, Int.reduceSub, Int.reduceMul, Int.reduceNeg, Int.reducePow, Int.reduceToNat, Int.reduceMod, Int.reduceDiv, Int.reduceNe, Nat.reduceEqDiff, Nat.reduceMul, borOk, dkAll, dkKept, nlD, nlAll, id, frz, freeE, outsE, pick, merE, wipeE, Nat.reduceAdd, Nat.reduceSub, Nat.reduceLeDiff, Nat.reduceLT, reduceCtorEq, if_true, if_false, eq_self, forall_const, Bool.false_and]
    · simp (config := {maxSteps := 1000000}) only [mf__law_is_problem, mb__law_is_problem, mb__law_is_problem_1, oProblem, Fj.wp0, Fj.wp1, Fj.wp2, Fj.wp3, Fj.wp4, Fj.wp5, Fj.wp6, Fj.wp7, Fj.wp8, Fj.wp9, Fj.wp10, Fj.wp11, Fj.wp12, Fj.wp13, Fj.wp14, Fj.wp15, Fj.wp16, Fj.wp17, Fj.wp18, Fj.wp19, Fj.wp20, Fj.wp21, Fj.wpz, Fj.tyN, Int.reduceEq, Int.reduceLT, Int.reduceLE, Int.reduceAdd, Int.reduceSub, Int.reduceMul, Int.reduceNeg, Int.reducePow, Int.reduceToNat, Int.reduceMod, Int.reduceDiv, Int.reduceNe, Nat.reduceEqDiff, Nat.reduceMul, borOk, dkAll, dkKept, nlD, nlAll, id, frz, freeE, outsE, pick, merE, wipeE, Nat.reduceAdd, Nat.reduceSub, Nat.reduceLeDiff, Nat.reduceLT, reduceCtorEq, if_true, if_false, eq_self, forall_const, Bool.false_and]
    · have ps := q_sizes a (hr a (by simp)).len
      simp (config := {maxSteps := 1000000}) only [mf__law_is_problem, mb__law_is_problem, mb__law_is_problem_1, ps, Fj.wp0, Fj.wp1, Fj.wp2, Fj.wp3, Fj.wp4, Fj.wp5, Fj.wp6, Fj.wp7, Fj.wp8, Fj.wp9, Fj.wp10, Fj.wp11, Fj.wp12, Fj.wp13, Fj.wp14, Fj.wp15, Fj.wp16, Fj.wp17, Fj.wp18, Fj.wp19, Fj.wp20, Fj.wp21, Fj.wpz, Fj.tyN, Int.reduceEq, Int.reduceLT, Int.reduceLE, Int.reduceAdd, Int.reduceSub, Int.reduceMul, Int.reduceNeg, Int.reducePow, Int.reduceToNat, Int.reduceMod, Int.reduceDiv, Int.reduceNe, Nat.reduceEqDiff, Nat.reduceMul, borOk, dkAll, dkKept, nlD, nlAll, id, frz, freeE, outsE, pick, merE, wipeE, Nat.reduceAdd, Nat.reduceSub, Nat.reduceLeDiff, Nat.reduceLT, reduceCtorEq, if_true, if_false, eq_self, forall_const, Bool.false_and]
      cases ha : oSizes a with
      | false =>
        cases b <;> simp (config := {maxSteps := 1000000}) only [oProblem, ha, Fj.wp0, Fj.wp1, Fj.wp2, Fj.wp3, Fj.wp4, Fj.wp5, Fj.wp6, Fj.wp7, Fj.wp8, Fj.wp9, Fj.wp10, Fj.wp11, Fj.wp12, Fj.wp13, Fj.wp14, Fj.wp15, Fj.wp16, Fj.wp17, Fj.wp18, Fj.wp19, Fj.wp20, Fj.wp21, Fj.wpz, Fj.tyN, Int.reduceEq, Int.reduceLT, Int.reduceLE, Int.reduceAdd, Int.reduceSub, Int.reduceMul, Int.reduceNeg, Int.reducePow, Int.reduceToNat, Int.reduceMod, Int.reduceDiv, Int.reduceNe, Nat.reduceEqDiff, Nat.reduceMul, borOk, dkAll, dkKept, nlD, nlAll, id, frz, freeE, outsE, pick, merE, wipeE, Nat.reduceAdd, Nat.reduceSub, Nat.reduceLeDiff, Nat.reduceLT, reduceCtorEq, if_true, if_false, eq_self, forall_const, Bool.false_and]
      | true =>
        simp (config := {maxSteps := 1000000}) only [Fj.wp0, Fj.wp1, Fj.wp2, Fj.wp3, Fj.wp4, Fj.wp5, Fj.wp6, Fj.wp7, Fj.wp8, Fj.wp9, Fj.wp10, Fj.wp11, Fj.wp12, Fj.wp13, Fj.wp14, Fj.wp15, Fj.wp16, Fj.wp17, Fj.wp18, Fj.wp19, Fj.wp20, Fj.wp21, Fj.wpz, Fj.tyN, Int.reduceEq, Int.reduceLT, Int.reduceLE, Int.reduceAdd, Int.reduceSub, Int.reduceMul, Int.reduceNeg, Int.reducePow, Int.reduceToNat, Int.reduceMod, Int.reduceDiv, Int.reduceNe, Nat.reduceEqDiff, Nat.reduceMul, borOk, dkAll, dkKept, nlD, nlAll, id, frz, freeE, outsE, pick, merE, wipeE, Nat.reduceAdd, Nat.reduceSub, Nat.reduceLeDiff, Nat.reduceLT, reduceCtorEq, if_true, if_false, eq_self, forall_const, Bool.false_and]
        cases b with
        | tuple bs =>
          obtain ⟨hbl, hbr⟩ := (hr (.tuple bs) (by simp)).of
          obtain ⟨ea, _⟩ := sizes_form ha
          have hal : (szs a).length ≤ 1000 := by
            have := (hr a (by simp)).len _ ea
            rwa [List.length_map] at this
          simp (config := {maxSteps := 1000000}) only [lc__law_is_problem_2, Fj.wp0, Fj.wp1, Fj.wp2, Fj.wp3, Fj.wp4, Fj.wp5, Fj.wp6, Fj.wp7, Fj.wp8, Fj.wp9, Fj.wp10, Fj.wp11, Fj.wp12, Fj.wp13, Fj.wp14, Fj.wp15, Fj.wp16, Fj.wp17, Fj.wp18, Fj.wp19, Fj.wp20, Fj.wp21, Fj.wpz, Fj.tyN, Int.reduceEq, Int.reduceLT, Int.reduceLE, Int.reduceAdd, Int.reduceSub, Int.reduceMul, Int.reduceNeg, Int.reducePow, Int.reduceToNat, Int.reduceMod, Int.reduceDiv, Int.reduceNe, Nat.reduceEqDiff, Nat.reduceMul, borOk, dkAll, dkKept, nlD, nlAll, id, frz, freeE, outsE, pick, merE, wipeE, Nat.reduceAdd, Nat.reduceSub, Nat.reduceLeDiff, Nat.reduceLT, reduceCtorEq, if_true, if_false, eq_self, forall_const, Bool.false_and]
          refine w_lcFilD (fun d => !oBar (szs a) d) id (fun x hx => ?_) (by omega) ?_
          · have hb := q_bar (szs a) hal x (hbr x hx)
            rw [← ea] at hb
            cases hv : oBar (szs a) x <;> rw [hv] at hb <;> simp (config := {maxSteps := 1000000}) only [hb, Fj.wp0, Fj.wp1, Fj.wp2, Fj.wp3, Fj.wp4, Fj.wp5, Fj.wp6, Fj.wp7, Fj.wp8, Fj.wp9, Fj.wp10, Fj.wp11, Fj.wp12, Fj.wp13, Fj.wp14, Fj.wp15, Fj.wp16, Fj.wp17, Fj.wp18, Fj.wp19, Fj.wp20, Fj.wp21, Fj.wpz, Fj.tyN, Int.reduceEq, Int.reduceLT, Int.reduceLE, Int.reduceAdd, Int.reduceSub, Int.reduceMul, Int.reduceNeg, Int.reducePow, Int.reduceToNat, Int.reduceMod, Int.reduceDiv, Int.reduceNe, Nat.reduceEqDiff, Nat.reduceMul, borOk, dkAll, dkKept, nlD, nlAll, id, frz, freeE, outsE, pick, merE, wipeE, Nat.reduceAdd, Nat.reduceSub, Nat.reduceLeDiff, Nat.reduceLT, reduceCtorEq, if_true, if_false, eq_self, forall_const, Bool.false_and]
          · simp (config := {maxSteps := 1000000}) only [all_notempty, oProblem, ha, Fj.wp0, Fj.wp1, Fj.wp2, Fj.wp3, Fj.wp4, Fj.wp5, Fj.wp6, Fj.wp7, Fj.wp8, Fj.wp9, Fj.wp10, Fj.wp11, Fj.wp12, Fj.wp13, Fj.wp14, Fj.wp15, Fj.wp16, Fj.wp17, Fj.wp18, Fj.wp19, Fj.wp20, Fj.wp21, Fj.wpz, Fj.tyN, Int.reduceEq, Int.reduceLT, Int.reduceLE, Int.reduceAdd, Int.reduceSub, Int.reduceMul, Int.reduceNeg, Int.reducePow, Int.reduceToNat, Int.reduceMod, Int.reduceDiv, Int.reduceNe, Nat.reduceEqDiff, Nat.reduceMul, borOk, dkAll, dkKept, nlD, nlAll, id, frz, freeE, outsE, pick, merE, wipeE, Nat.reduceAdd, Nat.reduceSub, Nat.reduceLeDiff, Nat.reduceLT, reduceCtorEq, if_true, if_false, eq_self, forall_const, Bool.false_and]
        | _ => simp (config := {maxSteps := 1000000}) only [oProblem, ha, Fj.wp0, Fj.wp1, Fj.wp2, Fj.wp3, Fj.wp4, Fj.wp5, Fj.wp6, Fj.wp7, Fj.wp8, Fj.wp9, Fj.wp10, Fj.wp11, Fj.wp12, Fj.wp13, Fj.wp14, Fj.wp15, Fj.wp16, Fj.wp17, Fj.wp18, Fj.wp19, Fj.wp20, Fj.wp21, Fj.wpz, Fj.tyN, Int.reduceEq, Int.reduceLT, Int.reduceLE, Int.reduceAdd, Int.reduceSub, Int.reduceMul, Int.reduceNeg, Int.reducePow, Int.reduceToNat, Int.reduceMod, Int.reduceDiv, Int.reduceNe, Nat.reduceEqDiff, Nat.reduceMul, borOk, dkAll, dkKept, nlD, nlAll, id, frz, freeE, outsE, pick, merE, wipeE, Nat.reduceAdd, Nat.reduceSub, Nat.reduceLeDiff, Nat.reduceLT, reduceCtorEq, if_true, if_false, eq_self, forall_const, Bool.false_and]
    · have : ¬ (((r.length + 1 + 1 + 1 : Nat) : Int) = 2) := by omega
      simp (config := {maxSteps := 1000000}) only [mf__law_is_problem, mb__law_is_problem, mb__law_is_problem_1, oProblem, this, Fj.wp0, Fj.wp1, Fj.wp2, Fj.wp3, Fj.wp4, Fj.wp5, Fj.wp6, Fj.wp7, Fj.wp8, Fj.wp9, Fj.wp10, Fj.wp11, Fj.wp12, Fj.wp13, Fj.wp14, Fj.wp15, Fj.wp16, Fj.wp17, Fj.wp18, Fj.wp19, Fj.wp20, Fj.wp21, Fj.wpz, Fj.tyN, Int.reduceEq, Int.reduceLT, Int.reduceLE, Int.reduceAdd, Int.reduceSub, Int.reduceMul, Int.reduceNeg, Int.reducePow, Int.reduceToNat, Int.reduceMod, Int.reduceDiv, Int.reduceNe, Nat.reduceEqDiff, Nat.reduceMul, borOk, dkAll, dkKept, nlD, nlAll, id, frz, freeE, outsE, pick, merE, wipeE, Nat.reduceAdd, Nat.reduceSub, Nat.reduceLeDiff, Nat.reduceLT, reduceCtorEq, if_true, if_false, eq_self, forall_const, Bool.false_and]
  | _ => simp (config := {maxSteps := 1000000}) only [mf__law_is_problem, mb__law_is_problem, mb__law_is_problem_1, oProblem, Fj.wp0, Fj.wp1, Fj.wp2, Fj.wp3, Fj.wp4, Fj.wp5, Fj.wp6, Fj.wp7, Fj.wp8, Fj.wp9, Fj.wp10, Fj.wp11, Fj.wp12, Fj.wp13, Fj.wp14, Fj.wp15, Fj.wp16, Fj.wp17, Fj.wp18, Fj.wp19, Fj.wp20, Fj.wp21, Fj.wpz, Fj.tyN, Int.reduceEq, Int.reduceLT, Int.reduceLE, Int.reduceAdd, Int.reduceSub, Int.reduceMul, Int.reduceNeg, Int.reducePow, Int.reduceToNat, Int.reduceMod, Int.reduceDiv, Int.reduceNe, Nat.reduceEqDiff, Nat.reduceMul, borOk, dkAll, dkKept, nlD, nlAll, id, frz, freeE, outsE, pick, merE, wipeE, Nat.reduceAdd, Nat.reduceSub, Nat.reduceLeDiff, Nat.reduceLT, reduceCtorEq, if_true, if_false, eq_self, forall_const, Bool.false_and]
theorem q_choice (ns : List Int) (hn : ns.length ≤ 1000) (d : PyData) : mf__law_is_choice [.val (.tuple (ns.map .int)), .val d] = some (.val (.bool (oChoice ns d)), [.no, .no]) := by
  refine W_eq ?_
  cases d with
  | tuple ss =>
    by_cases h : (ss.length : Int) = ns.length
    · simp (config := {maxSteps := 1000000}) only [mf__law_is_choice, mb__law_is_choice, mb__law_is_choice_1, h, List.length_map, lc__law_is_choice_2, zip_dn, Fj.wp0, Fj.wp1, Fj.wp2, Fj.wp3, Fj.wp4, Fj.wp5, Fj.wp6, Fj.wp7, Fj.wp8, Fj.wp9, Fj.wp10, Fj.wp11, Fj.wp12, Fj.wp13, Fj.wp14, Fj.wp15, Fj.wp16, Fj.wp17, Fj.wp18, Fj.wp19, Fj.wp20, Fj.wp21, Fj.wpz, Fj.tyN, Int.reduceEq, Int.reduceLT, Int.reduceLE, Int.reduceAdd, Int.reduceSub, Int.reduceMul, Int.reduceNeg, Int.reducePow, Int.reduceToNat, Int.reduceMod, Int.reduceDiv, Int.reduceNe, Nat.reduceEqDiff, Nat.reduceMul, borOk, dkAll, dkKept, nlD, nlAll, id, frz, freeE, outsE, pick, merE, wipeE, Nat.reduceAdd, Nat.reduceSub, Nat.reduceLeDiff, Nat.reduceLT, reduceCtorEq, if_true, if_false, eq_self, forall_const, Bool.false_and]
      refine w_lcFil (fun p : PyData × Int => PyData.tuple [p.1, .int p.2]) (fun p : PyData × Int => !oBtw 0 (p.2 - 1) p.1) (fun _ => .int 1) (fun x hx => ?_) (by rw [List.length_zip]; omega) ?_
      · obtain ⟨x, n⟩ := x
        cases x with
        | int j =>
          by_cases g0 : 0 ≤ j
          · by_cases g1 : j ≥ n
            · have : ¬ j ≤ n - 1 := by omega
              simp (config := {maxSteps := 1000000}) only [q_num, oNum, oBtw, g0, g1, this, Fj.wp0, Fj.wp1, Fj.wp2, Fj.wp3, Fj.wp4, Fj.wp5, Fj.wp6, Fj.wp7, Fj.wp8, Fj.wp9, Fj.wp10, Fj.wp11, Fj.wp12, Fj.wp13, Fj.wp14, Fj.wp15, Fj.wp16, Fj.wp17, Fj.wp18, Fj.wp19, Fj.wp20, Fj.wp21, Fj.wpz, Fj.tyN, Int.reduceEq, Int.reduceLT, Int.reduceLE, Int.reduceAdd, Int.reduceSub, Int.reduceMul, Int.reduceNeg, Int.reducePow, Int.reduceToNat, Int.reduceMod, Int.reduceDiv, Int.reduceNe, Nat.reduceEqDiff, Nat.reduceMul, borOk, dkAll, dkKept, nlD, nlAll, id, frz, freeE, outsE, pick, merE, wipeE, Nat.reduceAdd, Nat.reduceSub, Nat.reduceLeDiff, Nat.reduceLT, reduceCtorEq, if_true, if_false, eq_self, forall_const, Bool.false_and]
            · have : j ≤ n - 1 := by omega
              simp (config := {maxSteps := 1000000}) only [q_num, oNum, oBtw, g0, g1, this, Fj.wp0, Fj.wp1, Fj.wp2, Fj.wp3, Fj.wp4, Fj.wp5, Fj.wp6, Fj.wp7, Fj.wp8, Fj.wp9, Fj.wp10, Fj.wp11, Fj.wp12, Fj.wp13, Fj.wp14, Fj.wp15, Fj.wp16, Fj.wp17, Fj.wp18, Fj.wp19, Fj.wp20, Fj.wp21, Fj.wpz, Fj.tyN, Int.reduceEq, Int.reduceLT, Int.reduceLE, Int.reduceAdd, Int.reduceSub, Int.reduceMul, Int.reduceNeg, Int.reducePow, Int.reduceToNat, Int.reduceMod, Int.reduceDiv, Int.reduceNe, Nat.reduceEqDiff, Nat.reduceMul, borOk, dkAll, dkKept, nlD, nlAll, id, frz, freeE, outsE, pick, merE, wipeE, Nat.reduceAdd, Nat.reduceSub, Nat.reduceLeDiff, Nat.reduceLT, reduceCtorEq, if_true, if_false, eq_self, forall_const, Bool.false_and]
          · simp (config := {maxSteps := 1000000}) only [q_num, oNum, oBtw, g0, Fj.wp0, Fj.wp1, Fj.wp2, Fj.wp3, Fj.wp4, Fj.wp5, Fj.wp6, Fj.wp7, Fj.wp8, Fj.wp9, Fj.wp10, Fj.wp11, Fj.wp12, Fj.wp13, Fj.wp14, Fj.wp15, Fj.wp16, Fj.wp17, Fj.wp18, Fj.wp19, Fj.wp20, Fj.wp21, Fj.wpz, Fj.tyN, Int.reduceEq, Int.reduceLT, Int.reduceLE, Int.reduceAdd, Int.reduceSub, Int.reduceMul, Int.reduceNeg, Int.reducePow, Int.reduceToNat, Int.reduceMod, Int.reduceDiv, Int.reduceNe, Nat.reduceEqDiff, Nat.reduceMul, borOk, dkAll, dkKept, nlD, nlAll, id, frz, freeE, outsE, pick, merE, wipeE, Nat.reduceAdd, Nat.reduceSub, Nat.reduceLeDiff, Nat.reduceLT, reduceCtorEq, if_true, if_false, eq_self, forall_const, Bool.false_and]
        | _ => simp (config := {maxSteps := 1000000}) only [q_num, oNum, oBtw, Fj.wp0, Fj.wp1, Fj.wp2, Fj.wp3, Fj.wp4, Fj.wp5, Fj.wp6, Fj.wp7, Fj.wp8, Fj.wp9, Fj.wp10, Fj.wp11, Fj.wp12, Fj.wp13, Fj.wp14, Fj.wp15, Fj.wp16, Fj.wp17, Fj.wp18, Fj.wp19, Fj.wp20, Fj.wp21, Fj.wpz, Fj.tyN, Int.reduceEq, Int.reduceLT, Int.reduceLE, Int.reduceAdd, Int.reduceSub, Int.reduceMul, Int.reduceNeg, Int.reducePow, Int.reduceToNat, Int.reduceMod, Int.reduceDiv, Int.reduceNe, Nat.reduceEqDiff, Nat.reduceMul, borOk, dkAll, dkKept, nlD, nlAll, id, frz, freeE, outsE, pick, merE, wipeE, Nat.reduceAdd, Nat.reduceSub, Nat.reduceLeDiff, Nat.reduceLT, reduceCtorEq, if_true, if_false, eq_self, forall_const, Bool.false_and]
      · simp (config := {maxSteps := 1000000}) only [all_notempty, oChoice, h, Fj.wp0, Fj.wp1, Fj.wp2, Fj.wp3, Fj.wp4, Fj.wp5, Fj.wp6, Fj.wp7, Fj.wp8, Fj.wp9, Fj.wp10, Fj.wp11, Fj.wp12, Fj.wp13, Fj.wp14, Fj.wp15, Fj.wp16, Fj.wp17, Fj.wp18, Fj.wp19, Fj.wp20, Fj.wp21, Fj.wpz, Fj.tyN, Int.reduceEq, Int.reduceLT, Int.reduceLE, Int.reduceAdd, Int.reduceSub, Int.reduceMul, Int.reduceNeg, Int.reducePow, Int.reduceToNat, Int.reduceMod, Int.reduceDiv, Int.reduceNe, Nat.reduceEqDiff, Nat.reduceMul, borOk, dkAll, dkKept, nlD, nlAll, id, frz, freeE, outsE, pick, merE, wipeE, Nat.reduceAdd, Nat.reduceSub, Nat.reduceLeDiff, Nat.reduceLT, reduceCtorEq, if_true, if_false, eq_self, forall_const, Bool.false_and]
    · simp (config := {maxSteps := 1000000}) only [mf__law_is_choice, mb__law_is_choice, mb__law_is_choice_1, h, List.length_map, oChoice, Fj.wp0, Fj.wp1, Fj.wp2, Fj.wp3, Fj.wp4, Fj.wp5, Fj.wp6, Fj.wp7, Fj.wp8, Fj.wp9, Fj.wp10, Fj.wp11, Fj.wp12, Fj.wp13, Fj.wp14, Fj.wp15, Fj.wp16, Fj.wp17, Fj.wp18, Fj.wp19, Fj.wp20, Fj.wp21, Fj.wpz, Fj.tyN, Int.reduceEq, Int.reduceLT, Int.reduceLE, Int.reduceAdd, Int.reduceSub, Int.reduceMul, Int.reduceNeg, Int.reducePow, Int.reduceToNat, Int.reduceMod, Int.reduceDiv, Int.reduceNe, Nat.reduceEqDiff, Nat.reduceMul, borOk, dkAll, dkKept, nlD, nlAll, id, frz, freeE, outsE, pick, merE, wipeE, Nat.reduceAdd, Nat.reduceSub, Nat.reduceLeDiff, Nat.reduceLT, reduceCtorEq, if_true, if_false, eq_self, forall_const, Bool.false_and]
  | _ => simp (config := {maxSteps := 1000000}) only [mf__law_is_choice, mb__law_is_choice, mb__law_is_choice_1, oChoice, Fj.wp0, Fj.wp1, Fj.wp2, Fj.wp3, Fj.wp4, Fj.wp5, Fj.wp6, Fj.wp7, Fj.wp8, Fj.wp9, Fj.wp10, Fj.wp11, Fj.wp12, Fj.wp13, Fj.wp14, Fj.wp15, Fj.wp16, Fj.wp17, Fj.wp18, Fj.wp19, Fj.wp20, Fj.wp21, Fj.wpz, Fj.tyN, Int.reduceEq, Int.reduceLT, Int.reduceLE, Int.reduceAdd, Int.reduceSub, Int.reduceMul, Int.reduceNeg, Int.reducePow, Int.reduceToNat, Int.reduceMod, Int.reduceDiv, Int.reduceNe, Nat.reduceEqDiff, Nat.reduceMul, borOk, dkAll, dkKept, nlD, nlAll, id, frz, freeE, outsE, pick, merE, wipeE, Nat.reduceAdd, Nat.reduceSub, Nat.reduceLeDiff, Nat.reduceLT, reduceCtorEq, if_true, if_false, eq_self, forall_const, Bool.false_and]
end L_k36

set_option maxRecDepth 100000
set_option maxHeartbeats 0
set_option linter.all false
set_option linter.unusedSimpArgs false
namespace L_k36
open PySem PySem.Spec PyProof.Rows L2 Fj
/-! what is drawn -/
theorem dk_mono {n n' : Nat} {l : List Int} {m t : Int} (h : DkOk n l m t) (hn : n ≤ n') : DkOk n' l m t := by
  obtain ⟨h1, h2, h3, h4, h5⟩ := h
  exact ⟨h1, h2, h3, by omega, h5⟩
/-- a function that draws at most c times -/
def Dk (c : Nat) (f : MF) (args : List Ent) (R : Ent → Prop) : Prop := ∀ (n : Nat) (l : List Int) (m t : Int), DkOk n l m t → n + c ≤ 2 ^ 62 → W (f (.own false (.deck 1 l m t) :: args)) fun e outs => R e ∧ ∃ l' m' t' o, outs = .own false (.deck 1 l' m' t') :: o ∧ DkOk (n + c) l' m' t'
theorem erase_perm {α : Type} : ∀ (xs : List α) (k : Nat) (h : k < xs.length), (xs[k] :: xs.eraseIdx k).Perm xs
  | [], _, h => (Nat.not_lt_zero _ h).elim
  | x :: xs, 0, _ => List.Perm.refl _
  | x :: xs, k + 1, h => by
    have hk : k < xs.length := by simpa using h
    have := erase_perm xs k hk
    show (xs[k] :: x :: xs.eraseIdx k).Perm (x :: xs)
    exact (List.Perm.swap ..).trans (List.Perm.cons x this)
theorem shuf_ok (ds : List PyData) (hl : ds.length ≤ 100000) : Dk 100000 mf__law_shuffled [.val (.list ds)] fun e => ∃ ds', e = .own true (.lst ds') ∧ ds'.Perm ds := by
  intro n l m t hd hn
  simp (config := {maxSteps := 1000000}) only [mf__law_shuffled, mb__law_shuffled, mb__law_shuffled_1, Int.toNat_natCast, Fj.wp0, Fj.wp1, Fj.wp2, Fj.wp3, Fj.wp4, Fj.wp5, Fj.wp6, Fj.wp7, Fj.wp8, Fj.wp9, Fj.wp10, Fj.wp11, Fj.wp12, Fj.wp13, Fj.wp14, Fj.wp15, Fj.wp16, Fj.wp17, Fj.wp18, Fj.wp19, Fj.wp20, Fj.wp21, Fj.wpz, Fj.tyN, Int.reduceEq, Int.reduceLT, Int.reduceLE, Int.reduceAdd, Int.reduceSub, Int.reduceMul, Int.reduceNeg, Int.reducePow, Int.reduceToNat, Int.reduceMod, Int.reduceDiv, Int.reduceNe, Nat.reduceEqDiff, Nat.reduceMul, borOk, dkAll, dkKept, nlD, nlAll, id, frz, freeE, outsE, pick, merE, wipeE, Nat.reduceAdd, Nat.reduceSub, Nat.reduceLeDiff, Nat.reduceLT, reduceCtorEq, if_true, if_false, eq_self, forall_const, Bool.false_and]
  refine ⟨by omega, ?_⟩
  refine w_forL (fun xs ρ => ∃ left found l' m' t' e2 n', (found ++ left).Perm ds ∧ left.length = xs.length ∧ n' + xs.length = n + ds.length ∧ DkOk n' l' m' t' ∧ Pl e2 ∧ ρ = [.own false (.deck 1 l' m' t'), .val (.list ds), e2, .own true (.lst left), .own true (.lst found)]) ?_ ?_ _ _ ⟨ds, [], l, m, t, _, n, List.Perm.refl _, by rw [rngD_map, List.length_map, List.length_range], by rw [rngD_map, List.length_map, List.length_range], hd, .no, rfl⟩
  · rintro x xs ρ ⟨left, found, l', m', t', e2, n', h1, h2, h3, h4, p2, rfl⟩
    have hx : xs.length + 1 ≤ ds.length := by
      have := h1.length_eq
      rw [List.length_append, h2, List.length_cons] at this
      omega
    rw [List.length_cons] at h2 h3
    simp (config := {maxSteps := 1000000}) only [p2.all, Fj.wp0, Fj.wp1, Fj.wp2, Fj.wp3, Fj.wp4, Fj.wp5, Fj.wp6, Fj.wp7, Fj.wp8, Fj.wp9, Fj.wp10, Fj.wp11, Fj.wp12, Fj.wp13, Fj.wp14, Fj.wp15, Fj.wp16, Fj.wp17, Fj.wp18, Fj.wp19, Fj.wp20, Fj.wp21, Fj.wpz, Fj.tyN, Int.reduceEq, Int.reduceLT, Int.reduceLE, Int.reduceAdd, Int.reduceSub, Int.reduceMul, Int.reduceNeg, Int.reducePow, Int.reduceToNat, Int.reduceMod, Int.reduceDiv, Int.reduceNe, Nat.reduceEqDiff, Nat.reduceMul, borOk, dkAll, dkKept, nlD, nlAll, id, frz, freeE, outsE, pick, merE, wipeE, Nat.reduceAdd, Nat.reduceSub, Nat.reduceLeDiff, Nat.reduceLT, reduceCtorEq, if_true, if_false, eq_self, forall_const, Bool.false_and]
    refine (draw_ok n' l' m' t' left.length h4 (by omega) (by omega) (by omega)).mono ?_
    rintro _ _ ⟨r, l'', m'', t'', o, rfl, r0, r1, rfl, h5⟩
    obtain ⟨k, rfl⟩ : ∃ k : Nat, r = k := ⟨r.toNat, by omega⟩
    have hk : k < left.length := by omega
    have hx2 := ixN_nat hk
    have hx3 : left[k]? = some left[k] := List.getElem?_eq_getElem hk
    simp (config := {maxSteps := 1000000}) only [hx2, hx3, p2.all, Fj.wp0, Fj.wp1, Fj.wp2, Fj.wp3, Fj.wp4, Fj.wp5, Fj.wp6, Fj.wp7, Fj.wp8, Fj.wp9, Fj.wp10, Fj.wp11, Fj.wp12, Fj.wp13, Fj.wp14, Fj.wp15, Fj.wp16, Fj.wp17, Fj.wp18, Fj.wp19, Fj.wp20, Fj.wp21, Fj.wpz, Fj.tyN, Int.reduceEq, Int.reduceLT, Int.reduceLE, Int.reduceAdd, Int.reduceSub, Int.reduceMul, Int.reduceNeg, Int.reducePow, Int.reduceToNat, Int.reduceMod, Int.reduceDiv, Int.reduceNe, Nat.reduceEqDiff, Nat.reduceMul, borOk, dkAll, dkKept, nlD, nlAll, id, frz, freeE, outsE, pick, merE, wipeE, Nat.reduceAdd, Nat.reduceSub, Nat.reduceLeDiff, Nat.reduceLT, reduceCtorEq, if_true, if_false, eq_self, forall_const, Bool.false_and]
    have hf : found.length < 100000 := by
      have := h1.length_eq
      rw [List.length_append] at this
      omega
    refine ⟨by omega, hf, left.eraseIdx k, found ++ [left[k]], l'', m'', t'', _, n' + 1, ?_, by rw [List.length_eraseIdx_of_lt hk]; omega, by omega, h5, .val, rfl⟩
    rw [List.append_assoc]
    exact (List.Perm.append_left found (erase_perm left k hk)).trans h1
  · rintro ρ ⟨left, found, l', m', t', e2, n', h1, h2, h3, h4, p2, rfl⟩
    have : left = [] := List.length_eq_zero_iff.mp h2
    subst this
    rw [List.append_nil] at h1
    rw [List.length_nil] at h3
    simp (config := {maxSteps := 1000000}) only [p2.all, Fj.wp0, Fj.wp1, Fj.wp2, Fj.wp3, Fj.wp4, Fj.wp5, Fj.wp6, Fj.wp7, Fj.wp8, Fj.wp9, Fj.wp10, Fj.wp11, Fj.wp12, Fj.wp13, Fj.wp14, Fj.wp15, Fj.wp16, Fj.wp17, Fj.wp18, Fj.wp19, Fj.wp20, Fj.wp21, Fj.wpz, Fj.tyN, Int.reduceEq, Int.reduceLT, Int.reduceLE, Int.reduceAdd, Int.reduceSub, Int.reduceMul, Int.reduceNeg, Int.reducePow, Int.reduceToNat, Int.reduceMod, Int.reduceDiv, Int.reduceNe, Nat.reduceEqDiff, Nat.reduceMul, borOk, dkAll, dkKept, nlD, nlAll, id, frz, freeE, outsE, pick, merE, wipeE, Nat.reduceAdd, Nat.reduceSub, Nat.reduceLeDiff, Nat.reduceLT, reduceCtorEq, if_true, if_false, eq_self, forall_const, Bool.false_and]
    exact ⟨⟨found, rfl, h1⟩, _, _, _, _, rfl, dk_mono h4 (by omega)⟩
end L_k36

set_option maxRecDepth 100000
set_option maxHeartbeats 0
set_option linter.all false
set_option linter.unusedSimpArgs false
namespace L_k36
open PySem PySem.Spec PyProof.Rows L2 Fj
/-! sizes, terms, bars, problems as they are drawn -/
def prodL (ns : List Int) : Int := ns.foldl (fun a b => a * b) 1
theorem prodL_app (ns : List Int) (n : Int) : prodL (ns ++ [n]) = prodL ns * n := by
  unfold prodL
  rw [List.foldl_append]
  rfl
structure Sizes (most many : Int) (ns : List Int) : Prop where
  len : (ns.length : Int) ≤ many
  at12 : ∀ n ∈ ns, 1 ≤ n ∧ n ≤ 12
  prod : prodL ns ≤ most
theorem prodL_pos : ∀ {ns : List Int}, (∀ n ∈ ns, 1 ≤ n ∧ n ≤ 12) → 1 ≤ prodL ns := by
  intro ns h
  have : ∀ (ns : List Int) (a : Int), 1 ≤ a → (∀ n ∈ ns, 1 ≤ n ∧ n ≤ 12) → 1 ≤ ns.foldl (fun a b => a * b) a := by
    intro ns
    induction ns with
    | nil => exact fun a h _ => h
    | cons n ns ih =>
      intro a ha h
      refine ih _ ?_ fun x hx => h x (List.mem_cons_of_mem _ hx)
      have := (h n (List.mem_cons_self ..)).1
      have := Int.mul_le_mul ha this (by decide) (by omega)
      simpa using this
  exact this ns 1 (Int.le_refl _) h
theorem sizes_ok (most many : Int) (h1 : 1 ≤ most) (h2 : most ≤ 10000) (h3 : 0 ≤ many) (h4 : many ≤ 1000) : Dk 2000 mf__law_sizes [.val (.int most), .val (.int many)] fun e => ∃ ns, e = .val (.tuple (ns.map .int)) ∧ Sizes most many ns := by
  intro n l m t hd hn
  simp (config := {maxSteps := 1000000}) only [mf__law_sizes, mb__law_sizes, mb__law_sizes_2, Fj.wp0, Fj.wp1, Fj.wp2, Fj.wp3, Fj.wp4, Fj.wp5, Fj.wp6, Fj.wp7, Fj.wp8, Fj.wp9, Fj.wp10, Fj.wp11, Fj.wp12, Fj.wp13, Fj.wp14, Fj.wp15, Fj.wp16, Fj.wp17, Fj.wp18, Fj.wp19, Fj.wp20, Fj.wp21, Fj.wpz, Fj.tyN, Int.reduceEq, Int.reduceLT, Int.reduceLE, Int.reduceAdd, Int.reduceSub, Int.reduceMul, Int.reduceNeg, Int.reducePow, Int.reduceToNat, Int.reduceMod, Int.reduceDiv, Int.reduceNe, Nat.reduceEqDiff, Nat.reduceMul, borOk, dkAll, dkKept, nlD, nlAll, id, frz, freeE, outsE, pick, merE, wipeE, Nat.reduceAdd, Nat.reduceSub, Nat.reduceLeDiff, Nat.reduceLT, reduceCtorEq, if_true, if_false, eq_self, forall_const, Bool.false_and]
  refine (draw_ok n l m t (many + 1) hd (by omega) (by omega) (by omega)).mono ?_
  rintro _ _ ⟨r, l', m', t', o, rfl, r0, r1, rfl, h5⟩
  simp (config := {maxSteps := 1000000}) only [Fj.wp0, Fj.wp1, Fj.wp2, Fj.wp3, Fj.wp4, Fj.wp5, Fj.wp6, Fj.wp7, Fj.wp8, Fj.wp9, Fj.wp10, Fj.wp11, Fj.wp12, Fj.wp13, Fj.wp14, Fj.wp15, Fj.wp16, Fj.wp17, Fj.wp18, Fj.wp19, Fj.wp20, Fj.wp21, Fj.wpz, Fj.tyN, Int.reduceEq, Int.reduceLT, Int.reduceLE, Int.reduceAdd, Int.reduceSub, Int.reduceMul, Int.reduceNeg, Int.reducePow, Int.reduceToNat, Int.reduceMod, Int.reduceDiv, Int.reduceNe, Nat.reduceEqDiff, Nat.reduceMul, borOk, dkAll, dkKept, nlD, nlAll, id, frz, freeE, outsE, pick, merE, wipeE, Nat.reduceAdd, Nat.reduceSub, Nat.reduceLeDiff, Nat.reduceLT, reduceCtorEq, if_true, if_false, eq_self, forall_const, Bool.false_and]
  refine ⟨by omega, ?_⟩
  refine w_forL (fun xs ρ => ∃ ns l' m' t' e3 e6 n', ns.length + xs.length ≤ r.toNat ∧ (∀ n ∈ ns, 1 ≤ n ∧ n ≤ 12) ∧ prodL ns ≤ most ∧ n' + xs.length = n + 1 + r.toNat ∧ DkOk n' l' m' t' ∧ Pl e3 ∧ Pl e6 ∧ ρ = [.own false (.deck 1 l' m' t'), .val (.int most), .val (.int many), e3, .own true (.lst (ns.map .int)), .val (.int (prodL ns)), e6]) ?_ ?_ _ _ ⟨[], l', m', t', _, _, n + 1, by rw [rngD_map, List.length_map, List.length_range]; simp, fun x hx => (List.not_mem_nil hx).elim, h1, by rw [rngD_map, List.length_map, List.length_range], h5, .no, .no, rfl⟩
  · rintro x xs ρ ⟨ns, l', m', t', e3, e6, n', g1, g2, g3, g4, g5, p3, p6, rfl⟩
    rw [List.length_cons] at g1 g4
    simp (config := {maxSteps := 1000000}) only [p3.all, p6.all, Fj.wp0, Fj.wp1, Fj.wp2, Fj.wp3, Fj.wp4, Fj.wp5, Fj.wp6, Fj.wp7, Fj.wp8, Fj.wp9, Fj.wp10, Fj.wp11, Fj.wp12, Fj.wp13, Fj.wp14, Fj.wp15, Fj.wp16, Fj.wp17, Fj.wp18, Fj.wp19, Fj.wp20, Fj.wp21, Fj.wpz, Fj.tyN, Int.reduceEq, Int.reduceLT, Int.reduceLE, Int.reduceAdd, Int.reduceSub, Int.reduceMul, Int.reduceNeg, Int.reducePow, Int.reduceToNat, Int.reduceMod, Int.reduceDiv, Int.reduceNe, Nat.reduceEqDiff, Nat.reduceMul, borOk, dkAll, dkKept, nlD, nlAll, id, frz, freeE, outsE, pick, merE, wipeE, Nat.reduceAdd, Nat.reduceSub, Nat.reduceLeDiff, Nat.reduceLT, reduceCtorEq, if_true, if_false, eq_self, forall_const, Bool.false_and]
    refine (pickT_ok n' l' m' t' _ g5 (by omega) (by simp) (by simp)).mono ?_
    rintro _ _ ⟨d, l'', m'', t'', o, hm, rfl, rfl, h6⟩
    obtain ⟨z, rfl, z1, z2⟩ : ∃ z : Int, d = .int z ∧ 1 ≤ z ∧ z ≤ 12 := by
      simp only [List.mem_cons, List.not_mem_nil, or_false] at hm
      rcases hm with rfl | rfl | rfl | rfl | rfl | rfl | rfl | rfl | rfl <;> exact ⟨_, rfl, by decide, by decide⟩
    have pp := prodL_pos g2
    have hmul : gMulC (prodL ns) z = true := mulCi (by omega) (by omega) (by omega) (by omega)
    simp (config := {maxSteps := 1000000}) only [mb__law_sizes_1, p3.all, p6.all, hmul, Fj.wp0, Fj.wp1, Fj.wp2, Fj.wp3, Fj.wp4, Fj.wp5, Fj.wp6, Fj.wp7, Fj.wp8, Fj.wp9, Fj.wp10, Fj.wp11, Fj.wp12, Fj.wp13, Fj.wp14, Fj.wp15, Fj.wp16, Fj.wp17, Fj.wp18, Fj.wp19, Fj.wp20, Fj.wp21, Fj.wpz, Fj.tyN, Int.reduceEq, Int.reduceLT, Int.reduceLE, Int.reduceAdd, Int.reduceSub, Int.reduceMul, Int.reduceNeg, Int.reducePow, Int.reduceToNat, Int.reduceMod, Int.reduceDiv, Int.reduceNe, Nat.reduceEqDiff, Nat.reduceMul, borOk, dkAll, dkKept, nlD, nlAll, id, frz, freeE, outsE, pick, merE, wipeE, Nat.reduceAdd, Nat.reduceSub, Nat.reduceLeDiff, Nat.reduceLT, reduceCtorEq, if_true, if_false, eq_self, forall_const, Bool.false_and]
    by_cases hp : prodL ns * z ≤ most
    · simp (config := {maxSteps := 1000000}) only [hp, hmul, p3.all, p6.all, List.length_map, Fj.wp0, Fj.wp1, Fj.wp2, Fj.wp3, Fj.wp4, Fj.wp5, Fj.wp6, Fj.wp7, Fj.wp8, Fj.wp9, Fj.wp10, Fj.wp11, Fj.wp12, Fj.wp13, Fj.wp14, Fj.wp15, Fj.wp16, Fj.wp17, Fj.wp18, Fj.wp19, Fj.wp20, Fj.wp21, Fj.wpz, Fj.tyN, Int.reduceEq, Int.reduceLT, Int.reduceLE, Int.reduceAdd, Int.reduceSub, Int.reduceMul, Int.reduceNeg, Int.reducePow, Int.reduceToNat, Int.reduceMod, Int.reduceDiv, Int.reduceNe, Nat.reduceEqDiff, Nat.reduceMul, borOk, dkAll, dkKept, nlD, nlAll, id, frz, freeE, outsE, pick, merE, wipeE, Nat.reduceAdd, Nat.reduceSub, Nat.reduceLeDiff, Nat.reduceLT, reduceCtorEq, if_true, if_false, eq_self, forall_const, Bool.false_and]
      refine ⟨by omega, ns ++ [z], l'', m'', t'', .val x, .val (.int z), n' + 1, by rw [List.length_append, List.length_singleton]; omega, ?_, by rw [prodL_app]; exact hp, by omega, h6, .val, .val, ?_⟩
      · intro y hy
        rcases List.mem_append.mp hy with q | q
        · exact g2 y q
        · rw [List.mem_singleton.mp q]
          exact ⟨z1, z2⟩
      · rw [prodL_app, List.map_append]
        rfl
    · simp (config := {maxSteps := 1000000}) only [hp, Fj.wp0, Fj.wp1, Fj.wp2, Fj.wp3, Fj.wp4, Fj.wp5, Fj.wp6, Fj.wp7, Fj.wp8, Fj.wp9, Fj.wp10, Fj.wp11, Fj.wp12, Fj.wp13, Fj.wp14, Fj.wp15, Fj.wp16, Fj.wp17, Fj.wp18, Fj.wp19, Fj.wp20, Fj.wp21, Fj.wpz, Fj.tyN, Int.reduceEq, Int.reduceLT, Int.reduceLE, Int.reduceAdd, Int.reduceSub, Int.reduceMul, Int.reduceNeg, Int.reducePow, Int.reduceToNat, Int.reduceMod, Int.reduceDiv, Int.reduceNe, Nat.reduceEqDiff, Nat.reduceMul, borOk, dkAll, dkKept, nlD, nlAll, id, frz, freeE, outsE, pick, merE, wipeE, Nat.reduceAdd, Nat.reduceSub, Nat.reduceLeDiff, Nat.reduceLT, reduceCtorEq, if_true, if_false, eq_self, forall_const, Bool.false_and]
      exact ⟨ns, l'', m'', t'', _, _, n' + 1, by omega, g2, g3, by omega, h6, .val, .val, rfl⟩
  · rintro ρ ⟨ns, l', m', t', e3, e6, n', g1, g2, g3, g4, g5, p3, p6, rfl⟩
    rw [List.length_nil] at g1 g4
    simp (config := {maxSteps := 1000000}) only [p3.all, p6.all, Fj.wp0, Fj.wp1, Fj.wp2, Fj.wp3, Fj.wp4, Fj.wp5, Fj.wp6, Fj.wp7, Fj.wp8, Fj.wp9, Fj.wp10, Fj.wp11, Fj.wp12, Fj.wp13, Fj.wp14, Fj.wp15, Fj.wp16, Fj.wp17, Fj.wp18, Fj.wp19, Fj.wp20, Fj.wp21, Fj.wpz, Fj.tyN, Int.reduceEq, Int.reduceLT, Int.reduceLE, Int.reduceAdd, Int.reduceSub, Int.reduceMul, Int.reduceNeg, Int.reducePow, Int.reduceToNat, Int.reduceMod, Int.reduceDiv, Int.reduceNe, Nat.reduceEqDiff, Nat.reduceMul, borOk, dkAll, dkKept, nlD, nlAll, id, frz, freeE, outsE, pick, merE, wipeE, Nat.reduceAdd, Nat.reduceSub, Nat.reduceLeDiff, Nat.reduceLT, reduceCtorEq, if_true, if_false, eq_self, forall_const, Bool.false_and]
    exact ⟨⟨ns, rfl, by omega, g2, g3⟩, _, _, _, _, rfl, dk_mono g5 (by omega)⟩
theorem cut_take (xs : List PyData) (k : Nat) : cutD xs none (some (k : Int)) = xs.take k := by
  unfold Fj.cutD
  rw [HT.sIx_none, HT.sIx_nat, List.drop_zero, Nat.sub_zero, ← List.take_eq_take_min]
theorem perm_ints {ds : List PyData} {js : List Int} (p : ds.Perm (js.map .int)) : ∃ ks : List Int, ds = ks.map .int ∧ ks.Perm js := by
  refine ⟨ds.map valI, ?_, ?_⟩
  · rw [List.map_map]
    refine (List.map_id ds).symm.trans (List.map_congr_left fun d hd => ?_)
    obtain ⟨j, _, rfl⟩ := List.mem_map.mp (p.mem_iff.mp hd)
    rfl
  · have := p.map valI
    rwa [vals_ints] at this
theorem rise_isort {ks : List Int} (nd : ks.Nodup) : rise (isort (fun i j => decide (i < j)) ks) = true := by
  rw [rise_iff]
  have nd2 : (isort (fun i j : Int => decide (i < j)) ks).Nodup := (isort_perm _ _).nodup_iff.mpr nd
  exact ((isort_sorted ord_int _).and nd2).imp fun {a b} ⟨h1, h2⟩ => by
    have := of_decide_eq_false h1
    omega
theorem term_ok (i size : Int) (h1 : 2 ≤ size) (h2 : size ≤ 100) : Dk 100001 mf__law_term [.val (.int i), .val (.int size)] fun e => ∃ ks : List Int, e = .val (.tuple [.int i, .tuple (ks.map .int)]) ∧ rise ks = true ∧ 1 ≤ ks.length ∧ (ks.length : Int) < size ∧ ∀ k ∈ ks, 0 ≤ k ∧ k < size := by
  intro n l m t hd hn
  simp (config := {maxSteps := 1000000}) only [mf__law_term, mb__law_term, Fj.wp0, Fj.wp1, Fj.wp2, Fj.wp3, Fj.wp4, Fj.wp5, Fj.wp6, Fj.wp7, Fj.wp8, Fj.wp9, Fj.wp10, Fj.wp11, Fj.wp12, Fj.wp13, Fj.wp14, Fj.wp15, Fj.wp16, Fj.wp17, Fj.wp18, Fj.wp19, Fj.wp20, Fj.wp21, Fj.wpz, Fj.tyN, Int.reduceEq, Int.reduceLT, Int.reduceLE, Int.reduceAdd, Int.reduceSub, Int.reduceMul, Int.reduceNeg, Int.reducePow, Int.reduceToNat, Int.reduceMod, Int.reduceDiv, Int.reduceNe, Nat.reduceEqDiff, Nat.reduceMul, borOk, dkAll, dkKept, nlD, nlAll, id, frz, freeE, outsE, pick, merE, wipeE, Nat.reduceAdd, Nat.reduceSub, Nat.reduceLeDiff, Nat.reduceLT, reduceCtorEq, if_true, if_false, eq_self, forall_const, Bool.false_and]
  refine ⟨⟨by omega, by omega⟩, by omega, ?_⟩
  refine (shuf_ok (rngD 0 size.toNat) (by rw [rngD_map, List.length_map, List.length_range]; omega) n l m t hd (by omega)).mono ?_
  rintro _ _ ⟨⟨ds', rfl, p⟩, l', m', t', o, rfl, h3⟩
  have eR : rngD 0 size.toNat = ((List.range size.toNat).map fun i : Nat => (0 : Int) + i).map .int := by
    rw [rngD_map, List.map_map]
    rfl
  rw [eR] at p
  obtain ⟨ks, rfl, pk⟩ := perm_ints p
  simp (config := {maxSteps := 1000000}) only [Fj.wp0, Fj.wp1, Fj.wp2, Fj.wp3, Fj.wp4, Fj.wp5, Fj.wp6, Fj.wp7, Fj.wp8, Fj.wp9, Fj.wp10, Fj.wp11, Fj.wp12, Fj.wp13, Fj.wp14, Fj.wp15, Fj.wp16, Fj.wp17, Fj.wp18, Fj.wp19, Fj.wp20, Fj.wp21, Fj.wpz, Fj.tyN, Int.reduceEq, Int.reduceLT, Int.reduceLE, Int.reduceAdd, Int.reduceSub, Int.reduceMul, Int.reduceNeg, Int.reducePow, Int.reduceToNat, Int.reduceMod, Int.reduceDiv, Int.reduceNe, Nat.reduceEqDiff, Nat.reduceMul, borOk, dkAll, dkKept, nlD, nlAll, id, frz, freeE, outsE, pick, merE, wipeE, Nat.reduceAdd, Nat.reduceSub, Nat.reduceLeDiff, Nat.reduceLT, reduceCtorEq, if_true, if_false, eq_self, forall_const, Bool.false_and]
  refine (draw_ok (n + 100000) l' m' t' (size - 1) h3 (by omega) (by omega) (by omega)).mono ?_
  rintro _ _ ⟨r, l'', m'', t'', o, rfl, r0, r1, rfl, h5⟩
  obtain ⟨k, rfl⟩ : ∃ k : Nat, r = k := ⟨r.toNat, by omega⟩
  have ec : cutD (ks.map PyData.int) none (some (1 + (k : Int))) = (ks.take (1 + k)).map .int := by
    rw [show (1 + (k : Int)) = ((1 + k : Nat) : Int) by omega, cut_take, List.map_take]
  have lk : ks.length = size.toNat := by rw [pk.length_eq, List.length_map, List.length_range]
  have nd : ks.Nodup := pk.nodup_iff.mpr (List.Pairwise.map _ (fun a b h z => h (by omega)) (List.nodup_range (n := size.toNat)))
  simp (config := {maxSteps := 1000000}) only [ec, Fj.wp0, Fj.wp1, Fj.wp2, Fj.wp3, Fj.wp4, Fj.wp5, Fj.wp6, Fj.wp7, Fj.wp8, Fj.wp9, Fj.wp10, Fj.wp11, Fj.wp12, Fj.wp13, Fj.wp14, Fj.wp15, Fj.wp16, Fj.wp17, Fj.wp18, Fj.wp19, Fj.wp20, Fj.wp21, Fj.wpz, Fj.tyN, Int.reduceEq, Int.reduceLT, Int.reduceLE, Int.reduceAdd, Int.reduceSub, Int.reduceMul, Int.reduceNeg, Int.reducePow, Int.reduceToNat, Int.reduceMod, Int.reduceDiv, Int.reduceNe, Nat.reduceEqDiff, Nat.reduceMul, borOk, dkAll, dkKept, nlD, nlAll, id, frz, freeE, outsE, pick, merE, wipeE, Nat.reduceAdd, Nat.reduceSub, Nat.reduceLeDiff, Nat.reduceLT, reduceCtorEq, if_true, if_false, eq_self, forall_const, Bool.false_and]
  refine ⟨⟨_, rfl, rise_isort (nd.sublist (List.take_sublist ..)), ?_, ?_, fun j hj => ?_⟩, _, _, _, _, rfl, dk_mono h5 (by omega)⟩
  · rw [(isort_perm _ _).length_eq, List.length_take]
    omega
  · rw [(isort_perm _ _).length_eq, List.length_take]
    omega
  · have h := (isort_perm _ _).mem_iff.mp hj
    have h := pk.mem_iff.mp (List.mem_of_mem_take h)
    obtain ⟨x, hx, rfl⟩ := List.mem_map.mp h
    have := List.mem_range.mp hx
    omega
theorem enum_ints : ∀ (ns : List Int) (k : Nat), enumD k (ns.map .int) = (ns.zipIdx k).map fun p => .tuple [.int (p.2 : Nat), .int p.1]
  | [], _ => rfl
  | n :: ns, k => by
    rw [List.map_cons, List.zipIdx_cons, List.map_cons, ← enum_ints ns (k + 1)]
    rfl
theorem rise_take {ks : List Int} (h : rise ks = true) (k : Nat) : rise (ks.take k) = true := rise_iff.mpr ((rise_iff.mp h).sublist (List.take_sublist ..))
theorem bar_ok (ns : List Int) (most : Int) (hn12 : ∀ n ∈ ns, 1 ≤ n ∧ n ≤ 12) (hl : ns.length ≤ 20) (hm0 : 0 ≤ most) : Dk 3000000 mf__law_drawn_bar [.val (.tuple (ns.map .int)), .val (.int most)] fun e => ∃ ts, e = .val (.tuple ts) ∧ oBar ns (.tuple ts) = true ∧ ts.length ≤ ns.length := by
  intro n l m t hd hn
  simp (config := {maxSteps := 1000000}) only [mf__law_drawn_bar, mb__law_drawn_bar, lc__law_drawn_bar_1, enum_ints, Fj.wp0, Fj.wp1, Fj.wp2, Fj.wp3, Fj.wp4, Fj.wp5, Fj.wp6, Fj.wp7, Fj.wp8, Fj.wp9, Fj.wp10, Fj.wp11, Fj.wp12, Fj.wp13, Fj.wp14, Fj.wp15, Fj.wp16, Fj.wp17, Fj.wp18, Fj.wp19, Fj.wp20, Fj.wp21, Fj.wpz, Fj.tyN, Int.reduceEq, Int.reduceLT, Int.reduceLE, Int.reduceAdd, Int.reduceSub, Int.reduceMul, Int.reduceNeg, Int.reducePow, Int.reduceToNat, Int.reduceMod, Int.reduceDiv, Int.reduceNe, Nat.reduceEqDiff, Nat.reduceMul, borOk, dkAll, dkKept, nlD, nlAll, id, frz, freeE, outsE, pick, merE, wipeE, Nat.reduceAdd, Nat.reduceSub, Nat.reduceLeDiff, Nat.reduceLT, reduceCtorEq, if_true, if_false, eq_self, forall_const, Bool.false_and]
  refine w_lcFil (fun p : Int × Nat => PyData.tuple [.int (p.2 : Nat), .int p.1]) (fun p : Int × Nat => decide (p.1 > 1)) (fun p : Int × Nat => .int (p.2 : Nat)) (fun x hx => ?_) (by rw [List.length_zipIdx]; omega) ?_
  · by_cases g : x.1 > 1 <;> simp (config := {maxSteps := 1000000}) only [g, Fj.wp0, Fj.wp1, Fj.wp2, Fj.wp3, Fj.wp4, Fj.wp5, Fj.wp6, Fj.wp7, Fj.wp8, Fj.wp9, Fj.wp10, Fj.wp11, Fj.wp12, Fj.wp13, Fj.wp14, Fj.wp15, Fj.wp16, Fj.wp17, Fj.wp18, Fj.wp19, Fj.wp20, Fj.wp21, Fj.wpz, Fj.tyN, Int.reduceEq, Int.reduceLT, Int.reduceLE, Int.reduceAdd, Int.reduceSub, Int.reduceMul, Int.reduceNeg, Int.reducePow, Int.reduceToNat, Int.reduceMod, Int.reduceDiv, Int.reduceNe, Nat.reduceEqDiff, Nat.reduceMul, borOk, dkAll, dkKept, nlD, nlAll, id, frz, freeE, outsE, pick, merE, wipeE, Nat.reduceAdd, Nat.reduceSub, Nat.reduceLeDiff, Nat.reduceLT, reduceCtorEq, if_true, if_false, eq_self, forall_const, Bool.false_and]
  have eP : (((ns.zipIdx).filter fun p => decide (p.1 > 1)).map fun p => PyData.int (p.2 : Nat)) = (((ns.zipIdx).filter fun p => decide (p.1 > 1)).map fun p => ((p.2 : Nat) : Int)).map .int := by
    rw [List.map_map]
    rfl
  rw [eP]
  have pl : ∀ i ∈ (((ns.zipIdx).filter fun p => decide (p.1 > 1)).map fun p => ((p.2 : Nat) : Int)), 0 ≤ i ∧ i < ns.length ∧ 1 < ns.getD i.toNat 0 ∧ ns.getD i.toNat 0 ≤ 12 := by
    intro i hi
    obtain ⟨p, hp, rfl⟩ := List.mem_map.mp hi
    obtain ⟨hp, h1⟩ := List.mem_filter.mp hp
    have h1 := of_decide_eq_true h1
    obtain ⟨v, k⟩ := p
    have h2 := List.mem_zipIdx_iff_getElem?.mp hp
    obtain ⟨h3, h4⟩ := List.getElem?_eq_some_iff.mp h2
    refine ⟨by omega, by show ((k : Nat) : Int) < _; omega, ?_, ?_⟩
    · rw [List.getD_eq_getElem?_getD, show (((v, k) : Int × Nat).2 : Int).toNat = k by simp, h2]
      exact h1
    · rw [List.getD_eq_getElem?_getD, show (((v, k) : Int × Nat).2 : Int).toNat = k by simp, h2]
      exact (hn12 v (List.mem_of_getElem? h2)).2
  have nd : (((ns.zipIdx).filter fun p => decide (p.1 > 1)).map fun p => ((p.2 : Nat) : Int)).Nodup := by
    have h1 : ((ns.zipIdx).map fun p => p.2).Nodup := by
      rw [show ((ns.zipIdx).map fun p => p.2) = List.range' 0 ns.length from List.zipIdx_map_snd ..]
      exact List.nodup_range'
    have h2 := h1.sublist ((List.filter_sublist (p := fun p : Int × Nat => decide (p.1 > 1)) (l := ns.zipIdx)).map (fun p => p.2))
    have h3 : ((((ns.zipIdx).filter fun p => decide (p.1 > 1)).map fun p => p.2).map fun k : Nat => (k : Int)).Nodup := List.Pairwise.map _ (fun a b h z => h (by omega)) h2
    rwa [List.map_map] at h3
  have ln : (((ns.zipIdx).filter fun p => decide (p.1 > 1)).map fun p => ((p.2 : Nat) : Int)).length ≤ ns.length := by
    rw [List.length_map]
    refine Nat.le_trans (List.length_filter_le ..) ?_
    rw [List.length_zipIdx]
    exact Nat.le_refl _
  generalize (((ns.zipIdx).filter fun p => decide (p.1 > 1)).map fun p => ((p.2 : Nat) : Int)) = ps at pl nd ln
  simp (config := {maxSteps := 1000000}) only [Fj.wp0, Fj.wp1, Fj.wp2, Fj.wp3, Fj.wp4, Fj.wp5, Fj.wp6, Fj.wp7, Fj.wp8, Fj.wp9, Fj.wp10, Fj.wp11, Fj.wp12, Fj.wp13, Fj.wp14, Fj.wp15, Fj.wp16, Fj.wp17, Fj.wp18, Fj.wp19, Fj.wp20, Fj.wp21, Fj.wpz, Fj.tyN, Int.reduceEq, Int.reduceLT, Int.reduceLE, Int.reduceAdd, Int.reduceSub, Int.reduceMul, Int.reduceNeg, Int.reducePow, Int.reduceToNat, Int.reduceMod, Int.reduceDiv, Int.reduceNe, Nat.reduceEqDiff, Nat.reduceMul, borOk, dkAll, dkKept, nlD, nlAll, id, frz, freeE, outsE, pick, merE, wipeE, Nat.reduceAdd, Nat.reduceSub, Nat.reduceLeDiff, Nat.reduceLT, reduceCtorEq, if_true, if_false, eq_self, forall_const, Bool.false_and]
  refine (shuf_ok (ps.map .int) (by rw [List.length_map]; omega) n l m t hd (by omega)).mono ?_
  rintro _ _ ⟨⟨ds', rfl, p⟩, l', m', t', o, rfl, h3⟩
  obtain ⟨qs, rfl, pq⟩ := perm_ints p
  simp (config := {maxSteps := 1000000}) only [Fj.wp0, Fj.wp1, Fj.wp2, Fj.wp3, Fj.wp4, Fj.wp5, Fj.wp6, Fj.wp7, Fj.wp8, Fj.wp9, Fj.wp10, Fj.wp11, Fj.wp12, Fj.wp13, Fj.wp14, Fj.wp15, Fj.wp16, Fj.wp17, Fj.wp18, Fj.wp19, Fj.wp20, Fj.wp21, Fj.wpz, Fj.tyN, Int.reduceEq, Int.reduceLT, Int.reduceLE, Int.reduceAdd, Int.reduceSub, Int.reduceMul, Int.reduceNeg, Int.reducePow, Int.reduceToNat, Int.reduceMod, Int.reduceDiv, Int.reduceNe, Nat.reduceEqDiff, Nat.reduceMul, borOk, dkAll, dkKept, nlD, nlAll, id, frz, freeE, outsE, pick, merE, wipeE, Nat.reduceAdd, Nat.reduceSub, Nat.reduceLeDiff, Nat.reduceLT, reduceCtorEq, if_true, if_false, eq_self, forall_const, Bool.false_and]
  refine (pickT_ok (n + 100000) l' m' t' _ h3 (by omega) (by simp) (by simp)).mono ?_
  rintro _ _ ⟨d, l'', m'', t'', o, hm, rfl, rfl, h6⟩
  obtain ⟨k, rfl⟩ : ∃ k : Nat, d = .int (k : Int) := by
    simp only [List.mem_cons, List.not_mem_nil, or_false] at hm
    rcases hm with rfl | rfl | rfl | rfl | rfl | rfl | rfl
    · exact ⟨1, rfl⟩
    · exact ⟨2, rfl⟩
    · exact ⟨2, rfl⟩
    · exact ⟨3, rfl⟩
    · exact ⟨most.toNat, by rw [Int.toNat_of_nonneg hm0]⟩
    · exact ⟨1, rfl⟩
    · exact ⟨0, rfl⟩
  have e1 : cutD (qs.map PyData.int) none (some (k : Int)) = (qs.take k).map .int := by rw [cut_take, List.map_take]
  simp (config := {maxSteps := 1000000}) only [e1, Fj.wp0, Fj.wp1, Fj.wp2, Fj.wp3, Fj.wp4, Fj.wp5, Fj.wp6, Fj.wp7, Fj.wp8, Fj.wp9, Fj.wp10, Fj.wp11, Fj.wp12, Fj.wp13, Fj.wp14, Fj.wp15, Fj.wp16, Fj.wp17, Fj.wp18, Fj.wp19, Fj.wp20, Fj.wp21, Fj.wpz, Fj.tyN, Int.reduceEq, Int.reduceLT, Int.reduceLE, Int.reduceAdd, Int.reduceSub, Int.reduceMul, Int.reduceNeg, Int.reducePow, Int.reduceToNat, Int.reduceMod, Int.reduceDiv, Int.reduceNe, Nat.reduceEqDiff, Nat.reduceMul, borOk, dkAll, dkKept, nlD, nlAll, id, frz, freeE, outsE, pick, merE, wipeE, Nat.reduceAdd, Nat.reduceSub, Nat.reduceLeDiff, Nat.reduceLT, reduceCtorEq, if_true, if_false, eq_self, forall_const, Bool.false_and]
  have nq : (qs.take k).Nodup := (pq.nodup_iff.mpr nd).sublist (List.take_sublist ..)
  have hr := rise_isort nq
  have hin : ∀ i ∈ isort (fun i j => decide (i < j)) (qs.take k), i ∈ ps := fun i hi => pq.mem_iff.mp (List.mem_of_mem_take ((isort_perm _ _).mem_iff.mp hi))
  have hlen : (isort (fun i j => decide (i < j)) (qs.take k)).length ≤ ns.length := by
    rw [(isort_perm _ _).length_eq, List.length_take]
    have := pq.length_eq
    omega
  generalize isort (fun i j => decide (i < j)) (qs.take k) = ss at hr hin hlen
  have e2 : cutD (ss.map PyData.int) none (some most) = (ss.take most.toNat).map .int := by
    rw [show most = ((most.toNat : Nat) : Int) by omega, cut_take, List.map_take]
    rfl
  have hr2 := rise_take hr most.toNat
  have hin2 : ∀ i ∈ ss.take most.toNat, i ∈ ps := fun i hi => hin i (List.mem_of_mem_take hi)
  have hlen2 : (ss.take most.toNat).length ≤ ns.length := by rw [List.length_take]; omega
  simp (config := {maxSteps := 1000000}) only [lc__law_drawn_bar_2, e2, Fj.wp0, Fj.wp1, Fj.wp2, Fj.wp3, Fj.wp4, Fj.wp5, Fj.wp6, Fj.wp7, Fj.wp8, Fj.wp9, Fj.wp10, Fj.wp11, Fj.wp12, Fj.wp13, Fj.wp14, Fj.wp15, Fj.wp16, Fj.wp17, Fj.wp18, Fj.wp19, Fj.wp20, Fj.wp21, Fj.wpz, Fj.tyN, Int.reduceEq, Int.reduceLT, Int.reduceLE, Int.reduceAdd, Int.reduceSub, Int.reduceMul, Int.reduceNeg, Int.reducePow, Int.reduceToNat, Int.reduceMod, Int.reduceDiv, Int.reduceNe, Nat.reduceEqDiff, Nat.reduceMul, borOk, dkAll, dkKept, nlD, nlAll, id, frz, freeE, outsE, pick, merE, wipeE, Nat.reduceAdd, Nat.reduceSub, Nat.reduceLeDiff, Nat.reduceLT, reduceCtorEq, if_true, if_false, eq_self, forall_const, Bool.false_and]
  clear e1 e2 hr hin hlen nq pq p hm h3
  generalize ss.take most.toNat = us at hr2 hin2 hlen2
  refine w_lcL (fun xs acc ρ => ∃ done rest l' m' t' n', us = done ++ rest ∧ xs = rest.map .int ∧ acc.all (oTerm ns) = true ∧ acc.map fst0 = done ∧ n' + 100001 * rest.length = n + 100001 + 100001 * us.length ∧ DkOk n' l' m' t' ∧ ρ = [.own false (.deck 1 l' m' t'), .val (.tuple (ns.map .int)), .val (.int most), .val (.list (ps.map .int)), .val (.list (ss.map .int)), .no, .no]) ?_ ?_ _ _ _ ⟨[], us, l'', m'', t'', n + 100001, rfl, rfl, rfl, rfl, rfl, h6, rfl⟩
  · rintro x xs acc ρ ⟨done, rest, l', m', t', n', g1, g2, g3, g4, g5, g6, rfl⟩
    cases rest with
    | nil => cases g2
    | cons i rest =>
      rw [List.map_cons] at g2
      injection g2 with g7 g8
      subst g7 g8
      rw [List.length_cons] at g5
      have li := congrArg List.length g1
      rw [List.length_append, List.length_cons] at li
      have la : acc.length = done.length := by rw [← g4, List.length_map]
      obtain ⟨i0, i1, i2, i3⟩ := pl i (hin2 i (by rw [g1]; simp))
      have ia := at_int i0 i1
      simp (config := {maxSteps := 1000000}) only [ia, Fj.wp0, Fj.wp1, Fj.wp2, Fj.wp3, Fj.wp4, Fj.wp5, Fj.wp6, Fj.wp7, Fj.wp8, Fj.wp9, Fj.wp10, Fj.wp11, Fj.wp12, Fj.wp13, Fj.wp14, Fj.wp15, Fj.wp16, Fj.wp17, Fj.wp18, Fj.wp19, Fj.wp20, Fj.wp21, Fj.wpz, Fj.tyN, Int.reduceEq, Int.reduceLT, Int.reduceLE, Int.reduceAdd, Int.reduceSub, Int.reduceMul, Int.reduceNeg, Int.reducePow, Int.reduceToNat, Int.reduceMod, Int.reduceDiv, Int.reduceNe, Nat.reduceEqDiff, Nat.reduceMul, borOk, dkAll, dkKept, nlD, nlAll, id, frz, freeE, outsE, pick, merE, wipeE, Nat.reduceAdd, Nat.reduceSub, Nat.reduceLeDiff, Nat.reduceLT, reduceCtorEq, if_true, if_false, eq_self, forall_const, Bool.false_and]
      refine (term_ok i (ns.getD i.toNat 0) (by omega) (by omega) n' l' m' t' g6 (by omega)).mono ?_
      rintro _ _ ⟨⟨ks, rfl, k1, k2, k3, k4⟩, l3, m3, t3, o, rfl, h7⟩
      simp (config := {maxSteps := 1000000}) only [Fj.wp0, Fj.wp1, Fj.wp2, Fj.wp3, Fj.wp4, Fj.wp5, Fj.wp6, Fj.wp7, Fj.wp8, Fj.wp9, Fj.wp10, Fj.wp11, Fj.wp12, Fj.wp13, Fj.wp14, Fj.wp15, Fj.wp16, Fj.wp17, Fj.wp18, Fj.wp19, Fj.wp20, Fj.wp21, Fj.wpz, Fj.tyN, Int.reduceEq, Int.reduceLT, Int.reduceLE, Int.reduceAdd, Int.reduceSub, Int.reduceMul, Int.reduceNeg, Int.reducePow, Int.reduceToNat, Int.reduceMod, Int.reduceDiv, Int.reduceNe, Nat.reduceEqDiff, Nat.reduceMul, borOk, dkAll, dkKept, nlD, nlAll, id, frz, freeE, outsE, pick, merE, wipeE, Nat.reduceAdd, Nat.reduceSub, Nat.reduceLeDiff, Nat.reduceLT, reduceCtorEq, if_true, if_false, eq_self, forall_const, Bool.false_and]
      refine ⟨by omega, done ++ [i], rest, l3, m3, t3, n' + 100001, by rw [g1, List.append_assoc]; rfl, rfl, ?_, ?_, by omega, h7, rfl⟩
      · have ha : (ks.map PyData.int).all (oBtw 0 (ns.getD i.toNat 0 - 1)) = true := List.all_eq_true.mpr fun d hd => by
          obtain ⟨j, hj, rfl⟩ := List.mem_map.mp hd
          have := k4 j hj
          simp only [oBtw, Bool.and_eq_true, decide_eq_true_iff]
          omega
        rw [List.all_append, g3, List.all_cons]
        simp only [oTerm, oMarks, ha, i0, i1, k1, k2, k3, vals_ints, List.length_map, and_self, decide_true, Bool.and_self, List.all_nil]
      · rw [List.map_append, g4]
        rfl
  · rintro acc ρ ⟨done, rest, l', m', t', n', g1, g2, g3, g4, g5, g6, rfl⟩
    have : rest = [] := List.map_eq_nil_iff.mp g2.symm
    subst this
    rw [List.append_nil] at g1
    subst g1
    rw [List.length_nil] at g5
    simp (config := {maxSteps := 1000000}) only [Fj.wp0, Fj.wp1, Fj.wp2, Fj.wp3, Fj.wp4, Fj.wp5, Fj.wp6, Fj.wp7, Fj.wp8, Fj.wp9, Fj.wp10, Fj.wp11, Fj.wp12, Fj.wp13, Fj.wp14, Fj.wp15, Fj.wp16, Fj.wp17, Fj.wp18, Fj.wp19, Fj.wp20, Fj.wp21, Fj.wpz, Fj.tyN, Int.reduceEq, Int.reduceLT, Int.reduceLE, Int.reduceAdd, Int.reduceSub, Int.reduceMul, Int.reduceNeg, Int.reducePow, Int.reduceToNat, Int.reduceMod, Int.reduceDiv, Int.reduceNe, Nat.reduceEqDiff, Nat.reduceMul, borOk, dkAll, dkKept, nlD, nlAll, id, frz, freeE, outsE, pick, merE, wipeE, Nat.reduceAdd, Nat.reduceSub, Nat.reduceLeDiff, Nat.reduceLT, reduceCtorEq, if_true, if_false, eq_self, forall_const, Bool.false_and]
    refine ⟨⟨acc, rfl, ?_, ?_⟩, _, _, _, _, rfl, dk_mono g6 (by omega)⟩
    · simp only [oBar, g3, g4, hr2, Bool.and_self]
    · have := congrArg List.length g4
      rw [List.length_map] at this
      omega
end L_k36

set_option maxRecDepth 100000
set_option maxHeartbeats 0
set_option linter.all false
set_option linter.unusedSimpArgs false
namespace L_k36
open PySem PySem.Spec PyProof.Rows L2 Fj
/-! problems as they are drawn; data of rows and numbers -/
inductive Sm : Nat → PyData → Prop
  | int {k : Nat} {i : Int} (h : i.natAbs < 10 ^ 12) : Sm k (.int i)
  | tup {k : Nat} {ds : List PyData} (h : ds.length ≤ 31) (r : ∀ d ∈ ds, Sm k d) : Sm (k + 1) (.tuple ds)
theorem Sm.shOf {k : Nat} {d : PyData} (h : Sm k d) : Sh d := by
  induction h with
  | int h => exact .at rfl
  | tup h r ih => exact .tup (by omega) ih
theorem Sm.lay {k : Nat} {d : PyData} (h : Sm k d) : PyData.canLay0 d = true ∧ PyData.depth d ≤ k := by
  induction h with
  | int h => exact ⟨by simp [PyData.canLay0], by simp [PyData.depth]⟩
  | @tup k ds h r ih =>
    have : ∀ ds : List PyData, (∀ d ∈ ds, PyData.canLay0 d = true ∧ PyData.depth d ≤ k) → PyData.canLayAll0 ds = true ∧ PyData.depthAll ds ≤ k := by
      intro ds
      induction ds with
      | nil => exact fun _ => ⟨by simp [PyData.canLayAll0], by simp [PyData.depthAll]⟩
      | cons d ds ih2 =>
        intro g
        obtain ⟨g1, g2⟩ := g d (List.mem_cons_self ..)
        obtain ⟨g3, g4⟩ := ih2 fun x hx => g x (List.mem_cons_of_mem _ hx)
        exact ⟨by unfold PyData.canLayAll0; rw [g1, g3]; rfl, by unfold PyData.depthAll; omega⟩
    obtain ⟨g1, g2⟩ := this ds ih
    exact ⟨by unfold PyData.canLay0; exact g1, by unfold PyData.depth; omega⟩
theorem Sm.shaped {k : Nat} {d : PyData} (h : Sm k d) (hk : k ≤ 64) : SeqAt.shaped d = true := by
  obtain ⟨h1, h2⟩ := h.lay
  unfold SeqAt.shaped
  rw [h1]
  exact decide_eq_true (by omega)
theorem Sm.row {k : Nat} {ns : List Int} (hl : ns.length ≤ 31) (h : ∀ n ∈ ns, n.natAbs < 10 ^ 12) : Sm (k + 1) (.tuple (ns.map .int)) :=
  .tup (by rw [List.length_map]; exact hl) fun d hd => by
    obtain ⟨n, hn, rfl⟩ := List.mem_map.mp hd
    exact .int (h n hn)
theorem rise_len : ∀ {ks : List Int} {lo hi : Int}, rise ks = true → (∀ k ∈ ks, lo ≤ k ∧ k < hi) → lo ≤ hi → (ks.length : Int) ≤ hi - lo
  | [], lo, hi, _, _, h => by simp; omega
  | k :: ks, lo, hi, h1, h2, h3 => by
    have pk := rise_iff.mp h1
    rw [List.pairwise_cons] at pk
    have hk := h2 k (List.mem_cons_self ..)
    have := rise_len (ks := ks) (lo := k + 1) (hi := hi) (rise_iff.mpr pk.2) (fun j hj => ⟨by have := pk.1 j hj; omega, (h2 j (List.mem_cons_of_mem _ hj)).2⟩) (by omega)
    rw [List.length_cons]
    omega
theorem bar_sm {ns : List Int} (h12 : ∀ n ∈ ns, 1 ≤ n ∧ n ≤ 12) (hl : ns.length ≤ 20) {b : PyData} (h : oBar ns b = true) : Sm 3 b := by
  cases b with
  | tuple ts =>
    have h : (ts.all (oTerm ns) && rise (ts.map fst0)) = true := h
    rw [Bool.and_eq_true] at h
    obtain ⟨h1, h2⟩ := h
    have tf : ∀ d ∈ ts, ∃ i m, d = .tuple [.int i, m] ∧ 0 ≤ i ∧ i < ns.length ∧ oMarks (ns.getD i.toNat 0) m = true := fun d hd => term_form (List.all_eq_true.mp h1 d hd)
    have := rise_len (lo := 0) (hi := ns.length) h2 (fun k hk => by
      obtain ⟨d, hd, rfl⟩ := List.mem_map.mp hk
      obtain ⟨i, m, rfl, i0, i1, _⟩ := tf d hd
      exact ⟨i0, i1⟩) (by omega)
    rw [List.length_map] at this
    refine .tup (by omega) fun d hd => ?_
    obtain ⟨i, m, rfl, i0, i1, i2⟩ := tf d hd
    refine .tup (by simp) fun x hx => ?_
    rcases List.mem_cons.mp hx with rfl | hx
    · exact .int (by omega)
    · rw [List.mem_singleton.mp hx]
      cases m with
      | tuple ms =>
        have i2 : (ms.all (oBtw 0 (ns.getD i.toNat 0 - 1)) && (rise (ms.map valI) && decide (1 ≤ ms.length ∧ (ms.length : Int) < ns.getD i.toNat 0))) = true := i2
        rw [Bool.and_eq_true, Bool.and_eq_true, decide_eq_true_iff] at i2
        have g12 : ns.getD i.toNat 0 ≤ 12 := by
          rw [List.getD_eq_getElem?_getD, List.getElem?_eq_getElem (by omega)]
          exact (h12 _ (List.getElem_mem _)).2
        refine .tup (by omega) fun y hy => ?_
        have := List.all_eq_true.mp i2.1 y hy
        cases y with
        | int j =>
          simp only [oBtw, Bool.and_eq_true, decide_eq_true_iff] at this
          exact .int (by omega)
        | _ => cases this
      | _ => cases i2
  | _ => cases h
structure Prob (most many : Int) (ns : List Int) (bs : List PyData) : Prop where
  sz : Sizes most many ns
  bars : ∀ b ∈ bs, oBar ns b = true
  len : bs.length ≤ 16
theorem problem_ok (most many : Int) (h1 : 1 ≤ most) (h2 : most ≤ 10000) (h3 : 0 ≤ many) (h4 : many ≤ 20) : Dk 60000000 mf__law_problem [.val (.int most), .val (.int many)] fun e => ∃ ns bs, e = .val (.tuple [.tuple (ns.map .int), .tuple bs]) ∧ Prob most many ns bs := by
  intro n l m t hd hn
  simp (config := {maxSteps := 1000000}) only [mf__law_problem, mb__law_problem, mb__law_problem_2, Fj.wp0, Fj.wp1, Fj.wp2, Fj.wp3, Fj.wp4, Fj.wp5, Fj.wp6, Fj.wp7, Fj.wp8, Fj.wp9, Fj.wp10, Fj.wp11, Fj.wp12, Fj.wp13, Fj.wp14, Fj.wp15, Fj.wp16, Fj.wp17, Fj.wp18, Fj.wp19, Fj.wp20, Fj.wp21, Fj.wpz, Fj.tyN, Int.reduceEq, Int.reduceLT, Int.reduceLE, Int.reduceAdd, Int.reduceSub, Int.reduceMul, Int.reduceNeg, Int.reducePow, Int.reduceToNat, Int.reduceMod, Int.reduceDiv, Int.reduceNe, Nat.reduceEqDiff, Nat.reduceMul, borOk, dkAll, dkKept, nlD, nlAll, id, frz, freeE, outsE, pick, merE, wipeE, Nat.reduceAdd, Nat.reduceSub, Nat.reduceLeDiff, Nat.reduceLT, reduceCtorEq, if_true, if_false, eq_self, forall_const, Bool.false_and]
  refine (sizes_ok most many h1 h2 h3 (by omega) n l m t hd (by omega)).mono ?_
  rintro _ _ ⟨⟨ns, rfl, hz⟩, l', m', t', o, rfl, h5⟩
  simp (config := {maxSteps := 1000000}) only [Fj.wp0, Fj.wp1, Fj.wp2, Fj.wp3, Fj.wp4, Fj.wp5, Fj.wp6, Fj.wp7, Fj.wp8, Fj.wp9, Fj.wp10, Fj.wp11, Fj.wp12, Fj.wp13, Fj.wp14, Fj.wp15, Fj.wp16, Fj.wp17, Fj.wp18, Fj.wp19, Fj.wp20, Fj.wp21, Fj.wpz, Fj.tyN, Int.reduceEq, Int.reduceLT, Int.reduceLE, Int.reduceAdd, Int.reduceSub, Int.reduceMul, Int.reduceNeg, Int.reducePow, Int.reduceToNat, Int.reduceMod, Int.reduceDiv, Int.reduceNe, Nat.reduceEqDiff, Nat.reduceMul, borOk, dkAll, dkKept, nlD, nlAll, id, frz, freeE, outsE, pick, merE, wipeE, Nat.reduceAdd, Nat.reduceSub, Nat.reduceLeDiff, Nat.reduceLT, reduceCtorEq, if_true, if_false, eq_self, forall_const, Bool.false_and]
  refine (pickT_ok (n + 2000) l' m' t' _ h5 (by omega) (by simp) (by simp)).mono ?_
  rintro _ _ ⟨d, l'', m'', t'', o, hm, rfl, rfl, h6⟩
  obtain ⟨k, rfl, hk⟩ : ∃ k : Nat, d = .int (k : Int) ∧ k ≤ 16 := by
    simp only [List.mem_cons, List.not_mem_nil, or_false] at hm
    rcases hm with rfl | rfl | rfl | rfl | rfl | rfl | rfl
    · exact ⟨3, rfl, by decide⟩
    · exact ⟨5, rfl, by decide⟩
    · exact ⟨8, rfl, by decide⟩
    · exact ⟨12, rfl, by decide⟩
    · exact ⟨2, rfl, by decide⟩
    · exact ⟨0, rfl, by decide⟩
    · exact ⟨16, rfl, by decide⟩
  simp (config := {maxSteps := 1000000}) only [Int.toNat_natCast, Fj.wp0, Fj.wp1, Fj.wp2, Fj.wp3, Fj.wp4, Fj.wp5, Fj.wp6, Fj.wp7, Fj.wp8, Fj.wp9, Fj.wp10, Fj.wp11, Fj.wp12, Fj.wp13, Fj.wp14, Fj.wp15, Fj.wp16, Fj.wp17, Fj.wp18, Fj.wp19, Fj.wp20, Fj.wp21, Fj.wpz, Fj.tyN, Int.reduceEq, Int.reduceLT, Int.reduceLE, Int.reduceAdd, Int.reduceSub, Int.reduceMul, Int.reduceNeg, Int.reducePow, Int.reduceToNat, Int.reduceMod, Int.reduceDiv, Int.reduceNe, Nat.reduceEqDiff, Nat.reduceMul, borOk, dkAll, dkKept, nlD, nlAll, id, frz, freeE, outsE, pick, merE, wipeE, Nat.reduceAdd, Nat.reduceSub, Nat.reduceLeDiff, Nat.reduceLT, reduceCtorEq, if_true, if_false, eq_self, forall_const, Bool.false_and]
  have hln : ns.length ≤ 20 := by
    have := hz.len
    omega
  refine ⟨by omega, ?_⟩
  refine w_forL (fun xs ρ => ∃ bs l' m' t' e3 e6 n', bs.length + xs.length ≤ 16 ∧ (∀ b ∈ bs, oBar ns b = true) ∧ n' + 3000001 * xs.length = n + 2001 + 3000001 * k ∧ DkOk n' l' m' t' ∧ Pl e3 ∧ Pl e6 ∧ ρ = [.own false (.deck 1 l' m' t'), .val (.int most), .val (.int many), e3, .val (.tuple (ns.map .int)), .own true (.lst bs), e6]) ?_ ?_ _ _ ⟨[], l'', m'', t'', _, _, n + 2001, by rw [rngD_map, List.length_map, List.length_range]; simp; exact hk, fun x hx => (List.not_mem_nil hx).elim, by rw [rngD_map, List.length_map, List.length_range], h6, .no, .no, rfl⟩
  · rintro x xs ρ ⟨bs, l', m', t', e3, e6, n', g1, g2, g4, g5, p3, p6, rfl⟩
    rw [List.length_cons] at g1 g4
    simp (config := {maxSteps := 1000000}) only [p3.all, p6.all, Fj.wp0, Fj.wp1, Fj.wp2, Fj.wp3, Fj.wp4, Fj.wp5, Fj.wp6, Fj.wp7, Fj.wp8, Fj.wp9, Fj.wp10, Fj.wp11, Fj.wp12, Fj.wp13, Fj.wp14, Fj.wp15, Fj.wp16, Fj.wp17, Fj.wp18, Fj.wp19, Fj.wp20, Fj.wp21, Fj.wpz, Fj.tyN, Int.reduceEq, Int.reduceLT, Int.reduceLE, Int.reduceAdd, Int.reduceSub, Int.reduceMul, Int.reduceNeg, Int.reducePow, Int.reduceToNat, Int.reduceMod, Int.reduceDiv, Int.reduceNe, Nat.reduceEqDiff, Nat.reduceMul, borOk, dkAll, dkKept, nlD, nlAll, id, frz, freeE, outsE, pick, merE, wipeE, Nat.reduceAdd, Nat.reduceSub, Nat.reduceLeDiff, Nat.reduceLT, reduceCtorEq, if_true, if_false, eq_self, forall_const, Bool.false_and]
    refine (bar_ok ns 4 hz.at12 hln (by decide) n' l' m' t' g5 (by omega)).mono ?_
    rintro _ _ ⟨⟨ts, rfl, b1, b2⟩, l3, m3, t3, o, rfl, h7⟩
    have sp := (bar_sm hz.at12 hln b1).shaped (by decide)
    have ext : ∀ b ∈ bs ++ [PyData.tuple ts], oBar ns b = true := fun b hb => by
      rcases List.mem_append.mp hb with q | q
      · exact g2 b q
      · rw [List.mem_singleton.mp q]
        exact b1
    simp (config := {maxSteps := 1000000}) only [mb__law_problem_1, g_neNilT, sp, Fj.wp0, Fj.wp1, Fj.wp2, Fj.wp3, Fj.wp4, Fj.wp5, Fj.wp6, Fj.wp7, Fj.wp8, Fj.wp9, Fj.wp10, Fj.wp11, Fj.wp12, Fj.wp13, Fj.wp14, Fj.wp15, Fj.wp16, Fj.wp17, Fj.wp18, Fj.wp19, Fj.wp20, Fj.wp21, Fj.wpz, Fj.tyN, Int.reduceEq, Int.reduceLT, Int.reduceLE, Int.reduceAdd, Int.reduceSub, Int.reduceMul, Int.reduceNeg, Int.reducePow, Int.reduceToNat, Int.reduceMod, Int.reduceDiv, Int.reduceNe, Nat.reduceEqDiff, Nat.reduceMul, borOk, dkAll, dkKept, nlD, nlAll, id, frz, freeE, outsE, pick, merE, wipeE, Nat.reduceAdd, Nat.reduceSub, Nat.reduceLeDiff, Nat.reduceLT, reduceCtorEq, if_true, if_false, eq_self, forall_const, Bool.false_and]
    cases he : ts.isEmpty with
    | false =>
      simp (config := {maxSteps := 1000000}) only [p3.all, p6.all, Fj.wp0, Fj.wp1, Fj.wp2, Fj.wp3, Fj.wp4, Fj.wp5, Fj.wp6, Fj.wp7, Fj.wp8, Fj.wp9, Fj.wp10, Fj.wp11, Fj.wp12, Fj.wp13, Fj.wp14, Fj.wp15, Fj.wp16, Fj.wp17, Fj.wp18, Fj.wp19, Fj.wp20, Fj.wp21, Fj.wpz, Fj.tyN, Int.reduceEq, Int.reduceLT, Int.reduceLE, Int.reduceAdd, Int.reduceSub, Int.reduceMul, Int.reduceNeg, Int.reducePow, Int.reduceToNat, Int.reduceMod, Int.reduceDiv, Int.reduceNe, Nat.reduceEqDiff, Nat.reduceMul, borOk, dkAll, dkKept, nlD, nlAll, id, frz, freeE, outsE, pick, merE, wipeE, Nat.reduceAdd, Nat.reduceSub, Nat.reduceLeDiff, Nat.reduceLT, reduceCtorEq, if_true, if_false, eq_self, forall_const, Bool.false_and]
      exact ⟨by omega, bs ++ [.tuple ts], l3, m3, t3, .val x, .val (.tuple ts), n' + 3000001, by rw [List.length_append, List.length_singleton]; omega, ext, by omega, dk_mono h7 (by omega), .val, .val, rfl⟩
    | true =>
      simp (config := {maxSteps := 1000000}) only [p3.all, p6.all, Fj.wp0, Fj.wp1, Fj.wp2, Fj.wp3, Fj.wp4, Fj.wp5, Fj.wp6, Fj.wp7, Fj.wp8, Fj.wp9, Fj.wp10, Fj.wp11, Fj.wp12, Fj.wp13, Fj.wp14, Fj.wp15, Fj.wp16, Fj.wp17, Fj.wp18, Fj.wp19, Fj.wp20, Fj.wp21, Fj.wpz, Fj.tyN, Int.reduceEq, Int.reduceLT, Int.reduceLE, Int.reduceAdd, Int.reduceSub, Int.reduceMul, Int.reduceNeg, Int.reducePow, Int.reduceToNat, Int.reduceMod, Int.reduceDiv, Int.reduceNe, Nat.reduceEqDiff, Nat.reduceMul, borOk, dkAll, dkKept, nlD, nlAll, id, frz, freeE, outsE, pick, merE, wipeE, Nat.reduceAdd, Nat.reduceSub, Nat.reduceLeDiff, Nat.reduceLT, reduceCtorEq, if_true, if_false, eq_self, forall_const, Bool.false_and]
      refine (draw_ok (n' + 3000000) l3 m3 t3 12 h7 (by omega) (by omega) (by omega)).mono ?_
      rintro _ _ ⟨r, l4, m4, t4, o, rfl, r0, r1, rfl, h8⟩
      by_cases hr : r = 0
      · subst hr
        simp (config := {maxSteps := 1000000}) only [p3.all, p6.all, Fj.wp0, Fj.wp1, Fj.wp2, Fj.wp3, Fj.wp4, Fj.wp5, Fj.wp6, Fj.wp7, Fj.wp8, Fj.wp9, Fj.wp10, Fj.wp11, Fj.wp12, Fj.wp13, Fj.wp14, Fj.wp15, Fj.wp16, Fj.wp17, Fj.wp18, Fj.wp19, Fj.wp20, Fj.wp21, Fj.wpz, Fj.tyN, Int.reduceEq, Int.reduceLT, Int.reduceLE, Int.reduceAdd, Int.reduceSub, Int.reduceMul, Int.reduceNeg, Int.reducePow, Int.reduceToNat, Int.reduceMod, Int.reduceDiv, Int.reduceNe, Nat.reduceEqDiff, Nat.reduceMul, borOk, dkAll, dkKept, nlD, nlAll, id, frz, freeE, outsE, pick, merE, wipeE, Nat.reduceAdd, Nat.reduceSub, Nat.reduceLeDiff, Nat.reduceLT, reduceCtorEq, if_true, if_false, eq_self, forall_const, Bool.false_and]
        exact ⟨by omega, bs ++ [.tuple ts], l4, m4, t4, .val x, .val (.tuple ts), n' + 3000001, by rw [List.length_append, List.length_singleton]; omega, ext, by omega, h8, .val, .val, rfl⟩
      · simp (config := {maxSteps := 1000000}) only [hr, p3.all, p6.all, Fj.wp0, Fj.wp1, Fj.wp2, Fj.wp3, Fj.wp4, Fj.wp5, Fj.wp6, Fj.wp7, Fj.wp8, Fj.wp9, Fj.wp10, Fj.wp11, Fj.wp12, Fj.wp13, Fj.wp14, Fj.wp15, Fj.wp16, Fj.wp17, Fj.wp18, Fj.wp19, Fj.wp20, Fj.wp21, Fj.wpz, Fj.tyN, Int.reduceEq, Int.reduceLT, Int.reduceLE, Int.reduceAdd, Int.reduceSub, Int.reduceMul, Int.reduceNeg, Int.reducePow, Int.reduceToNat, Int.reduceMod, Int.reduceDiv, Int.reduceNe, Nat.reduceEqDiff, Nat.reduceMul, borOk, dkAll, dkKept, nlD, nlAll, id, frz, freeE, outsE, pick, merE, wipeE, Nat.reduceAdd, Nat.reduceSub, Nat.reduceLeDiff, Nat.reduceLT, reduceCtorEq, if_true, if_false, eq_self, forall_const, Bool.false_and]
        exact ⟨bs, l4, m4, t4, .val x, .val (.tuple ts), n' + 3000001, by omega, g2, by omega, h8, .val, .val, rfl⟩
  · rintro ρ ⟨bs, l', m', t', e3, e6, n', g1, g2, g4, g5, p3, p6, rfl⟩
    rw [List.length_nil] at g1 g4
    simp (config := {maxSteps := 1000000}) only [p3.all, p6.all, Fj.wp0, Fj.wp1, Fj.wp2, Fj.wp3, Fj.wp4, Fj.wp5, Fj.wp6, Fj.wp7, Fj.wp8, Fj.wp9, Fj.wp10, Fj.wp11, Fj.wp12, Fj.wp13, Fj.wp14, Fj.wp15, Fj.wp16, Fj.wp17, Fj.wp18, Fj.wp19, Fj.wp20, Fj.wp21, Fj.wpz, Fj.tyN, Int.reduceEq, Int.reduceLT, Int.reduceLE, Int.reduceAdd, Int.reduceSub, Int.reduceMul, Int.reduceNeg, Int.reducePow, Int.reduceToNat, Int.reduceMod, Int.reduceDiv, Int.reduceNe, Nat.reduceEqDiff, Nat.reduceMul, borOk, dkAll, dkKept, nlD, nlAll, id, frz, freeE, outsE, pick, merE, wipeE, Nat.reduceAdd, Nat.reduceSub, Nat.reduceLeDiff, Nat.reduceLT, reduceCtorEq, if_true, if_false, eq_self, forall_const, Bool.false_and]
    exact ⟨⟨ns, bs, rfl, hz, g2, by omega⟩, _, _, _, _, rfl, dk_mono g5 (by omega)⟩
end L_k36

set_option maxRecDepth 100000
set_option maxHeartbeats 0
set_option linter.all false
set_option linter.unusedSimpArgs false
namespace L_k36
open PySem PySem.Spec PyProof.Rows L2 Fj
/-! values with something otherwise -/
theorem rep_mem {xs : List PyData} {d : PyData} : ∀ {k : Nat}, d ∈ repD k xs → d ∈ xs := by
  intro k h
  unfold repD at h
  simp only [List.mem_flatten, List.mem_replicate] at h
  obtain ⟨l, ⟨_, rfl⟩, h⟩ := h
  exact h
theorem Sh.cut {ds : List PyData} (h : Sh (.tuple ds)) (lo hi : Option Int) : Sh (.tuple (cutD ds lo hi)) := by
  obtain ⟨h1, h2⟩ := h.of
  unfold Fj.cutD
  exact .tup (by rw [List.length_take, List.length_drop]; omega) fun d hd => h2 d (List.mem_of_mem_drop (List.mem_of_mem_take hd))
theorem Sm.of {k : Nat} {ds : List PyData} (h : Sm k (.tuple ds)) : ds.length ≤ 31 ∧ ∀ d ∈ ds, Sm (k - 1) d := by
  cases h with
  | tup h r => exact ⟨h, r⟩
theorem rep_len {xs : List PyData} {k : Nat} : (repD k xs).length = k * xs.length := by
  unfold repD
  induction k with
  | zero => simp
  | succ k ih =>
    rw [List.replicate_succ, List.flatten_cons, List.length_append, ih, Nat.succ_mul]
    omega
theorem Sh.nil : Sh (.tuple []) := .tup (by decide) fun d hd => (List.not_mem_nil hd).elim
theorem Sh.one {a : PyData} (h : Sh a) : Sh (.tuple [a]) := .tup (by simp) fun d hd => by
  rw [List.mem_singleton.mp hd]
  exact h
theorem Sh.two {a b : PyData} (h : Sh a) (g : Sh b) : Sh (.tuple [a, b]) := .tup (by simp) fun d hd => by
  rcases List.mem_cons.mp hd with e | e
  · rw [e]
    exact h
  · rw [List.mem_singleton.mp e]
    exact g
theorem Sh.app {xs ys : List PyData} (h : Sh (.tuple xs)) (g : Sh (.tuple ys)) (hl : xs.length + ys.length < 64) : Sh (.tuple (xs ++ ys)) := .tup (by rw [List.length_append]; exact hl) fun d hd => by
  rcases List.mem_append.mp hd with e | e
  · exact h.of.2 d e
  · exact g.of.2 d e
theorem Sh.rev {xs : List PyData} (h : Sh (.tuple xs)) : Sh (.tuple xs.reverse) := .tup (by rw [List.length_reverse]; exact h.of.1) fun d hd => h.of.2 d (List.mem_reverse.mp hd)
theorem cut_len (ds : List PyData) (lo hi : Option Int) : (cutD ds lo hi).length ≤ ds.length := by
  unfold Fj.cutD
  rw [List.length_take, List.length_drop]
  omega
theorem odd_ok (k : Nat) (it : PyData) (h : Sm k it) : Dk 1 mf__law_odd [.val it] fun e => ∃ d, e = .val d ∧ Sh d := by
  intro n l m t hd hn
  simp (config := {maxSteps := 1000000}) only [mf__law_odd, mb__law_odd, Fj.wp0, Fj.wp1, Fj.wp2, Fj.wp3, Fj.wp4, Fj.wp5, Fj.wp6, Fj.wp7, Fj.wp8, Fj.wp9, Fj.wp10, Fj.wp11, Fj.wp12, Fj.wp13, Fj.wp14, Fj.wp15, Fj.wp16, Fj.wp17, Fj.wp18, Fj.wp19, Fj.wp20, Fj.wp21, Fj.wpz, Fj.tyN, Int.reduceEq, Int.reduceLT, Int.reduceLE, Int.reduceAdd, Int.reduceSub, Int.reduceMul, Int.reduceNeg, Int.reducePow, Int.reduceToNat, Int.reduceMod, Int.reduceDiv, Int.reduceNe, Nat.reduceEqDiff, Nat.reduceMul, borOk, dkAll, dkKept, nlD, nlAll, id, frz, freeE, outsE, pick, merE, wipeE, Nat.reduceAdd, Nat.reduceSub, Nat.reduceLeDiff, Nat.reduceLT, reduceCtorEq, if_true, if_false, eq_self, forall_const, Bool.false_and]
  have hp : gPowC 10 30 = true := by decide
  cases it with
  | int i =>
    have hi : i.natAbs.log2 < 1920 := by
      cases h with
      | int hi => exact log2_small (Nat.lt_of_lt_of_le hi (Nat.le_trans (by decide : (10:Nat) ^ 12 ≤ 2 ^ 128) (Nat.pow_le_pow_right (by decide) (by decide)))) (by decide)
    simp (config := {maxSteps := 1000000}) only [mb__law_odd_3, mb__law_odd_2, hp, hi, rep_len, Fj.wp0, Fj.wp1, Fj.wp2, Fj.wp3, Fj.wp4, Fj.wp5, Fj.wp6, Fj.wp7, Fj.wp8, Fj.wp9, Fj.wp10, Fj.wp11, Fj.wp12, Fj.wp13, Fj.wp14, Fj.wp15, Fj.wp16, Fj.wp17, Fj.wp18, Fj.wp19, Fj.wp20, Fj.wp21, Fj.wpz, Fj.tyN, Int.reduceEq, Int.reduceLT, Int.reduceLE, Int.reduceAdd, Int.reduceSub, Int.reduceMul, Int.reduceNeg, Int.reducePow, Int.reduceToNat, Int.reduceMod, Int.reduceDiv, Int.reduceNe, Nat.reduceEqDiff, Nat.reduceMul, borOk, dkAll, dkKept, nlD, nlAll, id, frz, freeE, outsE, pick, merE, wipeE, Nat.reduceAdd, Nat.reduceSub, Nat.reduceLeDiff, Nat.reduceLT, reduceCtorEq, if_true, if_false, eq_self, forall_const, Bool.false_and]
    refine (pick_ok n l m t _ hd (by omega) (by simp) (by simp [rep_len])).mono ?_
    rintro _ _ ⟨d, l', m', t', o, hm, rfl, rfl, h3⟩
    simp (config := {maxSteps := 1000000}) only [Fj.wp0, Fj.wp1, Fj.wp2, Fj.wp3, Fj.wp4, Fj.wp5, Fj.wp6, Fj.wp7, Fj.wp8, Fj.wp9, Fj.wp10, Fj.wp11, Fj.wp12, Fj.wp13, Fj.wp14, Fj.wp15, Fj.wp16, Fj.wp17, Fj.wp18, Fj.wp19, Fj.wp20, Fj.wp21, Fj.wpz, Fj.tyN, Int.reduceEq, Int.reduceLT, Int.reduceLE, Int.reduceAdd, Int.reduceSub, Int.reduceMul, Int.reduceNeg, Int.reducePow, Int.reduceToNat, Int.reduceMod, Int.reduceDiv, Int.reduceNe, Nat.reduceEqDiff, Nat.reduceMul, borOk, dkAll, dkKept, nlD, nlAll, id, frz, freeE, outsE, pick, merE, wipeE, Nat.reduceAdd, Nat.reduceSub, Nat.reduceLeDiff, Nat.reduceLT, reduceCtorEq, if_true, if_false, eq_self, forall_const, Bool.false_and]
    refine ⟨⟨d, rfl, ?_⟩, _, _, _, _, rfl, h3⟩
    simp only [List.mem_cons] at hm
    rcases hm with rfl | rfl | rfl | rfl | rfl | rfl | rfl | rfl | rfl | rfl | rfl | rfl | rfl | rfl | rfl | rfl | rfl | rfl | rfl | rfl | rfl | rfl | hm
    rotate_right
    · have hm := rep_mem hm
      simp only [List.mem_cons, List.not_mem_nil, or_false] at hm
      rcases hm with rfl | rfl | rfl | rfl | rfl | rfl | rfl
      all_goals first | exact .at rfl | exact .one (.at rfl)
    all_goals first
      | exact .at rfl
      | exact .nil
      | exact .one .nil
      | exact .one (.at rfl)
      | exact .two (.at rfl) (.one (.at rfl))
      | exact .one (.two (.at rfl) (.one (.at rfl)))
  | tuple ds =>
    obtain ⟨hl, -⟩ := h.of
    have hs := h.shOf
    have c1 := cut_len ds none (some 1)
    have c2 := cut_len ds (some 2) none
    simp (config := {maxSteps := 1000000}) only [mb__law_odd_3, hp, rep_len, Fj.wp0, Fj.wp1, Fj.wp2, Fj.wp3, Fj.wp4, Fj.wp5, Fj.wp6, Fj.wp7, Fj.wp8, Fj.wp9, Fj.wp10, Fj.wp11, Fj.wp12, Fj.wp13, Fj.wp14, Fj.wp15, Fj.wp16, Fj.wp17, Fj.wp18, Fj.wp19, Fj.wp20, Fj.wp21, Fj.wpz, Fj.tyN, Int.reduceEq, Int.reduceLT, Int.reduceLE, Int.reduceAdd, Int.reduceSub, Int.reduceMul, Int.reduceNeg, Int.reducePow, Int.reduceToNat, Int.reduceMod, Int.reduceDiv, Int.reduceNe, Nat.reduceEqDiff, Nat.reduceMul, borOk, dkAll, dkKept, nlD, nlAll, id, frz, freeE, outsE, pick, merE, wipeE, Nat.reduceAdd, Nat.reduceSub, Nat.reduceLeDiff, Nat.reduceLT, reduceCtorEq, if_true, if_false, eq_self, forall_const, Bool.false_and]
    refine ⟨by omega, by omega, by omega, by omega, ?_⟩
    refine (pick_ok n l m t _ hd (by omega) (by simp) (by simp [rep_len])).mono ?_
    rintro _ _ ⟨d, l', m', t', o, hm, rfl, rfl, h3⟩
    simp (config := {maxSteps := 1000000}) only [Fj.wp0, Fj.wp1, Fj.wp2, Fj.wp3, Fj.wp4, Fj.wp5, Fj.wp6, Fj.wp7, Fj.wp8, Fj.wp9, Fj.wp10, Fj.wp11, Fj.wp12, Fj.wp13, Fj.wp14, Fj.wp15, Fj.wp16, Fj.wp17, Fj.wp18, Fj.wp19, Fj.wp20, Fj.wp21, Fj.wpz, Fj.tyN, Int.reduceEq, Int.reduceLT, Int.reduceLE, Int.reduceAdd, Int.reduceSub, Int.reduceMul, Int.reduceNeg, Int.reducePow, Int.reduceToNat, Int.reduceMod, Int.reduceDiv, Int.reduceNe, Nat.reduceEqDiff, Nat.reduceMul, borOk, dkAll, dkKept, nlD, nlAll, id, frz, freeE, outsE, pick, merE, wipeE, Nat.reduceAdd, Nat.reduceSub, Nat.reduceLeDiff, Nat.reduceLT, reduceCtorEq, if_true, if_false, eq_self, forall_const, Bool.false_and]
    refine ⟨⟨d, rfl, ?_⟩, _, _, _, _, rfl, h3⟩
    simp only [List.mem_cons] at hm
    rcases hm with rfl | rfl | rfl | rfl | rfl | rfl | rfl | rfl | rfl | rfl | rfl | rfl | rfl | rfl | rfl | rfl | rfl | rfl | rfl | rfl | rfl | rfl | hm
    rotate_right
    · have hm := rep_mem hm
      simp only [List.mem_cons, List.not_mem_nil, or_false] at hm
      rcases hm with rfl | rfl | rfl | rfl | rfl | rfl | rfl | rfl | rfl
      all_goals first
        | exact .at rfl
        | exact hs.app (.one (.at rfl)) (by simp; omega)
        | exact hs.cut _ _
        | exact hs.rev
        | exact hs.app (hs.cut _ _) (by omega)
        | exact .one hs
        | exact (hs.cut _ _).app hs (by omega)
        | exact (hs.cut _ _).app (hs.cut _ _) (by omega)
    all_goals first
      | exact .at rfl
      | exact .nil
      | exact .one .nil
      | exact .one (.at rfl)
      | exact .two (.at rfl) (.one (.at rfl))
      | exact .one (.two (.at rfl) (.one (.at rfl)))
  | _ => cases h
end L_k36

set_option maxRecDepth 100000
set_option maxHeartbeats 0
set_option linter.all false
set_option linter.unusedSimpArgs false
namespace L_k36
open PySem PySem.Spec PyProof.Rows L2 Fj
theorem Sm.mono1 {k : Nat} {d : PyData} (h : Sm k d) : Sm (k + 1) d := by
  induction h with
  | int h => exact .int h
  | tup h r ih => exact .tup h ih
theorem Sm.mono {k k' : Nat} {d : PyData} (h : Sm k d) (hk : k ≤ k') : Sm k' d := by
  induction hk with
  | refl => exact h
  | step _ ih => exact ih.mono1
theorem bent_ok : ∀ (k f : Nat) (it : PyData), Sm k it → k < f → k ≤ 20 → Dk (3 * k + 3) (mf__law_bent f) [.val it] fun e => ∃ d, e = .val d ∧ Sh d := by
  intro k
  induction k with
  | zero =>
    intro f it h hf hk n l m t hd hn
    obtain ⟨f, rfl⟩ : ∃ g, f = g + 1 := ⟨f - 1, by omega⟩
    cases h with
    | @int _ i hi =>
    simp (config := {maxSteps := 1000000}) only [mf__law_bent, mb__law_bent, mb__law_bent_1, Fj.wp0, Fj.wp1, Fj.wp2, Fj.wp3, Fj.wp4, Fj.wp5, Fj.wp6, Fj.wp7, Fj.wp8, Fj.wp9, Fj.wp10, Fj.wp11, Fj.wp12, Fj.wp13, Fj.wp14, Fj.wp15, Fj.wp16, Fj.wp17, Fj.wp18, Fj.wp19, Fj.wp20, Fj.wp21, Fj.wpz, Fj.tyN, Int.reduceEq, Int.reduceLT, Int.reduceLE, Int.reduceAdd, Int.reduceSub, Int.reduceMul, Int.reduceNeg, Int.reducePow, Int.reduceToNat, Int.reduceMod, Int.reduceDiv, Int.reduceNe, Nat.reduceEqDiff, Nat.reduceMul, borOk, dkAll, dkKept, nlD, nlAll, id, frz, freeE, outsE, pick, merE, wipeE, Nat.reduceAdd, Nat.reduceSub, Nat.reduceLeDiff, Nat.reduceLT, reduceCtorEq, if_true, if_false, eq_self, forall_const, Bool.false_and]
    refine (odd_ok 0 (.int i) (.int hi) n l m t hd (by omega)).mono ?_
    rintro _ _ ⟨⟨d, rfl, h⟩, l', m', t', o, rfl, h3⟩
    simp (config := {maxSteps := 1000000}) only [Fj.wp0, Fj.wp1, Fj.wp2, Fj.wp3, Fj.wp4, Fj.wp5, Fj.wp6, Fj.wp7, Fj.wp8, Fj.wp9, Fj.wp10, Fj.wp11, Fj.wp12, Fj.wp13, Fj.wp14, Fj.wp15, Fj.wp16, Fj.wp17, Fj.wp18, Fj.wp19, Fj.wp20, Fj.wp21, Fj.wpz, Fj.tyN, Int.reduceEq, Int.reduceLT, Int.reduceLE, Int.reduceAdd, Int.reduceSub, Int.reduceMul, Int.reduceNeg, Int.reducePow, Int.reduceToNat, Int.reduceMod, Int.reduceDiv, Int.reduceNe, Nat.reduceEqDiff, Nat.reduceMul, borOk, dkAll, dkKept, nlD, nlAll, id, frz, freeE, outsE, pick, merE, wipeE, Nat.reduceAdd, Nat.reduceSub, Nat.reduceLeDiff, Nat.reduceLT, reduceCtorEq, if_true, if_false, eq_self, forall_const, Bool.false_and]
    exact ⟨⟨d, rfl, h⟩, _, _, _, _, rfl, dk_mono h3 (by omega)⟩
  | succ k ih =>
    intro f it h hf hk n l m t hd hn
    obtain ⟨f, rfl⟩ : ∃ g, f = g + 1 := ⟨f - 1, by omega⟩
    cases it with
    | int i =>
      simp (config := {maxSteps := 1000000}) only [mf__law_bent, mb__law_bent, mb__law_bent_1, Fj.wp0, Fj.wp1, Fj.wp2, Fj.wp3, Fj.wp4, Fj.wp5, Fj.wp6, Fj.wp7, Fj.wp8, Fj.wp9, Fj.wp10, Fj.wp11, Fj.wp12, Fj.wp13, Fj.wp14, Fj.wp15, Fj.wp16, Fj.wp17, Fj.wp18, Fj.wp19, Fj.wp20, Fj.wp21, Fj.wpz, Fj.tyN, Int.reduceEq, Int.reduceLT, Int.reduceLE, Int.reduceAdd, Int.reduceSub, Int.reduceMul, Int.reduceNeg, Int.reducePow, Int.reduceToNat, Int.reduceMod, Int.reduceDiv, Int.reduceNe, Nat.reduceEqDiff, Nat.reduceMul, borOk, dkAll, dkKept, nlD, nlAll, id, frz, freeE, outsE, pick, merE, wipeE, Nat.reduceAdd, Nat.reduceSub, Nat.reduceLeDiff, Nat.reduceLT, reduceCtorEq, if_true, if_false, eq_self, forall_const, Bool.false_and]
      refine (odd_ok (k + 1) (.int i) h n l m t hd (by omega)).mono ?_
      rintro _ _ ⟨⟨d, rfl, h⟩, l', m', t', o, rfl, h3⟩
      simp (config := {maxSteps := 1000000}) only [Fj.wp0, Fj.wp1, Fj.wp2, Fj.wp3, Fj.wp4, Fj.wp5, Fj.wp6, Fj.wp7, Fj.wp8, Fj.wp9, Fj.wp10, Fj.wp11, Fj.wp12, Fj.wp13, Fj.wp14, Fj.wp15, Fj.wp16, Fj.wp17, Fj.wp18, Fj.wp19, Fj.wp20, Fj.wp21, Fj.wpz, Fj.tyN, Int.reduceEq, Int.reduceLT, Int.reduceLE, Int.reduceAdd, Int.reduceSub, Int.reduceMul, Int.reduceNeg, Int.reducePow, Int.reduceToNat, Int.reduceMod, Int.reduceDiv, Int.reduceNe, Nat.reduceEqDiff, Nat.reduceMul, borOk, dkAll, dkKept, nlD, nlAll, id, frz, freeE, outsE, pick, merE, wipeE, Nat.reduceAdd, Nat.reduceSub, Nat.reduceLeDiff, Nat.reduceLT, reduceCtorEq, if_true, if_false, eq_self, forall_const, Bool.false_and]
      exact ⟨⟨d, rfl, h⟩, _, _, _, _, rfl, dk_mono h3 (by omega)⟩
    | tuple ds =>
      obtain ⟨hl, hr⟩ := h.of
      have hs := h.shOf
      have sp := h.shaped (by omega)
      simp (config := {maxSteps := 1000000}) only [mf__law_bent, mb__law_bent, mb__law_bent_1, g_eqNilT, sp, Fj.wp0, Fj.wp1, Fj.wp2, Fj.wp3, Fj.wp4, Fj.wp5, Fj.wp6, Fj.wp7, Fj.wp8, Fj.wp9, Fj.wp10, Fj.wp11, Fj.wp12, Fj.wp13, Fj.wp14, Fj.wp15, Fj.wp16, Fj.wp17, Fj.wp18, Fj.wp19, Fj.wp20, Fj.wp21, Fj.wpz, Fj.tyN, Int.reduceEq, Int.reduceLT, Int.reduceLE, Int.reduceAdd, Int.reduceSub, Int.reduceMul, Int.reduceNeg, Int.reducePow, Int.reduceToNat, Int.reduceMod, Int.reduceDiv, Int.reduceNe, Nat.reduceEqDiff, Nat.reduceMul, borOk, dkAll, dkKept, nlD, nlAll, id, frz, freeE, outsE, pick, merE, wipeE, Nat.reduceAdd, Nat.reduceSub, Nat.reduceLeDiff, Nat.reduceLT, reduceCtorEq, if_true, if_false, eq_self, forall_const, Bool.false_and]
      cases he : ds.isEmpty with
      | true =>
        simp (config := {maxSteps := 1000000}) only [Fj.wp0, Fj.wp1, Fj.wp2, Fj.wp3, Fj.wp4, Fj.wp5, Fj.wp6, Fj.wp7, Fj.wp8, Fj.wp9, Fj.wp10, Fj.wp11, Fj.wp12, Fj.wp13, Fj.wp14, Fj.wp15, Fj.wp16, Fj.wp17, Fj.wp18, Fj.wp19, Fj.wp20, Fj.wp21, Fj.wpz, Fj.tyN, Int.reduceEq, Int.reduceLT, Int.reduceLE, Int.reduceAdd, Int.reduceSub, Int.reduceMul, Int.reduceNeg, Int.reducePow, Int.reduceToNat, Int.reduceMod, Int.reduceDiv, Int.reduceNe, Nat.reduceEqDiff, Nat.reduceMul, borOk, dkAll, dkKept, nlD, nlAll, id, frz, freeE, outsE, pick, merE, wipeE, Nat.reduceAdd, Nat.reduceSub, Nat.reduceLeDiff, Nat.reduceLT, reduceCtorEq, if_true, if_false, eq_self, forall_const, Bool.false_and]
        refine (odd_ok (k + 1) (.tuple ds) h n l m t hd (by omega)).mono ?_
        rintro _ _ ⟨⟨d, rfl, h⟩, l', m', t', o, rfl, h3⟩
        simp (config := {maxSteps := 1000000}) only [Fj.wp0, Fj.wp1, Fj.wp2, Fj.wp3, Fj.wp4, Fj.wp5, Fj.wp6, Fj.wp7, Fj.wp8, Fj.wp9, Fj.wp10, Fj.wp11, Fj.wp12, Fj.wp13, Fj.wp14, Fj.wp15, Fj.wp16, Fj.wp17, Fj.wp18, Fj.wp19, Fj.wp20, Fj.wp21, Fj.wpz, Fj.tyN, Int.reduceEq, Int.reduceLT, Int.reduceLE, Int.reduceAdd, Int.reduceSub, Int.reduceMul, Int.reduceNeg, Int.reducePow, Int.reduceToNat, Int.reduceMod, Int.reduceDiv, Int.reduceNe, Nat.reduceEqDiff, Nat.reduceMul, borOk, dkAll, dkKept, nlD, nlAll, id, frz, freeE, outsE, pick, merE, wipeE, Nat.reduceAdd, Nat.reduceSub, Nat.reduceLeDiff, Nat.reduceLT, reduceCtorEq, if_true, if_false, eq_self, forall_const, Bool.false_and]
        exact ⟨⟨d, rfl, h⟩, _, _, _, _, rfl, dk_mono h3 (by omega)⟩
      | false =>
        have h0 : 0 < ds.length := by
          cases ds with
          | nil => cases he
          | cons d ds => simp
        simp (config := {maxSteps := 1000000}) only [Fj.wp0, Fj.wp1, Fj.wp2, Fj.wp3, Fj.wp4, Fj.wp5, Fj.wp6, Fj.wp7, Fj.wp8, Fj.wp9, Fj.wp10, Fj.wp11, Fj.wp12, Fj.wp13, Fj.wp14, Fj.wp15, Fj.wp16, Fj.wp17, Fj.wp18, Fj.wp19, Fj.wp20, Fj.wp21, Fj.wpz, Fj.tyN, Int.reduceEq, Int.reduceLT, Int.reduceLE, Int.reduceAdd, Int.reduceSub, Int.reduceMul, Int.reduceNeg, Int.reducePow, Int.reduceToNat, Int.reduceMod, Int.reduceDiv, Int.reduceNe, Nat.reduceEqDiff, Nat.reduceMul, borOk, dkAll, dkKept, nlD, nlAll, id, frz, freeE, outsE, pick, merE, wipeE, Nat.reduceAdd, Nat.reduceSub, Nat.reduceLeDiff, Nat.reduceLT, reduceCtorEq, if_true, if_false, eq_self, forall_const, Bool.false_and]
        refine (draw_ok n l m t 6 hd (by omega) (by omega) (by omega)).mono ?_
        rintro _ _ ⟨r, l2, m2, t2, o, rfl, r0, r1, rfl, h2⟩
        by_cases hr0 : r = 0
        · subst hr0
          simp (config := {maxSteps := 1000000}) only [Fj.wp0, Fj.wp1, Fj.wp2, Fj.wp3, Fj.wp4, Fj.wp5, Fj.wp6, Fj.wp7, Fj.wp8, Fj.wp9, Fj.wp10, Fj.wp11, Fj.wp12, Fj.wp13, Fj.wp14, Fj.wp15, Fj.wp16, Fj.wp17, Fj.wp18, Fj.wp19, Fj.wp20, Fj.wp21, Fj.wpz, Fj.tyN, Int.reduceEq, Int.reduceLT, Int.reduceLE, Int.reduceAdd, Int.reduceSub, Int.reduceMul, Int.reduceNeg, Int.reducePow, Int.reduceToNat, Int.reduceMod, Int.reduceDiv, Int.reduceNe, Nat.reduceEqDiff, Nat.reduceMul, borOk, dkAll, dkKept, nlD, nlAll, id, frz, freeE, outsE, pick, merE, wipeE, Nat.reduceAdd, Nat.reduceSub, Nat.reduceLeDiff, Nat.reduceLT, reduceCtorEq, if_true, if_false, eq_self, forall_const, Bool.false_and]
          refine (odd_ok (k + 1) (.tuple ds) h (n + 1) l2 m2 t2 h2 (by omega)).mono ?_
          rintro _ _ ⟨⟨d, rfl, h⟩, l', m', t', o, rfl, h3⟩
          simp (config := {maxSteps := 1000000}) only [Fj.wp0, Fj.wp1, Fj.wp2, Fj.wp3, Fj.wp4, Fj.wp5, Fj.wp6, Fj.wp7, Fj.wp8, Fj.wp9, Fj.wp10, Fj.wp11, Fj.wp12, Fj.wp13, Fj.wp14, Fj.wp15, Fj.wp16, Fj.wp17, Fj.wp18, Fj.wp19, Fj.wp20, Fj.wp21, Fj.wpz, Fj.tyN, Int.reduceEq, Int.reduceLT, Int.reduceLE, Int.reduceAdd, Int.reduceSub, Int.reduceMul, Int.reduceNeg, Int.reducePow, Int.reduceToNat, Int.reduceMod, Int.reduceDiv, Int.reduceNe, Nat.reduceEqDiff, Nat.reduceMul, borOk, dkAll, dkKept, nlD, nlAll, id, frz, freeE, outsE, pick, merE, wipeE, Nat.reduceAdd, Nat.reduceSub, Nat.reduceLeDiff, Nat.reduceLT, reduceCtorEq, if_true, if_false, eq_self, forall_const, Bool.false_and]
          exact ⟨⟨d, rfl, h⟩, _, _, _, _, rfl, dk_mono h3 (by omega)⟩
        · simp (config := {maxSteps := 1000000}) only [hr0, Fj.wp0, Fj.wp1, Fj.wp2, Fj.wp3, Fj.wp4, Fj.wp5, Fj.wp6, Fj.wp7, Fj.wp8, Fj.wp9, Fj.wp10, Fj.wp11, Fj.wp12, Fj.wp13, Fj.wp14, Fj.wp15, Fj.wp16, Fj.wp17, Fj.wp18, Fj.wp19, Fj.wp20, Fj.wp21, Fj.wpz, Fj.tyN, Int.reduceEq, Int.reduceLT, Int.reduceLE, Int.reduceAdd, Int.reduceSub, Int.reduceMul, Int.reduceNeg, Int.reducePow, Int.reduceToNat, Int.reduceMod, Int.reduceDiv, Int.reduceNe, Nat.reduceEqDiff, Nat.reduceMul, borOk, dkAll, dkKept, nlD, nlAll, id, frz, freeE, outsE, pick, merE, wipeE, Nat.reduceAdd, Nat.reduceSub, Nat.reduceLeDiff, Nat.reduceLT, reduceCtorEq, if_true, if_false, eq_self, forall_const, Bool.false_and]
          refine (draw_ok (n + 1) l2 m2 t2 ds.length h2 (by omega) (by omega) (by omega)).mono ?_
          rintro _ _ ⟨q, l3, m3, t3, o, rfl, q0, q1, rfl, h3⟩
          obtain ⟨d, ed, hm, _⟩ := atI_mem q0 q1
          simp (config := {maxSteps := 1000000}) only [ed, Fj.wp0, Fj.wp1, Fj.wp2, Fj.wp3, Fj.wp4, Fj.wp5, Fj.wp6, Fj.wp7, Fj.wp8, Fj.wp9, Fj.wp10, Fj.wp11, Fj.wp12, Fj.wp13, Fj.wp14, Fj.wp15, Fj.wp16, Fj.wp17, Fj.wp18, Fj.wp19, Fj.wp20, Fj.wp21, Fj.wpz, Fj.tyN, Int.reduceEq, Int.reduceLT, Int.reduceLE, Int.reduceAdd, Int.reduceSub, Int.reduceMul, Int.reduceNeg, Int.reducePow, Int.reduceToNat, Int.reduceMod, Int.reduceDiv, Int.reduceNe, Nat.reduceEqDiff, Nat.reduceMul, borOk, dkAll, dkKept, nlD, nlAll, id, frz, freeE, outsE, pick, merE, wipeE, Nat.reduceAdd, Nat.reduceSub, Nat.reduceLeDiff, Nat.reduceLT, reduceCtorEq, if_true, if_false, eq_self, forall_const, Bool.false_and]
          refine (ih f d (hr d hm) (by omega) (by omega) (n + 2) l3 m3 t3 h3 (by omega)).mono ?_
          rintro _ _ ⟨⟨d', rfl, h'⟩, l4, m4, t4, o, rfl, h4⟩
          have c1 := cut_len ds none (some q)
          have c2 := cut_len ds (some (q + 1)) none
          simp (config := {maxSteps := 1000000}) only [List.length_append, Fj.wp0, Fj.wp1, Fj.wp2, Fj.wp3, Fj.wp4, Fj.wp5, Fj.wp6, Fj.wp7, Fj.wp8, Fj.wp9, Fj.wp10, Fj.wp11, Fj.wp12, Fj.wp13, Fj.wp14, Fj.wp15, Fj.wp16, Fj.wp17, Fj.wp18, Fj.wp19, Fj.wp20, Fj.wp21, Fj.wpz, Fj.tyN, Int.reduceEq, Int.reduceLT, Int.reduceLE, Int.reduceAdd, Int.reduceSub, Int.reduceMul, Int.reduceNeg, Int.reducePow, Int.reduceToNat, Int.reduceMod, Int.reduceDiv, Int.reduceNe, Nat.reduceEqDiff, Nat.reduceMul, borOk, dkAll, dkKept, nlD, nlAll, id, frz, freeE, outsE, pick, merE, wipeE, Nat.reduceAdd, Nat.reduceSub, Nat.reduceLeDiff, Nat.reduceLT, reduceCtorEq, if_true, if_false, eq_self, forall_const, Bool.false_and]
          refine ⟨by omega, by omega, ⟨_, rfl, ((hs.cut _ _).app (.one h') (by simp; omega)).app (hs.cut _ _) (by simp; omega)⟩, _, _, _, _, rfl, dk_mono h4 (by omega)⟩
    | _ => cases h
theorem Sh.ints {ns : List Int} (h : ns.length < 64) : Sh (.tuple (ns.map .int)) := .tup (by rw [List.length_map]; exact h) fun d hd => by
  obtain ⟨n, _, rfl⟩ := List.mem_map.mp hd
  exact .at rfl
theorem great_ok (ns : List Int) (hl : ns.length ≤ 20) : Dk 10 mf__law_great [.val (.tuple (ns.map .int))] fun e => ∃ d, e = .val d ∧ Sh d := by
  intro n l m t hd hn
  have hp : gPowC 10 39 = true := by decide
  simp (config := {maxSteps := 1000000}) only [mf__law_great, mb__law_great, hp, Fj.wp0, Fj.wp1, Fj.wp2, Fj.wp3, Fj.wp4, Fj.wp5, Fj.wp6, Fj.wp7, Fj.wp8, Fj.wp9, Fj.wp10, Fj.wp11, Fj.wp12, Fj.wp13, Fj.wp14, Fj.wp15, Fj.wp16, Fj.wp17, Fj.wp18, Fj.wp19, Fj.wp20, Fj.wp21, Fj.wpz, Fj.tyN, Int.reduceEq, Int.reduceLT, Int.reduceLE, Int.reduceAdd, Int.reduceSub, Int.reduceMul, Int.reduceNeg, Int.reducePow, Int.reduceToNat, Int.reduceMod, Int.reduceDiv, Int.reduceNe, Nat.reduceEqDiff, Nat.reduceMul, borOk, dkAll, dkKept, nlD, nlAll, id, frz, freeE, outsE, pick, merE, wipeE, Nat.reduceAdd, Nat.reduceSub, Nat.reduceLeDiff, Nat.reduceLT, reduceCtorEq, if_true, if_false, eq_self, forall_const, Bool.false_and]
  refine (pickT_ok n l m t _ hd (by omega) (by simp) (by simp)).mono ?_
  rintro _ _ ⟨d, l1, m1, t1, o, hm, rfl, rfl, h1⟩
  obtain ⟨z, rfl⟩ : ∃ z : Int, d = .int z := by
    simp only [List.mem_cons, List.not_mem_nil, or_false] at hm
    rcases hm with rfl | rfl | rfl <;> exact ⟨_, rfl⟩
  clear hm
  simp (config := {maxSteps := 1000000}) only [lc__law_great_1, Fj.wp0, Fj.wp1, Fj.wp2, Fj.wp3, Fj.wp4, Fj.wp5, Fj.wp6, Fj.wp7, Fj.wp8, Fj.wp9, Fj.wp10, Fj.wp11, Fj.wp12, Fj.wp13, Fj.wp14, Fj.wp15, Fj.wp16, Fj.wp17, Fj.wp18, Fj.wp19, Fj.wp20, Fj.wp21, Fj.wpz, Fj.tyN, Int.reduceEq, Int.reduceLT, Int.reduceLE, Int.reduceAdd, Int.reduceSub, Int.reduceMul, Int.reduceNeg, Int.reducePow, Int.reduceToNat, Int.reduceMod, Int.reduceDiv, Int.reduceNe, Nat.reduceEqDiff, Nat.reduceMul, borOk, dkAll, dkKept, nlD, nlAll, id, frz, freeE, outsE, pick, merE, wipeE, Nat.reduceAdd, Nat.reduceSub, Nat.reduceLeDiff, Nat.reduceLT, reduceCtorEq, if_true, if_false, eq_self, forall_const, Bool.false_and]
  refine w_lcL (fun xs acc ρ => ∃ l' m' t' n', (∃ js : List Int, xs = js.map .int) ∧ acc.length + xs.length = 5 ∧ (∀ d ∈ acc, Sh d) ∧ n' + xs.length = n + 1 + 5 ∧ DkOk n' l' m' t' ∧ ρ = [.own false (.deck 1 l' m' t'), .val (.tuple (ns.map .int)), .no, .no, .val (.int z), .val (.int ns.length), .no]) ?_ ?_ _ _ _ ⟨l1, m1, t1, n + 1, ⟨[0, 1, 2, 3, 4], rfl⟩, rfl, fun d hd => (List.not_mem_nil hd).elim, rfl, h1, by rw [List.length_map]⟩
  · rintro x xs acc ρ ⟨l', m', t', n', ⟨js, e⟩, g1, g2, g3, g4, rfl⟩
    cases js with
    | nil => cases e
    | cons j js =>
      cases e
      rw [List.length_cons] at g1 g3
      simp (config := {maxSteps := 1000000}) only [Fj.wp0, Fj.wp1, Fj.wp2, Fj.wp3, Fj.wp4, Fj.wp5, Fj.wp6, Fj.wp7, Fj.wp8, Fj.wp9, Fj.wp10, Fj.wp11, Fj.wp12, Fj.wp13, Fj.wp14, Fj.wp15, Fj.wp16, Fj.wp17, Fj.wp18, Fj.wp19, Fj.wp20, Fj.wp21, Fj.wpz, Fj.tyN, Int.reduceEq, Int.reduceLT, Int.reduceLE, Int.reduceAdd, Int.reduceSub, Int.reduceMul, Int.reduceNeg, Int.reducePow, Int.reduceToNat, Int.reduceMod, Int.reduceDiv, Int.reduceNe, Nat.reduceEqDiff, Nat.reduceMul, borOk, dkAll, dkKept, nlD, nlAll, id, frz, freeE, outsE, pick, merE, wipeE, Nat.reduceAdd, Nat.reduceSub, Nat.reduceLeDiff, Nat.reduceLT, reduceCtorEq, if_true, if_false, eq_self, forall_const, Bool.false_and]
      refine (draw_ok n' l' m' t' 2 g4 (by omega) (by omega) (by omega)).mono ?_
      rintro _ _ ⟨q, l3, m3, t3, o, rfl, q0, q1, rfl, h3⟩
      simp (config := {maxSteps := 1000000}) only [Fj.wp0, Fj.wp1, Fj.wp2, Fj.wp3, Fj.wp4, Fj.wp5, Fj.wp6, Fj.wp7, Fj.wp8, Fj.wp9, Fj.wp10, Fj.wp11, Fj.wp12, Fj.wp13, Fj.wp14, Fj.wp15, Fj.wp16, Fj.wp17, Fj.wp18, Fj.wp19, Fj.wp20, Fj.wp21, Fj.wpz, Fj.tyN, Int.reduceEq, Int.reduceLT, Int.reduceLE, Int.reduceAdd, Int.reduceSub, Int.reduceMul, Int.reduceNeg, Int.reducePow, Int.reduceToNat, Int.reduceMod, Int.reduceDiv, Int.reduceNe, Nat.reduceEqDiff, Nat.reduceMul, borOk, dkAll, dkKept, nlD, nlAll, id, frz, freeE, outsE, pick, merE, wipeE, Nat.reduceAdd, Nat.reduceSub, Nat.reduceLeDiff, Nat.reduceLT, reduceCtorEq, if_true, if_false, eq_self, forall_const, Bool.false_and]
      refine ⟨by omega, l3, m3, t3, n' + 1, ⟨js, rfl⟩, by rw [List.length_append, List.length_singleton]; omega, fun d hd => ?_, by omega, h3, rfl⟩
      rcases List.mem_append.mp hd with h | h
      · exact g2 d h
      · rw [List.mem_singleton.mp h]
        exact .two (.at rfl) (.one (.at rfl))
  · rintro acc ρ ⟨l', m', t', n', -, g1, g2, g3, g4, rfl⟩
    rw [List.length_nil] at g1 g3
    have hf : Sh (.tuple acc) := .tup (by omega) g2
    have hs := Sh.ints (ns := ns) (by omega)
    simp (config := {maxSteps := 1000000}) only [rep_len, List.length_map, List.length_append, Fj.wp0, Fj.wp1, Fj.wp2, Fj.wp3, Fj.wp4, Fj.wp5, Fj.wp6, Fj.wp7, Fj.wp8, Fj.wp9, Fj.wp10, Fj.wp11, Fj.wp12, Fj.wp13, Fj.wp14, Fj.wp15, Fj.wp16, Fj.wp17, Fj.wp18, Fj.wp19, Fj.wp20, Fj.wp21, Fj.wpz, Fj.tyN, Int.reduceEq, Int.reduceLT, Int.reduceLE, Int.reduceAdd, Int.reduceSub, Int.reduceMul, Int.reduceNeg, Int.reducePow, Int.reduceToNat, Int.reduceMod, Int.reduceDiv, Int.reduceNe, Nat.reduceEqDiff, Nat.reduceMul, borOk, dkAll, dkKept, nlD, nlAll, id, frz, freeE, outsE, pick, merE, wipeE, Nat.reduceAdd, Nat.reduceSub, Nat.reduceLeDiff, Nat.reduceLT, reduceCtorEq, if_true, if_false, eq_self, forall_const, Bool.false_and]
    refine ⟨by omega, by omega, by omega, by omega, by omega, ?_⟩
    refine (pick_ok n' l' m' t' _ g4 (by omega) (by simp) (by simp)).mono ?_
    rintro _ _ ⟨d, l3, m3, t3, o, hm, rfl, rfl, h3⟩
    simp (config := {maxSteps := 1000000}) only [Fj.wp0, Fj.wp1, Fj.wp2, Fj.wp3, Fj.wp4, Fj.wp5, Fj.wp6, Fj.wp7, Fj.wp8, Fj.wp9, Fj.wp10, Fj.wp11, Fj.wp12, Fj.wp13, Fj.wp14, Fj.wp15, Fj.wp16, Fj.wp17, Fj.wp18, Fj.wp19, Fj.wp20, Fj.wp21, Fj.wpz, Fj.tyN, Int.reduceEq, Int.reduceLT, Int.reduceLE, Int.reduceAdd, Int.reduceSub, Int.reduceMul, Int.reduceNeg, Int.reducePow, Int.reduceToNat, Int.reduceMod, Int.reduceDiv, Int.reduceNe, Nat.reduceEqDiff, Nat.reduceMul, borOk, dkAll, dkKept, nlD, nlAll, id, frz, freeE, outsE, pick, merE, wipeE, Nat.reduceAdd, Nat.reduceSub, Nat.reduceLeDiff, Nat.reduceLT, reduceCtorEq, if_true, if_false, eq_self, forall_const, Bool.false_and]
    refine ⟨⟨d, rfl, ?_⟩, _, _, _, _, rfl, dk_mono h3 (by omega)⟩
    have hrep : ∀ k : Nat, k < 64 → Sh (.tuple (repD k [.int 2])) := fun k hk => .tup (by rw [rep_len]; simp; omega) fun d hd => by
      rw [List.mem_singleton.mp (rep_mem hd)]
      exact .at rfl
    have hz : Sh (.tuple (PyData.int z :: ns.map .int)) := (Sh.one (a := .int z) (.at rfl)).app hs (by simp; omega)
    have hz2 : Sh (.tuple (ns.map .int ++ [PyData.int z])) := hs.app (.one (.at rfl)) (by simp; omega)
    have hn : ∀ x y : PyData, Sh x → Sh y → Sh (.tuple [.tuple [.tuple [.int ns.length, .tuple [x, y]]]]) := fun x y hx hy => .one (.one (.two (.at rfl) (.two hx hy)))
    simp only [List.mem_cons, List.not_mem_nil, or_false] at hm
    rcases hm with rfl | rfl | rfl | rfl | rfl | rfl
    · exact .two hz .nil
    · exact .two hz2 (hn _ _ (.at rfl) (.at rfl))
    · exact .two hz2 (hn _ _ (.at rfl) (.at rfl))
    · exact .two ((hrep 5 (by decide)).app hs (by simp [rep_len]; omega)) (.one hf)
    · exact .two (((hrep 4 (by decide)).app (.one (.at rfl)) (by simp [rep_len])).app hs (by simp [rep_len]; omega)) (.one hf)
    · exact .two (hrep 30 (by decide)) (.one (.one (.two (.at rfl) (.one (.at rfl)))))
end L_k36

set_option maxRecDepth 100000
set_option maxHeartbeats 0
set_option linter.all false
set_option linter.unusedSimpArgs false
namespace L_k36
open PySem PySem.Spec PyProof.Rows L2 Fj
/-! the same; what the program tells -/
theorem q_same (a b : Bool) : mf__law_same 40 [.val (.bool a), .val (.bool b)] = some (.val (.bool (a == b)), [.no, .no]) := by
  refine W_eq ?_
  have e : mf__law_same 40 = mFn 4 (mb__law_same (mf__law_same 39)) := rfl
  rw [e]
  cases a <;> cases b <;> simp (config := {maxSteps := 1000000}) only [mb__law_same, mb__law_same_3, mb__law_same_4, mb__law_same_5, g_eqB, isND, Fj.wp0, Fj.wp1, Fj.wp2, Fj.wp3, Fj.wp4, Fj.wp5, Fj.wp6, Fj.wp7, Fj.wp8, Fj.wp9, Fj.wp10, Fj.wp11, Fj.wp12, Fj.wp13, Fj.wp14, Fj.wp15, Fj.wp16, Fj.wp17, Fj.wp18, Fj.wp19, Fj.wp20, Fj.wp21, Fj.wpz, Fj.tyN, Int.reduceEq, Int.reduceLT, Int.reduceLE, Int.reduceAdd, Int.reduceSub, Int.reduceMul, Int.reduceNeg, Int.reducePow, Int.reduceToNat, Int.reduceMod, Int.reduceDiv, Int.reduceNe, Nat.reduceEqDiff, Nat.reduceMul, borOk, dkAll, dkKept, nlD, nlAll, id, frz, freeE, outsE, pick, merE, wipeE, Nat.reduceAdd, Nat.reduceSub, Nat.reduceLeDiff, Nat.reduceLT, reduceCtorEq, if_true, if_false, eq_self, forall_const, Bool.false_and]
theorem q_sameR (a : Bool) : mf__law_same 40 [.val (.bool a), .val (.bool a)] = some (.val (.bool true), [.no, .no]) := by
  rw [q_same, beq_self_eq_true]
theorem prob_sizes {most many : Int} {ns : List Int} {bs : List PyData} (h : Prob most many ns bs) : oSizes (.tuple (ns.map .int)) = true := by
  show (ns.map PyData.int).all oPos = true
  rw [List.all_map]
  refine List.all_eq_true.mpr fun n hn => ?_
  show decide (1 ≤ n) = true
  exact decide_eq_true (h.sz.at12 n hn).1
theorem prob_ok {most many : Int} {ns : List Int} {bs : List PyData} (h : Prob most many ns bs) : oProblem (.tuple [.tuple (ns.map .int), .tuple bs]) = true := by
  show (oSizes (.tuple (ns.map .int)) && bs.all (oBar (szs (.tuple (ns.map .int))))) = true
  have e : szs (.tuple (ns.map .int)) = ns := vals_ints ns
  rw [prob_sizes h, e]
  exact List.all_eq_true.mpr h.bars
theorem prob_sm {most many : Int} {ns : List Int} {bs : List PyData} (h : Prob most many ns bs) (hm : many ≤ 20) : Sm 5 (.tuple [.tuple (ns.map .int), .tuple bs]) := by
  have hl : ns.length ≤ 20 := by
    have := h.sz.len
    omega
  refine .tup (by simp) fun d hd => ?_
  rcases List.mem_cons.mp hd with rfl | hd
  · refine (Sm.row (k := 0) (by omega) fun n hn => ?_).mono (by decide)
    have := h.sz.at12 n hn
    omega
  · rw [List.mem_singleton.mp hd]
    refine .tup (by have := h.len; omega) fun b hb => bar_sm h.sz.at12 hl (h.bars b hb)
theorem is_problem_eq (d : PyData) (hs : Sh d) : mf_is_problem [.val d] = some (.val (.bool (oProblem d)), [.no]) := by
  refine W_eq ?_
  have := p_problem d hs
  simp (config := {maxSteps := 1000000}) only [mf_is_problem, mb_is_problem, this, Fj.wp0, Fj.wp1, Fj.wp2, Fj.wp3, Fj.wp4, Fj.wp5, Fj.wp6, Fj.wp7, Fj.wp8, Fj.wp9, Fj.wp10, Fj.wp11, Fj.wp12, Fj.wp13, Fj.wp14, Fj.wp15, Fj.wp16, Fj.wp17, Fj.wp18, Fj.wp19, Fj.wp20, Fj.wp21, Fj.wpz, Fj.tyN, Int.reduceEq, Int.reduceLT, Int.reduceLE, Int.reduceAdd, Int.reduceSub, Int.reduceMul, Int.reduceNeg, Int.reducePow, Int.reduceToNat, Int.reduceMod, Int.reduceDiv, Int.reduceNe, Nat.reduceEqDiff, Nat.reduceMul, borOk, dkAll, dkKept, nlD, nlAll, id, frz, freeE, outsE, pick, merE, wipeE, Nat.reduceAdd, Nat.reduceSub, Nat.reduceLeDiff, Nat.reduceLT, reduceCtorEq, if_true, if_false, eq_self, forall_const, Bool.false_and]
theorem is_bar_eq (ns : List Int) (hn : ns.length ≤ 1000) (h : oSizes (.tuple (ns.map .int)) = true) (d : PyData) (hs : Sh d) : mf_is_bar [.val (.tuple (ns.map .int)), .val d] = some (.val (.bool (oBar ns d)), [.no, .no]) := by
  refine W_eq ?_
  have h1 := p_bar ns hn d hs
  have h2 := p_sizes (.tuple (ns.map .int)) (fun ds e => by cases e; rw [List.length_map]; exact hn)
  simp (config := {maxSteps := 1000000}) only [mf_is_bar, mb_is_bar, mb_is_bar_1, h1, h2, h, Fj.wp0, Fj.wp1, Fj.wp2, Fj.wp3, Fj.wp4, Fj.wp5, Fj.wp6, Fj.wp7, Fj.wp8, Fj.wp9, Fj.wp10, Fj.wp11, Fj.wp12, Fj.wp13, Fj.wp14, Fj.wp15, Fj.wp16, Fj.wp17, Fj.wp18, Fj.wp19, Fj.wp20, Fj.wp21, Fj.wpz, Fj.tyN, Int.reduceEq, Int.reduceLT, Int.reduceLE, Int.reduceAdd, Int.reduceSub, Int.reduceMul, Int.reduceNeg, Int.reducePow, Int.reduceToNat, Int.reduceMod, Int.reduceDiv, Int.reduceNe, Nat.reduceEqDiff, Nat.reduceMul, borOk, dkAll, dkKept, nlD, nlAll, id, frz, freeE, outsE, pick, merE, wipeE, Nat.reduceAdd, Nat.reduceSub, Nat.reduceLeDiff, Nat.reduceLT, reduceCtorEq, if_true, if_false, eq_self, forall_const, Bool.false_and]
theorem need_problem_eq (d : PyData) (hs : Sh d) (h : oProblem d = true) : mf_need_problem [.val d] = some (.val .none, [.no]) := by
  refine W_eq ?_
  have := p_problem d hs
  simp (config := {maxSteps := 1000000}) only [mf_need_problem, mb_need_problem, mb_need_problem_1, this, h, Fj.wp0, Fj.wp1, Fj.wp2, Fj.wp3, Fj.wp4, Fj.wp5, Fj.wp6, Fj.wp7, Fj.wp8, Fj.wp9, Fj.wp10, Fj.wp11, Fj.wp12, Fj.wp13, Fj.wp14, Fj.wp15, Fj.wp16, Fj.wp17, Fj.wp18, Fj.wp19, Fj.wp20, Fj.wp21, Fj.wpz, Fj.tyN, Int.reduceEq, Int.reduceLT, Int.reduceLE, Int.reduceAdd, Int.reduceSub, Int.reduceMul, Int.reduceNeg, Int.reducePow, Int.reduceToNat, Int.reduceMod, Int.reduceDiv, Int.reduceNe, Nat.reduceEqDiff, Nat.reduceMul, borOk, dkAll, dkKept, nlD, nlAll, id, frz, freeE, outsE, pick, merE, wipeE, Nat.reduceAdd, Nat.reduceSub, Nat.reduceLeDiff, Nat.reduceLT, reduceCtorEq, if_true, if_false, eq_self, forall_const, Bool.false_and]
theorem is_choice_eq (ns : List Int) (b d : PyData) (hn : ns.length ≤ 1000) (hs : Sh (.tuple [.tuple (ns.map .int), b])) (h : oProblem (.tuple [.tuple (ns.map .int), b]) = true) : mf_is_choice_of [.val (.tuple [.tuple (ns.map .int), b]), .val d] = some (.val (.bool (oChoice ns d)), [.no, .no]) := by
  refine W_eq ?_
  have h1 := need_problem_eq _ hs h
  have h2 := p_choice ns hn d
  simp (config := {maxSteps := 1000000}) only [mf_is_choice_of, mb_is_choice_of, h1, h2, Fj.wp0, Fj.wp1, Fj.wp2, Fj.wp3, Fj.wp4, Fj.wp5, Fj.wp6, Fj.wp7, Fj.wp8, Fj.wp9, Fj.wp10, Fj.wp11, Fj.wp12, Fj.wp13, Fj.wp14, Fj.wp15, Fj.wp16, Fj.wp17, Fj.wp18, Fj.wp19, Fj.wp20, Fj.wp21, Fj.wpz, Fj.tyN, Int.reduceEq, Int.reduceLT, Int.reduceLE, Int.reduceAdd, Int.reduceSub, Int.reduceMul, Int.reduceNeg, Int.reducePow, Int.reduceToNat, Int.reduceMod, Int.reduceDiv, Int.reduceNe, Nat.reduceEqDiff, Nat.reduceMul, borOk, dkAll, dkKept, nlD, nlAll, id, frz, freeE, outsE, pick, merE, wipeE, Nat.reduceAdd, Nat.reduceSub, Nat.reduceLeDiff, Nat.reduceLT, reduceCtorEq, if_true, if_false, eq_self, forall_const, Bool.false_and]
/-! the stages of a look -/
section
variable {n : Nat} {l : List Int} {m t : Int} {e1 e5 e6 e7 e8 : Ent} {j : Int} {P S : PyData}
theorem st1 (hd : DkOk n l m t) (hn : n + 100 ≤ 2 ^ 62) (p5 : Pl e5) (hP : Sm 5 P) : W1 (mb__law_are_forms_1 [.own false (.deck 1 l m t), e1, .val P, .val S, .val (.int j), e5, e6, e7, e8, .no]) fun f => ∃ d l' m' t', f = .nx [.own false (.deck 1 l' m' t'), e1, .val P, .val S, .val (.int j), .val d, e6, e7, e8, .no] ∧ Sh d ∧ DkOk (n + 20) l' m' t' := by
  by_cases h : j > 0
  · simp (config := {maxSteps := 1000000}) only [mb__law_are_forms_1, h, Fj.wp0, Fj.wp1, Fj.wp2, Fj.wp3, Fj.wp4, Fj.wp5, Fj.wp6, Fj.wp7, Fj.wp8, Fj.wp9, Fj.wp10, Fj.wp11, Fj.wp12, Fj.wp13, Fj.wp14, Fj.wp15, Fj.wp16, Fj.wp17, Fj.wp18, Fj.wp19, Fj.wp20, Fj.wp21, Fj.wpz, Fj.tyN, Int.reduceEq, Int.reduceLT, Int.reduceLE, Int.reduceAdd, Int.reduceSub, Int.reduceMul, Int.reduceNeg, Int.reducePow, Int.reduceToNat, Int.reduceMod, Int.reduceDiv, Int.reduceNe, Nat.reduceEqDiff, Nat.reduceMul, borOk, dkAll, dkKept, nlD, nlAll, id, frz, freeE, outsE, pick, merE, wipeE, Nat.reduceAdd, Nat.reduceSub, Nat.reduceLeDiff, Nat.reduceLT, reduceCtorEq, if_true, if_false, eq_self, forall_const, Bool.false_and]
    refine (bent_ok 5 40 P hP (by decide) (by decide) n l m t hd (by omega)).mono ?_
    rintro _ _ ⟨⟨d, rfl, h1⟩, l', m', t', o, rfl, h3⟩
    simp (config := {maxSteps := 1000000}) only [p5.all, Fj.wp0, Fj.wp1, Fj.wp2, Fj.wp3, Fj.wp4, Fj.wp5, Fj.wp6, Fj.wp7, Fj.wp8, Fj.wp9, Fj.wp10, Fj.wp11, Fj.wp12, Fj.wp13, Fj.wp14, Fj.wp15, Fj.wp16, Fj.wp17, Fj.wp18, Fj.wp19, Fj.wp20, Fj.wp21, Fj.wpz, Fj.tyN, Int.reduceEq, Int.reduceLT, Int.reduceLE, Int.reduceAdd, Int.reduceSub, Int.reduceMul, Int.reduceNeg, Int.reducePow, Int.reduceToNat, Int.reduceMod, Int.reduceDiv, Int.reduceNe, Nat.reduceEqDiff, Nat.reduceMul, borOk, dkAll, dkKept, nlD, nlAll, id, frz, freeE, outsE, pick, merE, wipeE, Nat.reduceAdd, Nat.reduceSub, Nat.reduceLeDiff, Nat.reduceLT, reduceCtorEq, if_true, if_false, eq_self, forall_const, Bool.false_and]
    exact ⟨d, l', m', t', rfl, h1, dk_mono h3 (by omega)⟩
  · simp (config := {maxSteps := 1000000}) only [mb__law_are_forms_1, h, p5.all, Fj.wp0, Fj.wp1, Fj.wp2, Fj.wp3, Fj.wp4, Fj.wp5, Fj.wp6, Fj.wp7, Fj.wp8, Fj.wp9, Fj.wp10, Fj.wp11, Fj.wp12, Fj.wp13, Fj.wp14, Fj.wp15, Fj.wp16, Fj.wp17, Fj.wp18, Fj.wp19, Fj.wp20, Fj.wp21, Fj.wpz, Fj.tyN, Int.reduceEq, Int.reduceLT, Int.reduceLE, Int.reduceAdd, Int.reduceSub, Int.reduceMul, Int.reduceNeg, Int.reducePow, Int.reduceToNat, Int.reduceMod, Int.reduceDiv, Int.reduceNe, Nat.reduceEqDiff, Nat.reduceMul, borOk, dkAll, dkKept, nlD, nlAll, id, frz, freeE, outsE, pick, merE, wipeE, Nat.reduceAdd, Nat.reduceSub, Nat.reduceLeDiff, Nat.reduceLT, reduceCtorEq, if_true, if_false, eq_self, forall_const, Bool.false_and]
    exact ⟨P, l, m, t, rfl, hP.shOf, dk_mono hd (by omega)⟩
theorem st2 {ns : List Int} {d : PyData} (hd : DkOk n l m t) (hn : n + 100 ≤ 2 ^ 62) (hns : ns.length ≤ 20) (h0 : Sh d) : W1 (mb__law_are_forms_2 [.own false (.deck 1 l m t), e1, .val P, .val (.tuple (ns.map .int)), .val (.int j), .val d, e6, e7, e8, .no]) fun f => ∃ d l' m' t', f = .nx [.own false (.deck 1 l' m' t'), e1, .val P, .val (.tuple (ns.map .int)), .val (.int j), .val d, e6, e7, e8, .no] ∧ Sh d ∧ DkOk (n + 20) l' m' t' := by
  by_cases h : j = 1
  · subst h
    simp (config := {maxSteps := 1000000}) only [mb__law_are_forms_2, Fj.wp0, Fj.wp1, Fj.wp2, Fj.wp3, Fj.wp4, Fj.wp5, Fj.wp6, Fj.wp7, Fj.wp8, Fj.wp9, Fj.wp10, Fj.wp11, Fj.wp12, Fj.wp13, Fj.wp14, Fj.wp15, Fj.wp16, Fj.wp17, Fj.wp18, Fj.wp19, Fj.wp20, Fj.wp21, Fj.wpz, Fj.tyN, Int.reduceEq, Int.reduceLT, Int.reduceLE, Int.reduceAdd, Int.reduceSub, Int.reduceMul, Int.reduceNeg, Int.reducePow, Int.reduceToNat, Int.reduceMod, Int.reduceDiv, Int.reduceNe, Nat.reduceEqDiff, Nat.reduceMul, borOk, dkAll, dkKept, nlD, nlAll, id, frz, freeE, outsE, pick, merE, wipeE, Nat.reduceAdd, Nat.reduceSub, Nat.reduceLeDiff, Nat.reduceLT, reduceCtorEq, if_true, if_false, eq_self, forall_const, Bool.false_and]
    refine (great_ok ns hns n l m t hd (by omega)).mono ?_
    rintro _ _ ⟨⟨d, rfl, h1⟩, l', m', t', o, rfl, h3⟩
    simp (config := {maxSteps := 1000000}) only [Fj.wp0, Fj.wp1, Fj.wp2, Fj.wp3, Fj.wp4, Fj.wp5, Fj.wp6, Fj.wp7, Fj.wp8, Fj.wp9, Fj.wp10, Fj.wp11, Fj.wp12, Fj.wp13, Fj.wp14, Fj.wp15, Fj.wp16, Fj.wp17, Fj.wp18, Fj.wp19, Fj.wp20, Fj.wp21, Fj.wpz, Fj.tyN, Int.reduceEq, Int.reduceLT, Int.reduceLE, Int.reduceAdd, Int.reduceSub, Int.reduceMul, Int.reduceNeg, Int.reducePow, Int.reduceToNat, Int.reduceMod, Int.reduceDiv, Int.reduceNe, Nat.reduceEqDiff, Nat.reduceMul, borOk, dkAll, dkKept, nlD, nlAll, id, frz, freeE, outsE, pick, merE, wipeE, Nat.reduceAdd, Nat.reduceSub, Nat.reduceLeDiff, Nat.reduceLT, reduceCtorEq, if_true, if_false, eq_self, forall_const, Bool.false_and]
    exact ⟨d, l', m', t', rfl, h1, dk_mono h3 (by omega)⟩
  · simp (config := {maxSteps := 1000000}) only [mb__law_are_forms_2, h, Fj.wp0, Fj.wp1, Fj.wp2, Fj.wp3, Fj.wp4, Fj.wp5, Fj.wp6, Fj.wp7, Fj.wp8, Fj.wp9, Fj.wp10, Fj.wp11, Fj.wp12, Fj.wp13, Fj.wp14, Fj.wp15, Fj.wp16, Fj.wp17, Fj.wp18, Fj.wp19, Fj.wp20, Fj.wp21, Fj.wpz, Fj.tyN, Int.reduceEq, Int.reduceLT, Int.reduceLE, Int.reduceAdd, Int.reduceSub, Int.reduceMul, Int.reduceNeg, Int.reducePow, Int.reduceToNat, Int.reduceMod, Int.reduceDiv, Int.reduceNe, Nat.reduceEqDiff, Nat.reduceMul, borOk, dkAll, dkKept, nlD, nlAll, id, frz, freeE, outsE, pick, merE, wipeE, Nat.reduceAdd, Nat.reduceSub, Nat.reduceLeDiff, Nat.reduceLT, reduceCtorEq, if_true, if_false, eq_self, forall_const, Bool.false_and]
    exact ⟨d, l, m, t, rfl, h0, dk_mono hd (by omega)⟩
theorem st3 {d : PyData} (p6 : Pl e6) (h0 : Sh d) : W1 (mb__law_are_forms_3 [.own false (.deck 1 l m t), e1, .val P, .val S, .val (.int j), .val d, e6, e7, e8, .no]) fun f => f = .nx [.own false (.deck 1 l m t), e1, .val P, .val S, .val (.int j), .val d, .val (.bool (oProblem d)), e7, e8, .no] := by
  have := is_problem_eq d h0
  by_cases h : j % 2 = 0 <;> simp (config := {maxSteps := 1000000}) only [mb__law_are_forms_3, h, this, p6.all, Fj.wp0, Fj.wp1, Fj.wp2, Fj.wp3, Fj.wp4, Fj.wp5, Fj.wp6, Fj.wp7, Fj.wp8, Fj.wp9, Fj.wp10, Fj.wp11, Fj.wp12, Fj.wp13, Fj.wp14, Fj.wp15, Fj.wp16, Fj.wp17, Fj.wp18, Fj.wp19, Fj.wp20, Fj.wp21, Fj.wpz, Fj.tyN, Int.reduceEq, Int.reduceLT, Int.reduceLE, Int.reduceAdd, Int.reduceSub, Int.reduceMul, Int.reduceNeg, Int.reducePow, Int.reduceToNat, Int.reduceMod, Int.reduceDiv, Int.reduceNe, Nat.reduceEqDiff, Nat.reduceMul, borOk, dkAll, dkKept, nlD, nlAll, id, frz, freeE, outsE, pick, merE, wipeE, Nat.reduceAdd, Nat.reduceSub, Nat.reduceLeDiff, Nat.reduceLT, reduceCtorEq, if_true, if_false, eq_self, forall_const, Bool.false_and]
theorem st4 {d : PyData} (h0 : Sh d) (p1 : Pl e1) (p7 : Pl e7) (p8 : Pl e8) : W1 (mb__law_are_forms_4 [.own false (.deck 1 l m t), e1, .val P, .val S, .val (.int j), .val d, .val (.bool (oProblem d)), e7, e8, .no]) fun f => f = .nx [.own false (.deck 1 l m t), e1, .val P, .val S, .val (.int j), .val d, .val (.bool (oProblem d)), e7, e8, .no] := by
  have := q_problem d h0
  simp (config := {maxSteps := 1000000}) only [mb__law_are_forms_4, this, q_sameR, p1.all, p7.all, p8.all, Fj.wp0, Fj.wp1, Fj.wp2, Fj.wp3, Fj.wp4, Fj.wp5, Fj.wp6, Fj.wp7, Fj.wp8, Fj.wp9, Fj.wp10, Fj.wp11, Fj.wp12, Fj.wp13, Fj.wp14, Fj.wp15, Fj.wp16, Fj.wp17, Fj.wp18, Fj.wp19, Fj.wp20, Fj.wp21, Fj.wpz, Fj.tyN, Int.reduceEq, Int.reduceLT, Int.reduceLE, Int.reduceAdd, Int.reduceSub, Int.reduceMul, Int.reduceNeg, Int.reducePow, Int.reduceToNat, Int.reduceMod, Int.reduceDiv, Int.reduceNe, Nat.reduceEqDiff, Nat.reduceMul, borOk, dkAll, dkKept, nlD, nlAll, id, frz, freeE, outsE, pick, merE, wipeE, Nat.reduceAdd, Nat.reduceSub, Nat.reduceLeDiff, Nat.reduceLT, reduceCtorEq, if_true, if_false, eq_self, forall_const, Bool.false_and]
theorem st5 {b : PyData} (hd : DkOk n l m t) (hn : n + 100 ≤ 2 ^ 62) (hb : Sm 3 b) : W1 (mb__law_are_forms_5 [.own false (.deck 1 l m t), e1, .val P, .val S, .val (.int j), e5, e6, .val b, e8, .no]) fun f => ∃ d l' m' t', f = .nx [.own false (.deck 1 l' m' t'), e1, .val P, .val S, .val (.int j), e5, e6, .val d, e8, .no] ∧ Sh d ∧ DkOk (n + 20) l' m' t' := by
  simp (config := {maxSteps := 1000000}) only [mb__law_are_forms_5, Fj.wp0, Fj.wp1, Fj.wp2, Fj.wp3, Fj.wp4, Fj.wp5, Fj.wp6, Fj.wp7, Fj.wp8, Fj.wp9, Fj.wp10, Fj.wp11, Fj.wp12, Fj.wp13, Fj.wp14, Fj.wp15, Fj.wp16, Fj.wp17, Fj.wp18, Fj.wp19, Fj.wp20, Fj.wp21, Fj.wpz, Fj.tyN, Int.reduceEq, Int.reduceLT, Int.reduceLE, Int.reduceAdd, Int.reduceSub, Int.reduceMul, Int.reduceNeg, Int.reducePow, Int.reduceToNat, Int.reduceMod, Int.reduceDiv, Int.reduceNe, Nat.reduceEqDiff, Nat.reduceMul, borOk, dkAll, dkKept, nlD, nlAll, id, frz, freeE, outsE, pick, merE, wipeE, Nat.reduceAdd, Nat.reduceSub, Nat.reduceLeDiff, Nat.reduceLT, reduceCtorEq, if_true, if_false, eq_self, forall_const, Bool.false_and]
  refine (draw_ok n l m t 3 hd (by omega) (by omega) (by omega)).mono ?_
  rintro _ _ ⟨r, l2, m2, t2, o, rfl, r0, r1, rfl, h2⟩
  by_cases h : r > 0
  · simp (config := {maxSteps := 1000000}) only [h, Fj.wp0, Fj.wp1, Fj.wp2, Fj.wp3, Fj.wp4, Fj.wp5, Fj.wp6, Fj.wp7, Fj.wp8, Fj.wp9, Fj.wp10, Fj.wp11, Fj.wp12, Fj.wp13, Fj.wp14, Fj.wp15, Fj.wp16, Fj.wp17, Fj.wp18, Fj.wp19, Fj.wp20, Fj.wp21, Fj.wpz, Fj.tyN, Int.reduceEq, Int.reduceLT, Int.reduceLE, Int.reduceAdd, Int.reduceSub, Int.reduceMul, Int.reduceNeg, Int.reducePow, Int.reduceToNat, Int.reduceMod, Int.reduceDiv, Int.reduceNe, Nat.reduceEqDiff, Nat.reduceMul, borOk, dkAll, dkKept, nlD, nlAll, id, frz, freeE, outsE, pick, merE, wipeE, Nat.reduceAdd, Nat.reduceSub, Nat.reduceLeDiff, Nat.reduceLT, reduceCtorEq, if_true, if_false, eq_self, forall_const, Bool.false_and]
    refine (bent_ok 3 40 b hb (by decide) (by decide) (n + 1) l2 m2 t2 h2 (by omega)).mono ?_
    rintro _ _ ⟨⟨d, rfl, h1⟩, l', m', t', o, rfl, h3⟩
    simp (config := {maxSteps := 1000000}) only [Fj.wp0, Fj.wp1, Fj.wp2, Fj.wp3, Fj.wp4, Fj.wp5, Fj.wp6, Fj.wp7, Fj.wp8, Fj.wp9, Fj.wp10, Fj.wp11, Fj.wp12, Fj.wp13, Fj.wp14, Fj.wp15, Fj.wp16, Fj.wp17, Fj.wp18, Fj.wp19, Fj.wp20, Fj.wp21, Fj.wpz, Fj.tyN, Int.reduceEq, Int.reduceLT, Int.reduceLE, Int.reduceAdd, Int.reduceSub, Int.reduceMul, Int.reduceNeg, Int.reducePow, Int.reduceToNat, Int.reduceMod, Int.reduceDiv, Int.reduceNe, Nat.reduceEqDiff, Nat.reduceMul, borOk, dkAll, dkKept, nlD, nlAll, id, frz, freeE, outsE, pick, merE, wipeE, Nat.reduceAdd, Nat.reduceSub, Nat.reduceLeDiff, Nat.reduceLT, reduceCtorEq, if_true, if_false, eq_self, forall_const, Bool.false_and]
    exact ⟨d, l', m', t', rfl, h1, dk_mono h3 (by omega)⟩
  · simp (config := {maxSteps := 1000000}) only [h, Fj.wp0, Fj.wp1, Fj.wp2, Fj.wp3, Fj.wp4, Fj.wp5, Fj.wp6, Fj.wp7, Fj.wp8, Fj.wp9, Fj.wp10, Fj.wp11, Fj.wp12, Fj.wp13, Fj.wp14, Fj.wp15, Fj.wp16, Fj.wp17, Fj.wp18, Fj.wp19, Fj.wp20, Fj.wp21, Fj.wpz, Fj.tyN, Int.reduceEq, Int.reduceLT, Int.reduceLE, Int.reduceAdd, Int.reduceSub, Int.reduceMul, Int.reduceNeg, Int.reducePow, Int.reduceToNat, Int.reduceMod, Int.reduceDiv, Int.reduceNe, Nat.reduceEqDiff, Nat.reduceMul, borOk, dkAll, dkKept, nlD, nlAll, id, frz, freeE, outsE, pick, merE, wipeE, Nat.reduceAdd, Nat.reduceSub, Nat.reduceLeDiff, Nat.reduceLT, reduceCtorEq, if_true, if_false, eq_self, forall_const, Bool.false_and]
    exact ⟨b, l2, m2, t2, rfl, hb.shOf, dk_mono h2 (by omega)⟩
theorem st6 {ns : List Int} {d : PyData} (p6 : Pl e6) (hns : ns.length ≤ 20) (h : oSizes (.tuple (ns.map .int)) = true) (h0 : Sh d) : W1 (mb__law_are_forms_6 [.own false (.deck 1 l m t), e1, .val P, .val (.tuple (ns.map .int)), .val (.int j), e5, e6, .val d, e8, .no]) fun f => f = .nx [.own false (.deck 1 l m t), e1, .val P, .val (.tuple (ns.map .int)), .val (.int j), e5, .val (.bool (oBar ns d)), .val d, e8, .no] := by
  have := is_bar_eq ns (by omega) h d h0
  by_cases h : j % 2 = 0 <;> simp (config := {maxSteps := 1000000}) only [mb__law_are_forms_6, h, this, p6.all, Fj.wp0, Fj.wp1, Fj.wp2, Fj.wp3, Fj.wp4, Fj.wp5, Fj.wp6, Fj.wp7, Fj.wp8, Fj.wp9, Fj.wp10, Fj.wp11, Fj.wp12, Fj.wp13, Fj.wp14, Fj.wp15, Fj.wp16, Fj.wp17, Fj.wp18, Fj.wp19, Fj.wp20, Fj.wp21, Fj.wpz, Fj.tyN, Int.reduceEq, Int.reduceLT, Int.reduceLE, Int.reduceAdd, Int.reduceSub, Int.reduceMul, Int.reduceNeg, Int.reducePow, Int.reduceToNat, Int.reduceMod, Int.reduceDiv, Int.reduceNe, Nat.reduceEqDiff, Nat.reduceMul, borOk, dkAll, dkKept, nlD, nlAll, id, frz, freeE, outsE, pick, merE, wipeE, Nat.reduceAdd, Nat.reduceSub, Nat.reduceLeDiff, Nat.reduceLT, reduceCtorEq, if_true, if_false, eq_self, forall_const, Bool.false_and]
theorem st7 {ns : List Int} {d : PyData} (hns : ns.length ≤ 20) (h0 : Sh d) : W1 (mb__law_are_forms_7 [.own false (.deck 1 l m t), e1, .val P, .val (.tuple (ns.map .int)), .val (.int j), e5, .val (.bool (oBar ns d)), .val d, e8, .no]) fun f => f = .nx [.own false (.deck 1 l m t), e1, .val P, .val (.tuple (ns.map .int)), .val (.int j), e5, .val (.bool (oBar ns d)), .val d, e8, .no] := by
  have := q_bar ns (by omega) d h0
  simp (config := {maxSteps := 1000000}) only [mb__law_are_forms_7, this, q_sameR, Fj.wp0, Fj.wp1, Fj.wp2, Fj.wp3, Fj.wp4, Fj.wp5, Fj.wp6, Fj.wp7, Fj.wp8, Fj.wp9, Fj.wp10, Fj.wp11, Fj.wp12, Fj.wp13, Fj.wp14, Fj.wp15, Fj.wp16, Fj.wp17, Fj.wp18, Fj.wp19, Fj.wp20, Fj.wp21, Fj.wpz, Fj.tyN, Int.reduceEq, Int.reduceLT, Int.reduceLE, Int.reduceAdd, Int.reduceSub, Int.reduceMul, Int.reduceNeg, Int.reducePow, Int.reduceToNat, Int.reduceMod, Int.reduceDiv, Int.reduceNe, Nat.reduceEqDiff, Nat.reduceMul, borOk, dkAll, dkKept, nlD, nlAll, id, frz, freeE, outsE, pick, merE, wipeE, Nat.reduceAdd, Nat.reduceSub, Nat.reduceLeDiff, Nat.reduceLT, reduceCtorEq, if_true, if_false, eq_self, forall_const, Bool.false_and]
theorem st8 {ns : List Int} (hd : DkOk n l m t) (hn : n + 100 ≤ 2 ^ 62) (hns : ns.length ≤ 20) (h12 : ∀ n ∈ ns, 1 ≤ n ∧ n ≤ 12) : W (lc__law_are_forms_8 [.own false (.deck 1 l m t), e1, .val P, .val (.tuple (ns.map .int)), .val (.int j), e5, e6, e7, e8, .no]) fun e ρ => ∃ (cs : List Int) (l' : List Int) (m' t' : Int), e = .own true (.lst (cs.map .int)) ∧ Sm 1 (.tuple (cs.map .int)) ∧ DkOk (n + 50) l' m' t' ∧ ρ = [.own false (.deck 1 l' m' t'), e1, .val P, .val (.tuple (ns.map .int)), .val (.int j), e5, e6, e7, e8, .no] := by
  simp (config := {maxSteps := 1000000}) only [lc__law_are_forms_8, Fj.wp0, Fj.wp1, Fj.wp2, Fj.wp3, Fj.wp4, Fj.wp5, Fj.wp6, Fj.wp7, Fj.wp8, Fj.wp9, Fj.wp10, Fj.wp11, Fj.wp12, Fj.wp13, Fj.wp14, Fj.wp15, Fj.wp16, Fj.wp17, Fj.wp18, Fj.wp19, Fj.wp20, Fj.wp21, Fj.wpz, Fj.tyN, Int.reduceEq, Int.reduceLT, Int.reduceLE, Int.reduceAdd, Int.reduceSub, Int.reduceMul, Int.reduceNeg, Int.reducePow, Int.reduceToNat, Int.reduceMod, Int.reduceDiv, Int.reduceNe, Nat.reduceEqDiff, Nat.reduceMul, borOk, dkAll, dkKept, nlD, nlAll, id, frz, freeE, outsE, pick, merE, wipeE, Nat.reduceAdd, Nat.reduceSub, Nat.reduceLeDiff, Nat.reduceLT, reduceCtorEq, if_true, if_false, eq_self, forall_const, Bool.false_and]
  refine w_lcL (fun xs acc ρ => ∃ (cs : List Int) (l' : List Int) (m' t' : Int) (n' : Nat) (rest : List Int), xs = rest.map .int ∧ (∀ n ∈ rest, 1 ≤ n ∧ n ≤ 12) ∧ acc = cs.map .int ∧ cs.length + rest.length ≤ 20 ∧ (∀ c ∈ cs, c.natAbs < 10 ^ 12) ∧ n' + 2 * rest.length = n + 2 * ns.length ∧ DkOk n' l' m' t' ∧ ρ = [.own false (.deck 1 l' m' t'), e1, .val P, .val (.tuple (ns.map .int)), .val (.int j), e5, e6, e7, e8, .no]) ?_ ?_ _ _ _ ⟨[], l, m, t, n, ns, rfl, h12, rfl, by simpa using hns, fun c hc => (List.not_mem_nil hc).elim, rfl, hd, rfl⟩
  · rintro x xs acc ρ ⟨cs, l', m', t', n', rest, e, g1, rfl, g3, g4, g5, g6, rfl⟩
    cases rest with
    | nil => cases e
    | cons z rest =>
      rw [List.map_cons] at e
      injection e with ea eb
      subst ea eb
      rw [List.length_cons] at g3 g5
      have hz := g1 z (List.mem_cons_self ..)
      simp (config := {maxSteps := 1000000}) only [Fj.wp0, Fj.wp1, Fj.wp2, Fj.wp3, Fj.wp4, Fj.wp5, Fj.wp6, Fj.wp7, Fj.wp8, Fj.wp9, Fj.wp10, Fj.wp11, Fj.wp12, Fj.wp13, Fj.wp14, Fj.wp15, Fj.wp16, Fj.wp17, Fj.wp18, Fj.wp19, Fj.wp20, Fj.wp21, Fj.wpz, Fj.tyN, Int.reduceEq, Int.reduceLT, Int.reduceLE, Int.reduceAdd, Int.reduceSub, Int.reduceMul, Int.reduceNeg, Int.reducePow, Int.reduceToNat, Int.reduceMod, Int.reduceDiv, Int.reduceNe, Nat.reduceEqDiff, Nat.reduceMul, borOk, dkAll, dkKept, nlD, nlAll, id, frz, freeE, outsE, pick, merE, wipeE, Nat.reduceAdd, Nat.reduceSub, Nat.reduceLeDiff, Nat.reduceLT, reduceCtorEq, if_true, if_false, eq_self, forall_const, Bool.false_and]
      refine (draw_ok n' l' m' t' 9 g6 (by omega) (by omega) (by omega)).mono ?_
      rintro _ _ ⟨q, l3, m3, t3, o, rfl, q0, q1, rfl, h3⟩
      have fin : ∀ y : Int, 0 < y → y < 100 → W (mf__law_draw [.own false (.deck 1 l3 m3 t3), .val (.int y)]) fun e o => ∃ c l4 m4 t4 o', e = .val (.int c) ∧ o = .own false (.deck 1 l4 m4 t4) :: o' ∧ c.natAbs < 10 ^ 12 ∧ DkOk (n' + 2) l4 m4 t4 := fun y y0 y1 => by
        refine (draw_ok (n' + 1) l3 m3 t3 y h3 (by omega) y0 (by omega)).mono ?_
        rintro _ _ ⟨c, l4, m4, t4, o, rfl, c0, c1, rfl, h4⟩
        exact ⟨c, l4, m4, t4, o, rfl, rfl, by omega, h4⟩
      by_cases hq : q = 0
      · subst hq
        simp (config := {maxSteps := 1000000}) only [Fj.wp0, Fj.wp1, Fj.wp2, Fj.wp3, Fj.wp4, Fj.wp5, Fj.wp6, Fj.wp7, Fj.wp8, Fj.wp9, Fj.wp10, Fj.wp11, Fj.wp12, Fj.wp13, Fj.wp14, Fj.wp15, Fj.wp16, Fj.wp17, Fj.wp18, Fj.wp19, Fj.wp20, Fj.wp21, Fj.wpz, Fj.tyN, Int.reduceEq, Int.reduceLT, Int.reduceLE, Int.reduceAdd, Int.reduceSub, Int.reduceMul, Int.reduceNeg, Int.reducePow, Int.reduceToNat, Int.reduceMod, Int.reduceDiv, Int.reduceNe, Nat.reduceEqDiff, Nat.reduceMul, borOk, dkAll, dkKept, nlD, nlAll, id, frz, freeE, outsE, pick, merE, wipeE, Nat.reduceAdd, Nat.reduceSub, Nat.reduceLeDiff, Nat.reduceLT, reduceCtorEq, if_true, if_false, eq_self, forall_const, Bool.false_and]
        refine (fin (z + 1) (by omega) (by omega)).mono ?_
        rintro _ _ ⟨c, l4, m4, t4, o, rfl, rfl, c0, h4⟩
        simp (config := {maxSteps := 1000000}) only [List.length_map, Fj.wp0, Fj.wp1, Fj.wp2, Fj.wp3, Fj.wp4, Fj.wp5, Fj.wp6, Fj.wp7, Fj.wp8, Fj.wp9, Fj.wp10, Fj.wp11, Fj.wp12, Fj.wp13, Fj.wp14, Fj.wp15, Fj.wp16, Fj.wp17, Fj.wp18, Fj.wp19, Fj.wp20, Fj.wp21, Fj.wpz, Fj.tyN, Int.reduceEq, Int.reduceLT, Int.reduceLE, Int.reduceAdd, Int.reduceSub, Int.reduceMul, Int.reduceNeg, Int.reducePow, Int.reduceToNat, Int.reduceMod, Int.reduceDiv, Int.reduceNe, Nat.reduceEqDiff, Nat.reduceMul, borOk, dkAll, dkKept, nlD, nlAll, id, frz, freeE, outsE, pick, merE, wipeE, Nat.reduceAdd, Nat.reduceSub, Nat.reduceLeDiff, Nat.reduceLT, reduceCtorEq, if_true, if_false, eq_self, forall_const, Bool.false_and]
        refine ⟨by omega, cs ++ [c], l4, m4, t4, n' + 2, rest, rfl, fun x hx => g1 x (List.mem_cons_of_mem _ hx), by rw [List.map_append]; rfl, by rw [List.length_append, List.length_singleton]; omega, fun x hx => ?_, by omega, h4, rfl⟩
        rcases List.mem_append.mp hx with h | h
        · exact g4 x h
        · rw [List.mem_singleton.mp h]
          exact c0
      · simp (config := {maxSteps := 1000000}) only [hq, Int.add_zero, Fj.wp0, Fj.wp1, Fj.wp2, Fj.wp3, Fj.wp4, Fj.wp5, Fj.wp6, Fj.wp7, Fj.wp8, Fj.wp9, Fj.wp10, Fj.wp11, Fj.wp12, Fj.wp13, Fj.wp14, Fj.wp15, Fj.wp16, Fj.wp17, Fj.wp18, Fj.wp19, Fj.wp20, Fj.wp21, Fj.wpz, Fj.tyN, Int.reduceEq, Int.reduceLT, Int.reduceLE, Int.reduceAdd, Int.reduceSub, Int.reduceMul, Int.reduceNeg, Int.reducePow, Int.reduceToNat, Int.reduceMod, Int.reduceDiv, Int.reduceNe, Nat.reduceEqDiff, Nat.reduceMul, borOk, dkAll, dkKept, nlD, nlAll, id, frz, freeE, outsE, pick, merE, wipeE, Nat.reduceAdd, Nat.reduceSub, Nat.reduceLeDiff, Nat.reduceLT, reduceCtorEq, if_true, if_false, eq_self, forall_const, Bool.false_and]
        refine (fin z (by omega) (by omega)).mono ?_
        rintro _ _ ⟨c, l4, m4, t4, o, rfl, rfl, c0, h4⟩
        simp (config := {maxSteps := 1000000}) only [List.length_map, Fj.wp0, Fj.wp1, Fj.wp2, Fj.wp3, Fj.wp4, Fj.wp5, Fj.wp6, Fj.wp7, Fj.wp8, Fj.wp9, Fj.wp10, Fj.wp11, Fj.wp12, Fj.wp13, Fj.wp14, Fj.wp15, Fj.wp16, Fj.wp17, Fj.wp18, Fj.wp19, Fj.wp20, Fj.wp21, Fj.wpz, Fj.tyN, Int.reduceEq, Int.reduceLT, Int.reduceLE, Int.reduceAdd, Int.reduceSub, Int.reduceMul, Int.reduceNeg, Int.reducePow, Int.reduceToNat, Int.reduceMod, Int.reduceDiv, Int.reduceNe, Nat.reduceEqDiff, Nat.reduceMul, borOk, dkAll, dkKept, nlD, nlAll, id, frz, freeE, outsE, pick, merE, wipeE, Nat.reduceAdd, Nat.reduceSub, Nat.reduceLeDiff, Nat.reduceLT, reduceCtorEq, if_true, if_false, eq_self, forall_const, Bool.false_and]
        refine ⟨by omega, cs ++ [c], l4, m4, t4, n' + 2, rest, rfl, fun x hx => g1 x (List.mem_cons_of_mem _ hx), by rw [List.map_append]; rfl, by rw [List.length_append, List.length_singleton]; omega, fun x hx => ?_, by omega, h4, rfl⟩
        rcases List.mem_append.mp hx with h | h
        · exact g4 x h
        · rw [List.mem_singleton.mp h]
          exact c0
  · rintro acc ρ ⟨cs, l', m', t', n', rest, e, g1, rfl, g3, g4, g5, g6, rfl⟩
    have : rest = [] := List.map_eq_nil_iff.mp e.symm
    subst this
    exact ⟨cs, l', m', t', rfl, Sm.row (k := 0) (by simp at g3; omega) g4, dk_mono g6 (by simp at g5; omega), rfl⟩
end
end L_k36

set_option maxRecDepth 100000
set_option maxHeartbeats 0
set_option linter.all false
set_option linter.unusedSimpArgs false
namespace L_k36
open PySem PySem.Spec PyProof.Rows L2 Fj
section
variable {n : Nat} {l : List Int} {m t : Int} {e1 e5 e6 e7 e8 : Ent} {j : Int} {P S : PyData}
theorem st9 {b : PyData} (hd : DkOk n l m t) (hn : n + 100 ≤ 2 ^ 62) (hb : Sm 1 b) : W1 (mb__law_are_forms_9 [.own false (.deck 1 l m t), e1, .val P, .val S, .val (.int j), e5, e6, e7, .val b, .no]) fun f => ∃ d l' m' t', f = .nx [.own false (.deck 1 l' m' t'), e1, .val P, .val S, .val (.int j), e5, e6, e7, .val d, .no] ∧ Sh d ∧ DkOk (n + 20) l' m' t' := by
  simp (config := {maxSteps := 1000000}) only [mb__law_are_forms_9, Fj.wp0, Fj.wp1, Fj.wp2, Fj.wp3, Fj.wp4, Fj.wp5, Fj.wp6, Fj.wp7, Fj.wp8, Fj.wp9, Fj.wp10, Fj.wp11, Fj.wp12, Fj.wp13, Fj.wp14, Fj.wp15, Fj.wp16, Fj.wp17, Fj.wp18, Fj.wp19, Fj.wp20, Fj.wp21, Fj.wpz, Fj.tyN, Int.reduceEq, Int.reduceLT, Int.reduceLE, Int.reduceAdd, Int.reduceSub, Int.reduceMul, Int.reduceNeg, Int.reducePow, Int.reduceToNat, Int.reduceMod, Int.reduceDiv, Int.reduceNe, Nat.reduceEqDiff, Nat.reduceMul, borOk, dkAll, dkKept, nlD, nlAll, id, frz, freeE, outsE, pick, merE, wipeE, Nat.reduceAdd, Nat.reduceSub, Nat.reduceLeDiff, Nat.reduceLT, reduceCtorEq, if_true, if_false, eq_self, forall_const, Bool.false_and]
  refine (draw_ok n l m t 2 hd (by omega) (by omega) (by omega)).mono ?_
  rintro _ _ ⟨r, l2, m2, t2, o, rfl, r0, r1, rfl, h2⟩
  by_cases h : r = 0
  · subst h
    simp (config := {maxSteps := 1000000}) only [Fj.wp0, Fj.wp1, Fj.wp2, Fj.wp3, Fj.wp4, Fj.wp5, Fj.wp6, Fj.wp7, Fj.wp8, Fj.wp9, Fj.wp10, Fj.wp11, Fj.wp12, Fj.wp13, Fj.wp14, Fj.wp15, Fj.wp16, Fj.wp17, Fj.wp18, Fj.wp19, Fj.wp20, Fj.wp21, Fj.wpz, Fj.tyN, Int.reduceEq, Int.reduceLT, Int.reduceLE, Int.reduceAdd, Int.reduceSub, Int.reduceMul, Int.reduceNeg, Int.reducePow, Int.reduceToNat, Int.reduceMod, Int.reduceDiv, Int.reduceNe, Nat.reduceEqDiff, Nat.reduceMul, borOk, dkAll, dkKept, nlD, nlAll, id, frz, freeE, outsE, pick, merE, wipeE, Nat.reduceAdd, Nat.reduceSub, Nat.reduceLeDiff, Nat.reduceLT, reduceCtorEq, if_true, if_false, eq_self, forall_const, Bool.false_and]
    refine (bent_ok 1 40 b hb (by decide) (by decide) (n + 1) l2 m2 t2 h2 (by omega)).mono ?_
    rintro _ _ ⟨⟨d, rfl, h1⟩, l', m', t', o, rfl, h3⟩
    simp (config := {maxSteps := 1000000}) only [Fj.wp0, Fj.wp1, Fj.wp2, Fj.wp3, Fj.wp4, Fj.wp5, Fj.wp6, Fj.wp7, Fj.wp8, Fj.wp9, Fj.wp10, Fj.wp11, Fj.wp12, Fj.wp13, Fj.wp14, Fj.wp15, Fj.wp16, Fj.wp17, Fj.wp18, Fj.wp19, Fj.wp20, Fj.wp21, Fj.wpz, Fj.tyN, Int.reduceEq, Int.reduceLT, Int.reduceLE, Int.reduceAdd, Int.reduceSub, Int.reduceMul, Int.reduceNeg, Int.reducePow, Int.reduceToNat, Int.reduceMod, Int.reduceDiv, Int.reduceNe, Nat.reduceEqDiff, Nat.reduceMul, borOk, dkAll, dkKept, nlD, nlAll, id, frz, freeE, outsE, pick, merE, wipeE, Nat.reduceAdd, Nat.reduceSub, Nat.reduceLeDiff, Nat.reduceLT, reduceCtorEq, if_true, if_false, eq_self, forall_const, Bool.false_and]
    exact ⟨d, l', m', t', rfl, h1, dk_mono h3 (by omega)⟩
  · simp (config := {maxSteps := 1000000}) only [h, Fj.wp0, Fj.wp1, Fj.wp2, Fj.wp3, Fj.wp4, Fj.wp5, Fj.wp6, Fj.wp7, Fj.wp8, Fj.wp9, Fj.wp10, Fj.wp11, Fj.wp12, Fj.wp13, Fj.wp14, Fj.wp15, Fj.wp16, Fj.wp17, Fj.wp18, Fj.wp19, Fj.wp20, Fj.wp21, Fj.wpz, Fj.tyN, Int.reduceEq, Int.reduceLT, Int.reduceLE, Int.reduceAdd, Int.reduceSub, Int.reduceMul, Int.reduceNeg, Int.reducePow, Int.reduceToNat, Int.reduceMod, Int.reduceDiv, Int.reduceNe, Nat.reduceEqDiff, Nat.reduceMul, borOk, dkAll, dkKept, nlD, nlAll, id, frz, freeE, outsE, pick, merE, wipeE, Nat.reduceAdd, Nat.reduceSub, Nat.reduceLeDiff, Nat.reduceLT, reduceCtorEq, if_true, if_false, eq_self, forall_const, Bool.false_and]
    exact ⟨b, l2, m2, t2, rfl, hb.shOf, dk_mono h2 (by omega)⟩
theorem st10 {ns : List Int} {b d : PyData} (p6 : Pl e6) (hns : ns.length ≤ 20) (hs : Sh (.tuple [.tuple (ns.map .int), b])) (h : oProblem (.tuple [.tuple (ns.map .int), b]) = true) : W1 (mb__law_are_forms_10 [.own false (.deck 1 l m t), e1, .val (.tuple [.tuple (ns.map .int), b]), .val S, .val (.int j), e5, e6, e7, .val d, .no]) fun f => f = .nx [.own false (.deck 1 l m t), e1, .val (.tuple [.tuple (ns.map .int), b]), .val S, .val (.int j), e5, .val (.bool (oChoice ns d)), e7, .val d, .no] := by
  have := is_choice_eq ns b d (by omega) hs h
  by_cases h : j % 2 = 0 <;> simp (config := {maxSteps := 1000000}) only [mb__law_are_forms_10, h, this, p6.all, Fj.wp0, Fj.wp1, Fj.wp2, Fj.wp3, Fj.wp4, Fj.wp5, Fj.wp6, Fj.wp7, Fj.wp8, Fj.wp9, Fj.wp10, Fj.wp11, Fj.wp12, Fj.wp13, Fj.wp14, Fj.wp15, Fj.wp16, Fj.wp17, Fj.wp18, Fj.wp19, Fj.wp20, Fj.wp21, Fj.wpz, Fj.tyN, Int.reduceEq, Int.reduceLT, Int.reduceLE, Int.reduceAdd, Int.reduceSub, Int.reduceMul, Int.reduceNeg, Int.reducePow, Int.reduceToNat, Int.reduceMod, Int.reduceDiv, Int.reduceNe, Nat.reduceEqDiff, Nat.reduceMul, borOk, dkAll, dkKept, nlD, nlAll, id, frz, freeE, outsE, pick, merE, wipeE, Nat.reduceAdd, Nat.reduceSub, Nat.reduceLeDiff, Nat.reduceLT, reduceCtorEq, if_true, if_false, eq_self, forall_const, Bool.false_and]
theorem st11 {ns : List Int} {d : PyData} (hns : ns.length ≤ 20) : W1 (mb__law_are_forms_11 [.own false (.deck 1 l m t), e1, .val P, .val (.tuple (ns.map .int)), .val (.int j), e5, .val (.bool (oChoice ns d)), e7, .val d, .no]) fun f => f = .nx [.own false (.deck 1 l m t), e1, .val P, .val (.tuple (ns.map .int)), .val (.int j), e5, .val (.bool (oChoice ns d)), e7, .val d, .no] := by
  have := q_choice ns (by omega) d
  simp (config := {maxSteps := 1000000}) only [mb__law_are_forms_11, this, q_sameR, Fj.wp0, Fj.wp1, Fj.wp2, Fj.wp3, Fj.wp4, Fj.wp5, Fj.wp6, Fj.wp7, Fj.wp8, Fj.wp9, Fj.wp10, Fj.wp11, Fj.wp12, Fj.wp13, Fj.wp14, Fj.wp15, Fj.wp16, Fj.wp17, Fj.wp18, Fj.wp19, Fj.wp20, Fj.wp21, Fj.wpz, Fj.tyN, Int.reduceEq, Int.reduceLT, Int.reduceLE, Int.reduceAdd, Int.reduceSub, Int.reduceMul, Int.reduceNeg, Int.reducePow, Int.reduceToNat, Int.reduceMod, Int.reduceDiv, Int.reduceNe, Nat.reduceEqDiff, Nat.reduceMul, borOk, dkAll, dkKept, nlD, nlAll, id, frz, freeE, outsE, pick, merE, wipeE, Nat.reduceAdd, Nat.reduceSub, Nat.reduceLeDiff, Nat.reduceLT, reduceCtorEq, if_true, if_false, eq_self, forall_const, Bool.false_and]
end
theorem forms_ok : Dk 300000000 mf__law_are_forms [] fun e => e = .val (.bool true) := by
  intro n l m t hd hn
  simp (config := {maxSteps := 1000000}) only [mf__law_are_forms, mb__law_are_forms, mb__law_are_forms_13, Fj.wp0, Fj.wp1, Fj.wp2, Fj.wp3, Fj.wp4, Fj.wp5, Fj.wp6, Fj.wp7, Fj.wp8, Fj.wp9, Fj.wp10, Fj.wp11, Fj.wp12, Fj.wp13, Fj.wp14, Fj.wp15, Fj.wp16, Fj.wp17, Fj.wp18, Fj.wp19, Fj.wp20, Fj.wp21, Fj.wpz, Fj.tyN, Int.reduceEq, Int.reduceLT, Int.reduceLE, Int.reduceAdd, Int.reduceSub, Int.reduceMul, Int.reduceNeg, Int.reducePow, Int.reduceToNat, Int.reduceMod, Int.reduceDiv, Int.reduceNe, Nat.reduceEqDiff, Nat.reduceMul, borOk, dkAll, dkKept, nlD, nlAll, id, frz, freeE, outsE, pick, merE, wipeE, Nat.reduceAdd, Nat.reduceSub, Nat.reduceLeDiff, Nat.reduceLT, reduceCtorEq, if_true, if_false, eq_self, forall_const, Bool.false_and]
  refine w_forL (fun xs ρ => ∃ l' m' t' n' e1 e2 e3 e4 e5 e6 e7 e8, (∃ js : List Int, xs = js.map .int) ∧ n' + 72000800 * xs.length = n + 288003200 ∧ DkOk n' l' m' t' ∧ Pl e1 ∧ Pl e2 ∧ Pl e3 ∧ Pl e4 ∧ Pl e5 ∧ Pl e6 ∧ Pl e7 ∧ Pl e8 ∧ ρ = [.own false (.deck 1 l' m' t'), e1, e2, e3, e4, e5, e6, e7, e8, .no]) ?_ ?_ _ _ ⟨l, m, t, n, _, _, _, _, _, _, _, _, ⟨[0, 1, 2, 3], rfl⟩, rfl, hd, .no, .no, .no, .no, .no, .no, .no, .no, rfl⟩
  · rintro x xs ρ ⟨l', m', t', n', e1, e2, e3, e4, e5, e6, e7, e8, ⟨js, ej⟩, g1, g2, p1, p2, p3, p4, p5, p6, p7, p8, rfl⟩
    cases js with
    | nil => cases ej
    | cons j js =>
    cases ej
    rw [List.length_cons] at g1
    simp (config := {maxSteps := 1000000}) only [p1.all, p2.all, p3.all, p4.all, p5.all, p6.all, p7.all, p8.all, Fj.wp0, Fj.wp1, Fj.wp2, Fj.wp3, Fj.wp4, Fj.wp5, Fj.wp6, Fj.wp7, Fj.wp8, Fj.wp9, Fj.wp10, Fj.wp11, Fj.wp12, Fj.wp13, Fj.wp14, Fj.wp15, Fj.wp16, Fj.wp17, Fj.wp18, Fj.wp19, Fj.wp20, Fj.wp21, Fj.wpz, Fj.tyN, Int.reduceEq, Int.reduceLT, Int.reduceLE, Int.reduceAdd, Int.reduceSub, Int.reduceMul, Int.reduceNeg, Int.reducePow, Int.reduceToNat, Int.reduceMod, Int.reduceDiv, Int.reduceNe, Nat.reduceEqDiff, Nat.reduceMul, borOk, dkAll, dkKept, nlD, nlAll, id, frz, freeE, outsE, pick, merE, wipeE, Nat.reduceAdd, Nat.reduceSub, Nat.reduceLeDiff, Nat.reduceLT, reduceCtorEq, if_true, if_false, eq_self, forall_const, Bool.false_and]
    refine (problem_ok 300 6 (by decide) (by decide) (by decide) (by decide) n' l' m' t' g2 (by omega)).mono ?_
    rintro _ _ ⟨⟨ns, bs, rfl, hp⟩, l2, m2, t2, o, rfl, h2⟩
    have hns : ns.length ≤ 20 := by
      have := hp.sz.len
      omega
    have hsm := prob_sm hp (by decide)
    have hsz := prob_sizes hp
    have hok := prob_ok hp
    simp (config := {maxSteps := 1000000}) only [p1.all, p2.all, p3.all, p4.all, p5.all, p6.all, p7.all, p8.all, mb__law_are_forms_12, Fj.wp0, Fj.wp1, Fj.wp2, Fj.wp3, Fj.wp4, Fj.wp5, Fj.wp6, Fj.wp7, Fj.wp8, Fj.wp9, Fj.wp10, Fj.wp11, Fj.wp12, Fj.wp13, Fj.wp14, Fj.wp15, Fj.wp16, Fj.wp17, Fj.wp18, Fj.wp19, Fj.wp20, Fj.wp21, Fj.wpz, Fj.tyN, Int.reduceEq, Int.reduceLT, Int.reduceLE, Int.reduceAdd, Int.reduceSub, Int.reduceMul, Int.reduceNeg, Int.reducePow, Int.reduceToNat, Int.reduceMod, Int.reduceDiv, Int.reduceNe, Nat.reduceEqDiff, Nat.reduceMul, borOk, dkAll, dkKept, nlD, nlAll, id, frz, freeE, outsE, pick, merE, wipeE, Nat.reduceAdd, Nat.reduceSub, Nat.reduceLeDiff, Nat.reduceLT, reduceCtorEq, if_true, if_false, eq_self, forall_const, Bool.false_and]
    refine w_forL (fun ys ρ => ∃ l' m' t' n2 e4 e5 e6 e7 e8, (∃ js : List Int, ys = js.map .int) ∧ n2 + 3000200 * ys.length = n' + 60000000 + 12000800 ∧ DkOk n2 l' m' t' ∧ Pl e4 ∧ Pl e5 ∧ Pl e6 ∧ Pl e7 ∧ Pl e8 ∧ ρ = [.own false (.deck 1 l' m' t'), .val (.int j), .val (.tuple [.tuple (ns.map .int), .tuple bs]), .val (.tuple (ns.map .int)), e4, e5, e6, e7, e8, .no]) ?_ ?_ _ _ ⟨l2, m2, t2, n' + 60000000, _, _, _, _, _, ⟨[0, 1, 2, 3], rfl⟩, rfl, h2, p4, p5, p6, p7, p8, rfl⟩
    · clear p4 p5 p6 p7 p8 h2 g2
      rintro y ys ρ ⟨l', m', t', n2, e4, e5, e6, e7, e8, ⟨ks, ek⟩, f1, f2, p4, p5, p6, p7, p8, rfl⟩
      cases ks with
      | nil => cases ek
      | cons k ks =>
      cases ek
      rw [List.length_cons] at f1
      simp (config := {maxSteps := 1000000}) only [p4.all, p5.all, p6.all, p7.all, p8.all, Fj.wp0, Fj.wp1, Fj.wp2, Fj.wp3, Fj.wp4, Fj.wp5, Fj.wp6, Fj.wp7, Fj.wp8, Fj.wp9, Fj.wp10, Fj.wp11, Fj.wp12, Fj.wp13, Fj.wp14, Fj.wp15, Fj.wp16, Fj.wp17, Fj.wp18, Fj.wp19, Fj.wp20, Fj.wp21, Fj.wpz, Fj.tyN, Int.reduceEq, Int.reduceLT, Int.reduceLE, Int.reduceAdd, Int.reduceSub, Int.reduceMul, Int.reduceNeg, Int.reducePow, Int.reduceToNat, Int.reduceMod, Int.reduceDiv, Int.reduceNe, Nat.reduceEqDiff, Nat.reduceMul, borOk, dkAll, dkKept, nlD, nlAll, id, frz, freeE, outsE, pick, merE, wipeE, Nat.reduceAdd, Nat.reduceSub, Nat.reduceLeDiff, Nat.reduceLT, reduceCtorEq, if_true, if_false, eq_self, forall_const, Bool.false_and]
      refine (st1 f2 (by omega) p5 hsm).mono ?_
      rintro _ ⟨d1, l3, m3, t3, rfl, s1, h3⟩
      simp (config := {maxSteps := 1000000}) only [Fj.wp0, Fj.wp1, Fj.wp2, Fj.wp3, Fj.wp4, Fj.wp5, Fj.wp6, Fj.wp7, Fj.wp8, Fj.wp9, Fj.wp10, Fj.wp11, Fj.wp12, Fj.wp13, Fj.wp14, Fj.wp15, Fj.wp16, Fj.wp17, Fj.wp18, Fj.wp19, Fj.wp20, Fj.wp21, Fj.wpz, Fj.tyN, Int.reduceEq, Int.reduceLT, Int.reduceLE, Int.reduceAdd, Int.reduceSub, Int.reduceMul, Int.reduceNeg, Int.reducePow, Int.reduceToNat, Int.reduceMod, Int.reduceDiv, Int.reduceNe, Nat.reduceEqDiff, Nat.reduceMul, borOk, dkAll, dkKept, nlD, nlAll, id, frz, freeE, outsE, pick, merE, wipeE, Nat.reduceAdd, Nat.reduceSub, Nat.reduceLeDiff, Nat.reduceLT, reduceCtorEq, if_true, if_false, eq_self, forall_const, Bool.false_and]
      refine (st2 h3 (by omega) hns s1).mono ?_
      rintro _ ⟨d2, l4, m4, t4, rfl, s2, h4⟩
      simp (config := {maxSteps := 1000000}) only [Fj.wp0, Fj.wp1, Fj.wp2, Fj.wp3, Fj.wp4, Fj.wp5, Fj.wp6, Fj.wp7, Fj.wp8, Fj.wp9, Fj.wp10, Fj.wp11, Fj.wp12, Fj.wp13, Fj.wp14, Fj.wp15, Fj.wp16, Fj.wp17, Fj.wp18, Fj.wp19, Fj.wp20, Fj.wp21, Fj.wpz, Fj.tyN, Int.reduceEq, Int.reduceLT, Int.reduceLE, Int.reduceAdd, Int.reduceSub, Int.reduceMul, Int.reduceNeg, Int.reducePow, Int.reduceToNat, Int.reduceMod, Int.reduceDiv, Int.reduceNe, Nat.reduceEqDiff, Nat.reduceMul, borOk, dkAll, dkKept, nlD, nlAll, id, frz, freeE, outsE, pick, merE, wipeE, Nat.reduceAdd, Nat.reduceSub, Nat.reduceLeDiff, Nat.reduceLT, reduceCtorEq, if_true, if_false, eq_self, forall_const, Bool.false_and]
      refine (st3 p6 s2).mono ?_
      rintro _ rfl
      simp (config := {maxSteps := 1000000}) only [Fj.wp0, Fj.wp1, Fj.wp2, Fj.wp3, Fj.wp4, Fj.wp5, Fj.wp6, Fj.wp7, Fj.wp8, Fj.wp9, Fj.wp10, Fj.wp11, Fj.wp12, Fj.wp13, Fj.wp14, Fj.wp15, Fj.wp16, Fj.wp17, Fj.wp18, Fj.wp19, Fj.wp20, Fj.wp21, Fj.wpz, Fj.tyN, Int.reduceEq, Int.reduceLT, Int.reduceLE, Int.reduceAdd, Int.reduceSub, Int.reduceMul, Int.reduceNeg, Int.reducePow, Int.reduceToNat, Int.reduceMod, Int.reduceDiv, Int.reduceNe, Nat.reduceEqDiff, Nat.reduceMul, borOk, dkAll, dkKept, nlD, nlAll, id, frz, freeE, outsE, pick, merE, wipeE, Nat.reduceAdd, Nat.reduceSub, Nat.reduceLeDiff, Nat.reduceLT, reduceCtorEq, if_true, if_false, eq_self, forall_const, Bool.false_and]
      refine (st4 s2 .val p7 p8).mono ?_
      rintro _ rfl
      simp (config := {maxSteps := 1000000}) only [p7.all, p8.all, Fj.wp0, Fj.wp1, Fj.wp2, Fj.wp3, Fj.wp4, Fj.wp5, Fj.wp6, Fj.wp7, Fj.wp8, Fj.wp9, Fj.wp10, Fj.wp11, Fj.wp12, Fj.wp13, Fj.wp14, Fj.wp15, Fj.wp16, Fj.wp17, Fj.wp18, Fj.wp19, Fj.wp20, Fj.wp21, Fj.wpz, Fj.tyN, Int.reduceEq, Int.reduceLT, Int.reduceLE, Int.reduceAdd, Int.reduceSub, Int.reduceMul, Int.reduceNeg, Int.reducePow, Int.reduceToNat, Int.reduceMod, Int.reduceDiv, Int.reduceNe, Nat.reduceEqDiff, Nat.reduceMul, borOk, dkAll, dkKept, nlD, nlAll, id, frz, freeE, outsE, pick, merE, wipeE, Nat.reduceAdd, Nat.reduceSub, Nat.reduceLeDiff, Nat.reduceLT, reduceCtorEq, if_true, if_false, eq_self, forall_const, Bool.false_and]
      refine (bar_ok ns 6 hp.sz.at12 hns (by decide) (n2 + 20 + 20) l4 m4 t4 h4 (by omega)).mono ?_
      rintro _ _ ⟨⟨ts, rfl, b1, b2⟩, l5, m5, t5, o, rfl, h5⟩
      simp (config := {maxSteps := 1000000}) only [p7.all, p8.all, Fj.wp0, Fj.wp1, Fj.wp2, Fj.wp3, Fj.wp4, Fj.wp5, Fj.wp6, Fj.wp7, Fj.wp8, Fj.wp9, Fj.wp10, Fj.wp11, Fj.wp12, Fj.wp13, Fj.wp14, Fj.wp15, Fj.wp16, Fj.wp17, Fj.wp18, Fj.wp19, Fj.wp20, Fj.wp21, Fj.wpz, Fj.tyN, Int.reduceEq, Int.reduceLT, Int.reduceLE, Int.reduceAdd, Int.reduceSub, Int.reduceMul, Int.reduceNeg, Int.reducePow, Int.reduceToNat, Int.reduceMod, Int.reduceDiv, Int.reduceNe, Nat.reduceEqDiff, Nat.reduceMul, borOk, dkAll, dkKept, nlD, nlAll, id, frz, freeE, outsE, pick, merE, wipeE, Nat.reduceAdd, Nat.reduceSub, Nat.reduceLeDiff, Nat.reduceLT, reduceCtorEq, if_true, if_false, eq_self, forall_const, Bool.false_and]
      refine (st5 h5 (by omega) (bar_sm hp.sz.at12 hns b1)).mono ?_
      rintro _ ⟨d3, l6, m6, t6, rfl, s3, h6⟩
      simp (config := {maxSteps := 1000000}) only [Fj.wp0, Fj.wp1, Fj.wp2, Fj.wp3, Fj.wp4, Fj.wp5, Fj.wp6, Fj.wp7, Fj.wp8, Fj.wp9, Fj.wp10, Fj.wp11, Fj.wp12, Fj.wp13, Fj.wp14, Fj.wp15, Fj.wp16, Fj.wp17, Fj.wp18, Fj.wp19, Fj.wp20, Fj.wp21, Fj.wpz, Fj.tyN, Int.reduceEq, Int.reduceLT, Int.reduceLE, Int.reduceAdd, Int.reduceSub, Int.reduceMul, Int.reduceNeg, Int.reducePow, Int.reduceToNat, Int.reduceMod, Int.reduceDiv, Int.reduceNe, Nat.reduceEqDiff, Nat.reduceMul, borOk, dkAll, dkKept, nlD, nlAll, id, frz, freeE, outsE, pick, merE, wipeE, Nat.reduceAdd, Nat.reduceSub, Nat.reduceLeDiff, Nat.reduceLT, reduceCtorEq, if_true, if_false, eq_self, forall_const, Bool.false_and]
      refine (st6 .val hns hsz s3).mono ?_
      rintro _ rfl
      simp (config := {maxSteps := 1000000}) only [Fj.wp0, Fj.wp1, Fj.wp2, Fj.wp3, Fj.wp4, Fj.wp5, Fj.wp6, Fj.wp7, Fj.wp8, Fj.wp9, Fj.wp10, Fj.wp11, Fj.wp12, Fj.wp13, Fj.wp14, Fj.wp15, Fj.wp16, Fj.wp17, Fj.wp18, Fj.wp19, Fj.wp20, Fj.wp21, Fj.wpz, Fj.tyN, Int.reduceEq, Int.reduceLT, Int.reduceLE, Int.reduceAdd, Int.reduceSub, Int.reduceMul, Int.reduceNeg, Int.reducePow, Int.reduceToNat, Int.reduceMod, Int.reduceDiv, Int.reduceNe, Nat.reduceEqDiff, Nat.reduceMul, borOk, dkAll, dkKept, nlD, nlAll, id, frz, freeE, outsE, pick, merE, wipeE, Nat.reduceAdd, Nat.reduceSub, Nat.reduceLeDiff, Nat.reduceLT, reduceCtorEq, if_true, if_false, eq_self, forall_const, Bool.false_and]
      refine (st7 hns s3).mono ?_
      rintro _ rfl
      simp (config := {maxSteps := 1000000}) only [Fj.wp0, Fj.wp1, Fj.wp2, Fj.wp3, Fj.wp4, Fj.wp5, Fj.wp6, Fj.wp7, Fj.wp8, Fj.wp9, Fj.wp10, Fj.wp11, Fj.wp12, Fj.wp13, Fj.wp14, Fj.wp15, Fj.wp16, Fj.wp17, Fj.wp18, Fj.wp19, Fj.wp20, Fj.wp21, Fj.wpz, Fj.tyN, Int.reduceEq, Int.reduceLT, Int.reduceLE, Int.reduceAdd, Int.reduceSub, Int.reduceMul, Int.reduceNeg, Int.reducePow, Int.reduceToNat, Int.reduceMod, Int.reduceDiv, Int.reduceNe, Nat.reduceEqDiff, Nat.reduceMul, borOk, dkAll, dkKept, nlD, nlAll, id, frz, freeE, outsE, pick, merE, wipeE, Nat.reduceAdd, Nat.reduceSub, Nat.reduceLeDiff, Nat.reduceLT, reduceCtorEq, if_true, if_false, eq_self, forall_const, Bool.false_and]
      refine (st8 h6 (by omega) hns hp.sz.at12).mono ?_
      rintro _ _ ⟨cs, l7, m7, t7, rfl, s4, h7, rfl⟩
      simp (config := {maxSteps := 1000000}) only [p8.all, Fj.wp0, Fj.wp1, Fj.wp2, Fj.wp3, Fj.wp4, Fj.wp5, Fj.wp6, Fj.wp7, Fj.wp8, Fj.wp9, Fj.wp10, Fj.wp11, Fj.wp12, Fj.wp13, Fj.wp14, Fj.wp15, Fj.wp16, Fj.wp17, Fj.wp18, Fj.wp19, Fj.wp20, Fj.wp21, Fj.wpz, Fj.tyN, Int.reduceEq, Int.reduceLT, Int.reduceLE, Int.reduceAdd, Int.reduceSub, Int.reduceMul, Int.reduceNeg, Int.reducePow, Int.reduceToNat, Int.reduceMod, Int.reduceDiv, Int.reduceNe, Nat.reduceEqDiff, Nat.reduceMul, borOk, dkAll, dkKept, nlD, nlAll, id, frz, freeE, outsE, pick, merE, wipeE, Nat.reduceAdd, Nat.reduceSub, Nat.reduceLeDiff, Nat.reduceLT, reduceCtorEq, if_true, if_false, eq_self, forall_const, Bool.false_and]
      refine (st9 h7 (by omega) s4).mono ?_
      rintro _ ⟨d4, l8, m8, t8, rfl, s5, h8⟩
      simp (config := {maxSteps := 1000000}) only [Fj.wp0, Fj.wp1, Fj.wp2, Fj.wp3, Fj.wp4, Fj.wp5, Fj.wp6, Fj.wp7, Fj.wp8, Fj.wp9, Fj.wp10, Fj.wp11, Fj.wp12, Fj.wp13, Fj.wp14, Fj.wp15, Fj.wp16, Fj.wp17, Fj.wp18, Fj.wp19, Fj.wp20, Fj.wp21, Fj.wpz, Fj.tyN, Int.reduceEq, Int.reduceLT, Int.reduceLE, Int.reduceAdd, Int.reduceSub, Int.reduceMul, Int.reduceNeg, Int.reducePow, Int.reduceToNat, Int.reduceMod, Int.reduceDiv, Int.reduceNe, Nat.reduceEqDiff, Nat.reduceMul, borOk, dkAll, dkKept, nlD, nlAll, id, frz, freeE, outsE, pick, merE, wipeE, Nat.reduceAdd, Nat.reduceSub, Nat.reduceLeDiff, Nat.reduceLT, reduceCtorEq, if_true, if_false, eq_self, forall_const, Bool.false_and]
      refine (st10 .val hns hsm.shOf hok).mono ?_
      rintro _ rfl
      simp (config := {maxSteps := 1000000}) only [Fj.wp0, Fj.wp1, Fj.wp2, Fj.wp3, Fj.wp4, Fj.wp5, Fj.wp6, Fj.wp7, Fj.wp8, Fj.wp9, Fj.wp10, Fj.wp11, Fj.wp12, Fj.wp13, Fj.wp14, Fj.wp15, Fj.wp16, Fj.wp17, Fj.wp18, Fj.wp19, Fj.wp20, Fj.wp21, Fj.wpz, Fj.tyN, Int.reduceEq, Int.reduceLT, Int.reduceLE, Int.reduceAdd, Int.reduceSub, Int.reduceMul, Int.reduceNeg, Int.reducePow, Int.reduceToNat, Int.reduceMod, Int.reduceDiv, Int.reduceNe, Nat.reduceEqDiff, Nat.reduceMul, borOk, dkAll, dkKept, nlD, nlAll, id, frz, freeE, outsE, pick, merE, wipeE, Nat.reduceAdd, Nat.reduceSub, Nat.reduceLeDiff, Nat.reduceLT, reduceCtorEq, if_true, if_false, eq_self, forall_const, Bool.false_and]
      refine (st11 hns).mono ?_
      rintro _ rfl
      simp (config := {maxSteps := 1000000}) only [Fj.wp0, Fj.wp1, Fj.wp2, Fj.wp3, Fj.wp4, Fj.wp5, Fj.wp6, Fj.wp7, Fj.wp8, Fj.wp9, Fj.wp10, Fj.wp11, Fj.wp12, Fj.wp13, Fj.wp14, Fj.wp15, Fj.wp16, Fj.wp17, Fj.wp18, Fj.wp19, Fj.wp20, Fj.wp21, Fj.wpz, Fj.tyN, Int.reduceEq, Int.reduceLT, Int.reduceLE, Int.reduceAdd, Int.reduceSub, Int.reduceMul, Int.reduceNeg, Int.reducePow, Int.reduceToNat, Int.reduceMod, Int.reduceDiv, Int.reduceNe, Nat.reduceEqDiff, Nat.reduceMul, borOk, dkAll, dkKept, nlD, nlAll, id, frz, freeE, outsE, pick, merE, wipeE, Nat.reduceAdd, Nat.reduceSub, Nat.reduceLeDiff, Nat.reduceLT, reduceCtorEq, if_true, if_false, eq_self, forall_const, Bool.false_and]
      exact ⟨l8, m8, t8, n2 + 3000200, _, _, _, _, _, ⟨ks, rfl⟩, by omega, dk_mono h8 (by omega), .val, .val, .val, .val, .val, rfl⟩
    · rintro ρ ⟨l', m', t', n2, e4, e5, e6, e7, e8, -, f1, f2, p4, p5, p6, p7, p8, rfl⟩
      rw [List.length_nil] at f1
      simp (config := {maxSteps := 1000000}) only [Fj.wp0, Fj.wp1, Fj.wp2, Fj.wp3, Fj.wp4, Fj.wp5, Fj.wp6, Fj.wp7, Fj.wp8, Fj.wp9, Fj.wp10, Fj.wp11, Fj.wp12, Fj.wp13, Fj.wp14, Fj.wp15, Fj.wp16, Fj.wp17, Fj.wp18, Fj.wp19, Fj.wp20, Fj.wp21, Fj.wpz, Fj.tyN, Int.reduceEq, Int.reduceLT, Int.reduceLE, Int.reduceAdd, Int.reduceSub, Int.reduceMul, Int.reduceNeg, Int.reducePow, Int.reduceToNat, Int.reduceMod, Int.reduceDiv, Int.reduceNe, Nat.reduceEqDiff, Nat.reduceMul, borOk, dkAll, dkKept, nlD, nlAll, id, frz, freeE, outsE, pick, merE, wipeE, Nat.reduceAdd, Nat.reduceSub, Nat.reduceLeDiff, Nat.reduceLT, reduceCtorEq, if_true, if_false, eq_self, forall_const, Bool.false_and]
      exact ⟨l', m', t', n' + 72000800, _, _, _, _, _, _, _, _, ⟨js, rfl⟩, by omega, dk_mono f2 (by omega), .val, .val, .val, p4, p5, p6, p7, p8, rfl⟩
  · rintro ρ ⟨l', m', t', n', e1, e2, e3, e4, e5, e6, e7, e8, -, g1, g2, p1, p2, p3, p4, p5, p6, p7, p8, rfl⟩
    rw [List.length_nil] at g1
    simp (config := {maxSteps := 1000000}) only [p1.all, p2.all, p3.all, p4.all, p5.all, p6.all, p7.all, p8.all, Fj.wp0, Fj.wp1, Fj.wp2, Fj.wp3, Fj.wp4, Fj.wp5, Fj.wp6, Fj.wp7, Fj.wp8, Fj.wp9, Fj.wp10, Fj.wp11, Fj.wp12, Fj.wp13, Fj.wp14, Fj.wp15, Fj.wp16, Fj.wp17, Fj.wp18, Fj.wp19, Fj.wp20, Fj.wp21, Fj.wpz, Fj.tyN, Int.reduceEq, Int.reduceLT, Int.reduceLE, Int.reduceAdd, Int.reduceSub, Int.reduceMul, Int.reduceNeg, Int.reducePow, Int.reduceToNat, Int.reduceMod, Int.reduceDiv, Int.reduceNe, Nat.reduceEqDiff, Nat.reduceMul, borOk, dkAll, dkKept, nlD, nlAll, id, frz, freeE, outsE, pick, merE, wipeE, Nat.reduceAdd, Nat.reduceSub, Nat.reduceLeDiff, Nat.reduceLT, reduceCtorEq, if_true, if_false, eq_self, forall_const, Bool.false_and]
    exact ⟨l', m', t', _, rfl, dk_mono g2 (by omega)⟩
end L_k36

set_option maxRecDepth 100000
set_option maxHeartbeats 0
set_option linter.all false
set_option linter.unusedSimpArgs false
namespace L_k36
open PySem PySem.Spec PyProof.Rows L2 Fj
/-! meets -/
def hit (cs : List Int) : PyData → Bool
  | .tuple [.int i, m] => decide (cs.getD i.toNat 0 ∈ szs m)
  | _ => false
def meet (cs : List Int) : PyData → Bool
  | .tuple ts => ts.all (hit cs)
  | _ => false
def isCh (ns cs : List Int) : Prop := cs.length = ns.length ∧ ∀ p ∈ cs.zip ns, 0 ≤ p.1 ∧ p.1 < p.2
theorem bar_term {ns cs : List Int} (hc : isCh ns cs) {ts : List PyData} (h : oBar ns (.tuple ts) = true) {d : PyData} (hd : d ∈ ts) : ∃ (i : Int) (ks : List Int), d = .tuple [.int i, .tuple (ks.map .int)] ∧ L2.atI (cs.map PyData.int) i = some (.int (cs.getD i.toNat 0)) := by
  have h : (ts.all (oTerm ns) && rise (ts.map fst0)) = true := h
  rw [Bool.and_eq_true] at h
  obtain ⟨i, m, rfl, i0, i1, i2⟩ := term_form (List.all_eq_true.mp h.1 d hd)
  cases m with
  | tuple ms =>
    have i2 : (ms.all (oBtw 0 (ns.getD i.toNat 0 - 1)) && (rise (ms.map valI) && decide (1 ≤ ms.length ∧ (ms.length : Int) < ns.getD i.toNat 0))) = true := i2
    rw [Bool.and_eq_true] at i2
    exact ⟨i, ms.map valI, by rw [← ints_of i2.1], at_int i0 (by rw [hc.1]; exact i1)⟩
  | _ => cases i2
theorem p_meets {ns cs : List Int} (hc : isCh ns cs) {b : PyData} (h : oBar ns b = true) (hs : Sh b) : mf_meets [.val (.tuple (cs.map .int)), .val b] = some (.val (.bool (meet cs b)), [.no, .no]) := by
  refine W_eq ?_
  cases b with
  | tuple ts =>
    have hl := hs.of.1
    simp (config := {maxSteps := 1000000}) only [mf_meets, mb_meets, lc_meets_1, Fj.wp0, Fj.wp1, Fj.wp2, Fj.wp3, Fj.wp4, Fj.wp5, Fj.wp6, Fj.wp7, Fj.wp8, Fj.wp9, Fj.wp10, Fj.wp11, Fj.wp12, Fj.wp13, Fj.wp14, Fj.wp15, Fj.wp16, Fj.wp17, Fj.wp18, Fj.wp19, Fj.wp20, Fj.wp21, Fj.wpz, Fj.tyN, Int.reduceEq, Int.reduceLT, Int.reduceLE, Int.reduceAdd, Int.reduceSub, Int.reduceMul, Int.reduceNeg, Int.reducePow, Int.reduceToNat, Int.reduceMod, Int.reduceDiv, Int.reduceNe, Nat.reduceEqDiff, Nat.reduceMul, borOk, dkAll, dkKept, nlD, nlAll, id, frz, freeE, outsE, pick, merE, wipeE, Nat.reduceAdd, Nat.reduceSub, Nat.reduceLeDiff, Nat.reduceLT, reduceCtorEq, if_true, if_false, eq_self, forall_const, Bool.false_and]
    refine w_lcMapD (fun d => .bool (hit cs d)) (fun d hd => ?_) (by omega) ?_
    · obtain ⟨i, ks, rfl, ha⟩ := bar_term hc h hd
      simp (config := {maxSteps := 1000000}) only [ha, g_inI, hit, szs, vals_ints, Fj.wp0, Fj.wp1, Fj.wp2, Fj.wp3, Fj.wp4, Fj.wp5, Fj.wp6, Fj.wp7, Fj.wp8, Fj.wp9, Fj.wp10, Fj.wp11, Fj.wp12, Fj.wp13, Fj.wp14, Fj.wp15, Fj.wp16, Fj.wp17, Fj.wp18, Fj.wp19, Fj.wp20, Fj.wp21, Fj.wpz, Fj.tyN, Int.reduceEq, Int.reduceLT, Int.reduceLE, Int.reduceAdd, Int.reduceSub, Int.reduceMul, Int.reduceNeg, Int.reducePow, Int.reduceToNat, Int.reduceMod, Int.reduceDiv, Int.reduceNe, Nat.reduceEqDiff, Nat.reduceMul, borOk, dkAll, dkKept, nlD, nlAll, id, frz, freeE, outsE, pick, merE, wipeE, Nat.reduceAdd, Nat.reduceSub, Nat.reduceLeDiff, Nat.reduceLT, reduceCtorEq, if_true, if_false, eq_self, forall_const, Bool.false_and]
    · simp (config := {maxSteps := 1000000}) only [g_boolsF, List.all_map, Fj.wp0, Fj.wp1, Fj.wp2, Fj.wp3, Fj.wp4, Fj.wp5, Fj.wp6, Fj.wp7, Fj.wp8, Fj.wp9, Fj.wp10, Fj.wp11, Fj.wp12, Fj.wp13, Fj.wp14, Fj.wp15, Fj.wp16, Fj.wp17, Fj.wp18, Fj.wp19, Fj.wp20, Fj.wp21, Fj.wpz, Fj.tyN, Int.reduceEq, Int.reduceLT, Int.reduceLE, Int.reduceAdd, Int.reduceSub, Int.reduceMul, Int.reduceNeg, Int.reducePow, Int.reduceToNat, Int.reduceMod, Int.reduceDiv, Int.reduceNe, Nat.reduceEqDiff, Nat.reduceMul, borOk, dkAll, dkKept, nlD, nlAll, id, frz, freeE, outsE, pick, merE, wipeE, Nat.reduceAdd, Nat.reduceSub, Nat.reduceLeDiff, Nat.reduceLT, reduceCtorEq, if_true, if_false, eq_self, forall_const, Bool.false_and]
      rfl
  | _ => cases h
theorem q_meets {ns cs : List Int} (hc : isCh ns cs) {b : PyData} (h : oBar ns b = true) (hs : Sh b) : mf__law_meets [.val (.tuple (cs.map .int)), .val b] = some (.val (.bool (meet cs b)), [.no, .no]) := by
  refine W_eq ?_
  cases b with
  | tuple ts =>
    have hl := hs.of.1
    simp (config := {maxSteps := 1000000}) only [mf__law_meets, mb__law_meets, lc__law_meets_1, Fj.wp0, Fj.wp1, Fj.wp2, Fj.wp3, Fj.wp4, Fj.wp5, Fj.wp6, Fj.wp7, Fj.wp8, Fj.wp9, Fj.wp10, Fj.wp11, Fj.wp12, Fj.wp13, Fj.wp14, Fj.wp15, Fj.wp16, Fj.wp17, Fj.wp18, Fj.wp19, Fj.wp20, Fj.wp21, Fj.wpz, Fj.tyN, Int.reduceEq, Int.reduceLT, Int.reduceLE, Int.reduceAdd, Int.reduceSub, Int.reduceMul, Int.reduceNeg, Int.reducePow, Int.reduceToNat, Int.reduceMod, Int.reduceDiv, Int.reduceNe, Nat.reduceEqDiff, Nat.reduceMul, borOk, dkAll, dkKept, nlD, nlAll, id, frz, freeE, outsE, pick, merE, wipeE, Nat.reduceAdd, Nat.reduceSub, Nat.reduceLeDiff, Nat.reduceLT, reduceCtorEq, if_true, if_false, eq_self, forall_const, Bool.false_and]
    refine w_lcFilD (fun d => !hit cs d) (fun d => .int (fst0 d)) (fun d hd => ?_) (by omega) ?_
    · obtain ⟨i, ks, rfl, ha⟩ := bar_term hc h hd
      cases hh : decide (cs.getD i.toNat 0 ∈ ks) <;> simp (config := {maxSteps := 1000000}) only [ha, g_ninI, hit, szs, vals_ints, hh, fst0, Fj.wp0, Fj.wp1, Fj.wp2, Fj.wp3, Fj.wp4, Fj.wp5, Fj.wp6, Fj.wp7, Fj.wp8, Fj.wp9, Fj.wp10, Fj.wp11, Fj.wp12, Fj.wp13, Fj.wp14, Fj.wp15, Fj.wp16, Fj.wp17, Fj.wp18, Fj.wp19, Fj.wp20, Fj.wp21, Fj.wpz, Fj.tyN, Int.reduceEq, Int.reduceLT, Int.reduceLE, Int.reduceAdd, Int.reduceSub, Int.reduceMul, Int.reduceNeg, Int.reducePow, Int.reduceToNat, Int.reduceMod, Int.reduceDiv, Int.reduceNe, Nat.reduceEqDiff, Nat.reduceMul, borOk, dkAll, dkKept, nlD, nlAll, id, frz, freeE, outsE, pick, merE, wipeE, Nat.reduceAdd, Nat.reduceSub, Nat.reduceLeDiff, Nat.reduceLT, reduceCtorEq, if_true, if_false, eq_self, forall_const, Bool.false_and]
    · simp (config := {maxSteps := 1000000}) only [all_notempty, Fj.wp0, Fj.wp1, Fj.wp2, Fj.wp3, Fj.wp4, Fj.wp5, Fj.wp6, Fj.wp7, Fj.wp8, Fj.wp9, Fj.wp10, Fj.wp11, Fj.wp12, Fj.wp13, Fj.wp14, Fj.wp15, Fj.wp16, Fj.wp17, Fj.wp18, Fj.wp19, Fj.wp20, Fj.wp21, Fj.wpz, Fj.tyN, Int.reduceEq, Int.reduceLT, Int.reduceLE, Int.reduceAdd, Int.reduceSub, Int.reduceMul, Int.reduceNeg, Int.reducePow, Int.reduceToNat, Int.reduceMod, Int.reduceDiv, Int.reduceNe, Nat.reduceEqDiff, Nat.reduceMul, borOk, dkAll, dkKept, nlD, nlAll, id, frz, freeE, outsE, pick, merE, wipeE, Nat.reduceAdd, Nat.reduceSub, Nat.reduceLeDiff, Nat.reduceLT, reduceCtorEq, if_true, if_false, eq_self, forall_const, Bool.false_and]
      rfl
  | _ => cases h
theorem ch_ok {ns cs : List Int} (hc : isCh ns cs) : oChoice ns (.tuple (cs.map .int)) = true := by
  show (decide (((cs.map PyData.int).length : Int) = ns.length) && ((cs.map PyData.int).zip ns).all fun p => oBtw 0 (p.2 - 1) p.1) = true
  rw [List.length_map, hc.1, decide_eq_true rfl, Bool.true_and, show (cs.map PyData.int).zip ns = (cs.zip ns).map fun p => (PyData.int p.1, p.2) from by
    rw [show (cs.map PyData.int).zip ns = (cs.map PyData.int).zip (ns.map id) by rw [List.map_id], List.zip_map]; rfl, List.all_map]
  refine List.all_eq_true.mpr fun p hp => ?_
  have := hc.2 p hp
  show (decide (0 ≤ p.1) && decide (p.1 ≤ p.2 - 1)) = true
  rw [Bool.and_eq_true, decide_eq_true_iff, decide_eq_true_iff]
  omega
theorem ch_snoc {ns cs : List Int} {n c : Int} (hc : isCh ns cs) (h0 : 0 ≤ c) (h1 : c < n) : isCh (ns ++ [n]) (cs ++ [c]) := by
  refine ⟨by rw [List.length_append, List.length_append, hc.1]; rfl, fun p hp => ?_⟩
  rw [List.zip_append hc.1] at hp
  rcases List.mem_append.mp hp with h | h
  · exact hc.2 p h
  · have h : p ∈ [(c, n)] := h
    rw [List.mem_singleton.mp h]
    exact ⟨h0, h1⟩
theorem prodL_le : ∀ {rest : List Int} {done : List Int}, (∀ n ∈ done ++ rest, 1 ≤ n ∧ n ≤ 12) → prodL done ≤ prodL (done ++ rest) := by
  intro rest
  induction rest with
  | nil => intro done _; rw [List.append_nil]; exact Int.le_refl _
  | cons n rest ih =>
    intro done h
    have e : done ++ n :: rest = (done ++ [n]) ++ rest := by rw [List.append_assoc]; rfl
    have := ih (done := done ++ [n]) (by rw [← e]; exact h)
    rw [← e, prodL_app] at this
    have hp := prodL_pos (ns := done) fun x hx => h x (List.mem_append_left _ hx)
    have hn := (h n (by simp)).1
    have := Int.mul_le_mul_of_nonneg_left hn (by omega : 0 ≤ prodL done)
    omega
def chD (cs : List Int) : PyData := .tuple (cs.map .int)
theorem all_ok {most many : Int} {ns : List Int} (h : Sizes most many ns) (hm : most ≤ 10000) (hy : many ≤ 20) : W (mf__law_all [.val (.tuple (ns.map .int))]) fun e outs => ∃ css : List (List Int), e = .val (.list (css.map chD)) ∧ (∀ cs ∈ css, isCh ns cs) ∧ css.length ≤ 10000 ∧ outs = [.no] := by
  simp (config := {maxSteps := 1000000}) only [mf__law_all, mb__law_all, mb__law_all_3, Fj.wp0, Fj.wp1, Fj.wp2, Fj.wp3, Fj.wp4, Fj.wp5, Fj.wp6, Fj.wp7, Fj.wp8, Fj.wp9, Fj.wp10, Fj.wp11, Fj.wp12, Fj.wp13, Fj.wp14, Fj.wp15, Fj.wp16, Fj.wp17, Fj.wp18, Fj.wp19, Fj.wp20, Fj.wp21, Fj.wpz, Fj.tyN, Int.reduceEq, Int.reduceLT, Int.reduceLE, Int.reduceAdd, Int.reduceSub, Int.reduceMul, Int.reduceNeg, Int.reducePow, Int.reduceToNat, Int.reduceMod, Int.reduceDiv, Int.reduceNe, Nat.reduceEqDiff, Nat.reduceMul, borOk, dkAll, dkKept, nlD, nlAll, id, frz, freeE, outsE, pick, merE, wipeE, Nat.reduceAdd, Nat.reduceSub, Nat.reduceLeDiff, Nat.reduceLT, reduceCtorEq, if_true, if_false, eq_self, forall_const, Bool.false_and]
  refine w_forL (fun xs ρ => ∃ (done rest : List Int) (css : List (List Int)) (e2 e3 e4 : Ent), ns = done ++ rest ∧ xs = rest.map .int ∧ (∀ cs ∈ css, isCh done cs) ∧ (css.length : Int) = prodL done ∧ Pl e2 ∧ Pl e3 ∧ Pl e4 ∧ ρ = [.val (.tuple (ns.map .int)), .val (.list (css.map chD)), e2, e3, e4, .no]) ?_ ?_ _ _ ⟨[], ns, [[]], _, _, _, rfl, rfl, fun cs hc => by rw [List.mem_singleton.mp hc]; exact ⟨rfl, fun p hp => (List.not_mem_nil hp).elim⟩, rfl, .no, .no, .no, rfl⟩
  · rintro x xs ρ ⟨done, rest, css, e2, e3, e4, g1, e, g2, g3, p2, p3, p4, rfl⟩
    cases rest with
    | nil => cases e
    | cons z rest =>
    cases e
    have hz := h.at12 z (by rw [g1]; simp)
    have hle : prodL (done ++ [z]) ≤ 10000 := by
      have e : ns = (done ++ [z]) ++ rest := by rw [g1, List.append_assoc]; rfl
      have h1 := prodL_le (done := done ++ [z]) (rest := rest) (by rw [← e]; exact h.at12)
      rw [← e] at h1
      have := h.prod
      omega
    rw [prodL_app, ← g3] at hle
    simp (config := {maxSteps := 1000000}) only [p2.all, p3.all, p4.all, mb__law_all_2, Fj.wp0, Fj.wp1, Fj.wp2, Fj.wp3, Fj.wp4, Fj.wp5, Fj.wp6, Fj.wp7, Fj.wp8, Fj.wp9, Fj.wp10, Fj.wp11, Fj.wp12, Fj.wp13, Fj.wp14, Fj.wp15, Fj.wp16, Fj.wp17, Fj.wp18, Fj.wp19, Fj.wp20, Fj.wp21, Fj.wpz, Fj.tyN, Int.reduceEq, Int.reduceLT, Int.reduceLE, Int.reduceAdd, Int.reduceSub, Int.reduceMul, Int.reduceNeg, Int.reducePow, Int.reduceToNat, Int.reduceMod, Int.reduceDiv, Int.reduceNe, Nat.reduceEqDiff, Nat.reduceMul, borOk, dkAll, dkKept, nlD, nlAll, id, frz, freeE, outsE, pick, merE, wipeE, Nat.reduceAdd, Nat.reduceSub, Nat.reduceLeDiff, Nat.reduceLT, reduceCtorEq, if_true, if_false, eq_self, forall_const, Bool.false_and]
    refine w_forL (fun ys ρ => ∃ (dn rs acc : List (List Int)) (e4 : Ent), css = dn ++ rs ∧ ys = rs.map chD ∧ (∀ cs ∈ acc, isCh (done ++ [z]) cs) ∧ (acc.length : Int) = dn.length * z ∧ Pl e4 ∧ ρ = [.val (.tuple (ns.map .int)), .val (.list (css.map chD)), .val (.int z), .own true (.lst (acc.map chD)), e4, .no]) ?_ ?_ _ _ ⟨[], css, [], _, rfl, rfl, fun c hc => (List.not_mem_nil hc).elim, by simp, p4, rfl⟩
    · rintro y ys ρ ⟨dn, rs, acc, e4, f1, ef, f2, f3, p4, rfl⟩
      cases rs with
      | nil => cases ef
      | cons cs rs =>
      cases ef
      have hcs := g2 cs (by rw [f1]; simp)
      have hb : (acc.length : Int) + z ≤ 10000 := by
        have h1 : dn.length + 1 ≤ css.length := by rw [f1, List.length_append, List.length_cons]; omega
        have h2 := Int.mul_le_mul_of_nonneg_right (show ((dn.length : Int) + 1) ≤ css.length by omega) (by omega : 0 ≤ z)
        rw [Int.add_mul, Int.one_mul] at h2
        omega
      simp (config := {maxSteps := 1000000}) only [p4.all, lc__law_all_1, rngD_map, Fj.wp0, Fj.wp1, Fj.wp2, Fj.wp3, Fj.wp4, Fj.wp5, Fj.wp6, Fj.wp7, Fj.wp8, Fj.wp9, Fj.wp10, Fj.wp11, Fj.wp12, Fj.wp13, Fj.wp14, Fj.wp15, Fj.wp16, Fj.wp17, Fj.wp18, Fj.wp19, Fj.wp20, Fj.wp21, Fj.wpz, Fj.tyN, Int.reduceEq, Int.reduceLT, Int.reduceLE, Int.reduceAdd, Int.reduceSub, Int.reduceMul, Int.reduceNeg, Int.reducePow, Int.reduceToNat, Int.reduceMod, Int.reduceDiv, Int.reduceNe, Nat.reduceEqDiff, Nat.reduceMul, borOk, dkAll, dkKept, nlD, nlAll, id, frz, freeE, outsE, pick, merE, wipeE, Nat.reduceAdd, Nat.reduceSub, Nat.reduceLeDiff, Nat.reduceLT, reduceCtorEq, if_true, if_false, eq_self, forall_const, Bool.false_and]
      refine ⟨by omega, ?_⟩
      refine w_lcMap (fun i : Nat => PyData.int (0 + (i : Int))) (fun i : Nat => chD (cs ++ [(i : Int)])) (fun i hi => ?_) (by rw [List.length_range]; omega) ?_
      · simp (config := {maxSteps := 1000000}) only [chD, Int.zero_add, List.map_append, List.length_map, Fj.wp0, Fj.wp1, Fj.wp2, Fj.wp3, Fj.wp4, Fj.wp5, Fj.wp6, Fj.wp7, Fj.wp8, Fj.wp9, Fj.wp10, Fj.wp11, Fj.wp12, Fj.wp13, Fj.wp14, Fj.wp15, Fj.wp16, Fj.wp17, Fj.wp18, Fj.wp19, Fj.wp20, Fj.wp21, Fj.wpz, Fj.tyN, Int.reduceEq, Int.reduceLT, Int.reduceLE, Int.reduceAdd, Int.reduceSub, Int.reduceMul, Int.reduceNeg, Int.reducePow, Int.reduceToNat, Int.reduceMod, Int.reduceDiv, Int.reduceNe, Nat.reduceEqDiff, Nat.reduceMul, borOk, dkAll, dkKept, nlD, nlAll, id, frz, freeE, outsE, pick, merE, wipeE, Nat.reduceAdd, Nat.reduceSub, Nat.reduceLeDiff, Nat.reduceLT, reduceCtorEq, if_true, if_false, eq_self, forall_const, Bool.false_and]
        have h1 := hcs.1
        have h2 := h.len
        have h3 := congrArg List.length g1
        rw [List.length_append] at h3
        omega
      · simp (config := {maxSteps := 1000000}) only [List.length_map, List.length_range, List.length_append, Fj.wp0, Fj.wp1, Fj.wp2, Fj.wp3, Fj.wp4, Fj.wp5, Fj.wp6, Fj.wp7, Fj.wp8, Fj.wp9, Fj.wp10, Fj.wp11, Fj.wp12, Fj.wp13, Fj.wp14, Fj.wp15, Fj.wp16, Fj.wp17, Fj.wp18, Fj.wp19, Fj.wp20, Fj.wp21, Fj.wpz, Fj.tyN, Int.reduceEq, Int.reduceLT, Int.reduceLE, Int.reduceAdd, Int.reduceSub, Int.reduceMul, Int.reduceNeg, Int.reducePow, Int.reduceToNat, Int.reduceMod, Int.reduceDiv, Int.reduceNe, Nat.reduceEqDiff, Nat.reduceMul, borOk, dkAll, dkKept, nlD, nlAll, id, frz, freeE, outsE, pick, merE, wipeE, Nat.reduceAdd, Nat.reduceSub, Nat.reduceLeDiff, Nat.reduceLT, reduceCtorEq, if_true, if_false, eq_self, forall_const, Bool.false_and]
        refine ⟨by omega, dn ++ [cs], rs, acc ++ (List.range z.toNat).map (fun i : Nat => cs ++ [(i : Int)]), .val (chD cs), by rw [f1, List.append_assoc]; rfl, rfl, fun c hc => ?_, ?_, .val, ?_⟩
        · rcases List.mem_append.mp hc with q | q
          · exact f2 c q
          · obtain ⟨i, hi, rfl⟩ := List.mem_map.mp q
            have := List.mem_range.mp hi
            exact ch_snoc hcs (by omega) (by omega)
        · rw [List.length_append, List.length_append, List.length_map, List.length_range, List.length_singleton]
          have e1 : ((dn.length + 1 : Nat) : Int) * z = dn.length * z + z := by
            rw [show ((dn.length + 1 : Nat) : Int) = (dn.length : Int) + 1 by omega, Int.add_mul, Int.one_mul]
          rw [e1, ← f3]
          omega
        · rw [List.map_append, List.map_map]
          rfl
    · rintro ρ ⟨dn, rs, acc, e4, f1, ef, f2, f3, p4, rfl⟩
      have : rs = [] := List.map_eq_nil_iff.mp ef.symm
      subst this
      rw [List.append_nil] at f1
      subst f1
      simp (config := {maxSteps := 1000000}) only [p4.all, Fj.wp0, Fj.wp1, Fj.wp2, Fj.wp3, Fj.wp4, Fj.wp5, Fj.wp6, Fj.wp7, Fj.wp8, Fj.wp9, Fj.wp10, Fj.wp11, Fj.wp12, Fj.wp13, Fj.wp14, Fj.wp15, Fj.wp16, Fj.wp17, Fj.wp18, Fj.wp19, Fj.wp20, Fj.wp21, Fj.wpz, Fj.tyN, Int.reduceEq, Int.reduceLT, Int.reduceLE, Int.reduceAdd, Int.reduceSub, Int.reduceMul, Int.reduceNeg, Int.reducePow, Int.reduceToNat, Int.reduceMod, Int.reduceDiv, Int.reduceNe, Nat.reduceEqDiff, Nat.reduceMul, borOk, dkAll, dkKept, nlD, nlAll, id, frz, freeE, outsE, pick, merE, wipeE, Nat.reduceAdd, Nat.reduceSub, Nat.reduceLeDiff, Nat.reduceLT, reduceCtorEq, if_true, if_false, eq_self, forall_const, Bool.false_and]
      exact ⟨done ++ [z], rest, acc, _, _, _, by rw [g1, List.append_assoc]; rfl, rfl, f2, by rw [f3, prodL_app, g3], .val, .val, p4, rfl⟩
  · rintro ρ ⟨done, rest, css, e2, e3, e4, g1, e, g2, g3, p2, p3, p4, rfl⟩
    have : rest = [] := List.map_eq_nil_iff.mp e.symm
    subst this
    rw [List.append_nil] at g1
    subst g1
    have := h.prod
    simp (config := {maxSteps := 1000000}) only [p2.all, p3.all, p4.all, Fj.wp0, Fj.wp1, Fj.wp2, Fj.wp3, Fj.wp4, Fj.wp5, Fj.wp6, Fj.wp7, Fj.wp8, Fj.wp9, Fj.wp10, Fj.wp11, Fj.wp12, Fj.wp13, Fj.wp14, Fj.wp15, Fj.wp16, Fj.wp17, Fj.wp18, Fj.wp19, Fj.wp20, Fj.wp21, Fj.wpz, Fj.tyN, Int.reduceEq, Int.reduceLT, Int.reduceLE, Int.reduceAdd, Int.reduceSub, Int.reduceMul, Int.reduceNeg, Int.reducePow, Int.reduceToNat, Int.reduceMod, Int.reduceDiv, Int.reduceNe, Nat.reduceEqDiff, Nat.reduceMul, borOk, dkAll, dkKept, nlD, nlAll, id, frz, freeE, outsE, pick, merE, wipeE, Nat.reduceAdd, Nat.reduceSub, Nat.reduceLeDiff, Nat.reduceLT, reduceCtorEq, if_true, if_false, eq_self, forall_const, Bool.false_and]
    exact ⟨css, rfl, g2, by omega⟩
theorem law_all_eq {most many : Int} {ns : List Int} (h : Sizes most many ns) (hm : most ≤ 10000) (hy : many ≤ 20) : ∃ css : List (List Int), mf__law_all [.val (.tuple (ns.map .int))] = some (.val (.list (css.map chD)), [.no]) ∧ (∀ cs ∈ css, isCh ns cs) ∧ css.length ≤ 10000 := by
  obtain ⟨e, outs, he, css, rfl, h1, h2, rfl⟩ := (all_ok h hm hy).at_
  exact ⟨css, he, h1, h2⟩
def right (cs : List Int) (bs : List PyData) : Bool := bs.all fun b => !meet cs b
theorem rights_ok {most many : Int} {ns : List Int} {bs : List PyData} (h : Prob most many ns bs) (hm : most ≤ 10000) (hy : many ≤ 20) : ∃ css : List (List Int), mf__law_rights [.val (.tuple [.tuple (ns.map .int), .tuple bs])] = some (.own true (.lst (css.map chD)), [.no]) ∧ (∀ cs ∈ css, isCh ns cs) ∧ css.length ≤ 10000 := by
  obtain ⟨css, he, h1, h2⟩ := law_all_eq h.sz hm hy
  have hln : ns.length ≤ 20 := by
    have := h.sz.len
    omega
  have hbl := h.len
  refine ⟨css.filter (right · bs), W_eq ?_, fun cs hc => h1 cs (List.mem_filter.mp hc).1, Nat.le_trans (List.length_filter_le ..) h2⟩
  simp (config := {maxSteps := 1000000}) only [mf__law_rights, mb__law_rights, lc__law_rights_2, he, Fj.wp0, Fj.wp1, Fj.wp2, Fj.wp3, Fj.wp4, Fj.wp5, Fj.wp6, Fj.wp7, Fj.wp8, Fj.wp9, Fj.wp10, Fj.wp11, Fj.wp12, Fj.wp13, Fj.wp14, Fj.wp15, Fj.wp16, Fj.wp17, Fj.wp18, Fj.wp19, Fj.wp20, Fj.wp21, Fj.wpz, Fj.tyN, Int.reduceEq, Int.reduceLT, Int.reduceLE, Int.reduceAdd, Int.reduceSub, Int.reduceMul, Int.reduceNeg, Int.reducePow, Int.reduceToNat, Int.reduceMod, Int.reduceDiv, Int.reduceNe, Nat.reduceEqDiff, Nat.reduceMul, borOk, dkAll, dkKept, nlD, nlAll, id, frz, freeE, outsE, pick, merE, wipeE, Nat.reduceAdd, Nat.reduceSub, Nat.reduceLeDiff, Nat.reduceLT, reduceCtorEq, if_true, if_false, eq_self, forall_const, Bool.false_and]
  refine w_lcFil chD (fun cs => right cs bs) chD (fun cs hc => ?_) (by omega) ?_
  · simp (config := {maxSteps := 1000000}) only [lc__law_rights_1, Fj.wp0, Fj.wp1, Fj.wp2, Fj.wp3, Fj.wp4, Fj.wp5, Fj.wp6, Fj.wp7, Fj.wp8, Fj.wp9, Fj.wp10, Fj.wp11, Fj.wp12, Fj.wp13, Fj.wp14, Fj.wp15, Fj.wp16, Fj.wp17, Fj.wp18, Fj.wp19, Fj.wp20, Fj.wp21, Fj.wpz, Fj.tyN, Int.reduceEq, Int.reduceLT, Int.reduceLE, Int.reduceAdd, Int.reduceSub, Int.reduceMul, Int.reduceNeg, Int.reducePow, Int.reduceToNat, Int.reduceMod, Int.reduceDiv, Int.reduceNe, Nat.reduceEqDiff, Nat.reduceMul, borOk, dkAll, dkKept, nlD, nlAll, id, frz, freeE, outsE, pick, merE, wipeE, Nat.reduceAdd, Nat.reduceSub, Nat.reduceLeDiff, Nat.reduceLT, reduceCtorEq, if_true, if_false, eq_self, forall_const, Bool.false_and]
    refine w_lcFilD (fun b => meet cs b) id (fun b hb => ?_) (by omega) ?_
    · have hq := q_meets (h1 cs hc) (h.bars b hb) (bar_sm h.sz.at12 hln (h.bars b hb)).shOf
      cases hh : meet cs b <;> rw [hh] at hq <;> simp (config := {maxSteps := 1000000}) only [chD, hq, Fj.wp0, Fj.wp1, Fj.wp2, Fj.wp3, Fj.wp4, Fj.wp5, Fj.wp6, Fj.wp7, Fj.wp8, Fj.wp9, Fj.wp10, Fj.wp11, Fj.wp12, Fj.wp13, Fj.wp14, Fj.wp15, Fj.wp16, Fj.wp17, Fj.wp18, Fj.wp19, Fj.wp20, Fj.wp21, Fj.wpz, Fj.tyN, Int.reduceEq, Int.reduceLT, Int.reduceLE, Int.reduceAdd, Int.reduceSub, Int.reduceMul, Int.reduceNeg, Int.reducePow, Int.reduceToNat, Int.reduceMod, Int.reduceDiv, Int.reduceNe, Nat.reduceEqDiff, Nat.reduceMul, borOk, dkAll, dkKept, nlD, nlAll, id, frz, freeE, outsE, pick, merE, wipeE, Nat.reduceAdd, Nat.reduceSub, Nat.reduceLeDiff, Nat.reduceLT, reduceCtorEq, if_true, if_false, eq_self, forall_const, Bool.false_and]
    · have e1 : ((bs.filter fun b => meet cs b).map id).isEmpty = right cs bs := by
        have := all_notempty (fun b => !meet cs b) id bs
        simp only [Bool.not_not] at this
        exact this
      cases hh : right cs bs <;> rw [hh] at e1 <;> simp (config := {maxSteps := 1000000}) only [e1, Fj.wp0, Fj.wp1, Fj.wp2, Fj.wp3, Fj.wp4, Fj.wp5, Fj.wp6, Fj.wp7, Fj.wp8, Fj.wp9, Fj.wp10, Fj.wp11, Fj.wp12, Fj.wp13, Fj.wp14, Fj.wp15, Fj.wp16, Fj.wp17, Fj.wp18, Fj.wp19, Fj.wp20, Fj.wp21, Fj.wpz, Fj.tyN, Int.reduceEq, Int.reduceLT, Int.reduceLE, Int.reduceAdd, Int.reduceSub, Int.reduceMul, Int.reduceNeg, Int.reducePow, Int.reduceToNat, Int.reduceMod, Int.reduceDiv, Int.reduceNe, Nat.reduceEqDiff, Nat.reduceMul, borOk, dkAll, dkKept, nlD, nlAll, id, frz, freeE, outsE, pick, merE, wipeE, Nat.reduceAdd, Nat.reduceSub, Nat.reduceLeDiff, Nat.reduceLT, reduceCtorEq, if_true, if_false, eq_self, forall_const, Bool.false_and]
  · simp (config := {maxSteps := 1000000}) only [Fj.wp0, Fj.wp1, Fj.wp2, Fj.wp3, Fj.wp4, Fj.wp5, Fj.wp6, Fj.wp7, Fj.wp8, Fj.wp9, Fj.wp10, Fj.wp11, Fj.wp12, Fj.wp13, Fj.wp14, Fj.wp15, Fj.wp16, Fj.wp17, Fj.wp18, Fj.wp19, Fj.wp20, Fj.wp21, Fj.wpz, Fj.tyN, Int.reduceEq, Int.reduceLT, Int.reduceLE, Int.reduceAdd, Int.reduceSub, Int.reduceMul, Int.reduceNeg, Int.reducePow, Int.reduceToNat, Int.reduceMod, Int.reduceDiv, Int.reduceNe, Nat.reduceEqDiff, Nat.reduceMul, borOk, dkAll, dkKept, nlD, nlAll, id, frz, freeE, outsE, pick, merE, wipeE, Nat.reduceAdd, Nat.reduceSub, Nat.reduceLeDiff, Nat.reduceLT, reduceCtorEq, if_true, if_false, eq_self, forall_const, Bool.false_and]
end L_k36

set_option maxRecDepth 100000
set_option maxHeartbeats 0
set_option linter.all false
set_option linter.unusedSimpArgs false
namespace L_k36
open PySem PySem.Spec PyProof.Rows L2 Fj
section
variable {most many : Int} {ns cs : List Int} {bs : List PyData}
theorem p_right (h : Prob most many ns bs) (hy : many ≤ 20) (hc : isCh ns cs) : mf_is_right_value [.val (.tuple [.tuple (ns.map .int), .tuple bs]), .val (.tuple (cs.map .int))] = some (.val (.bool (right cs bs)), [.no, .no]) := by
  have hln : ns.length ≤ 20 := by
    have := h.sz.len
    omega
  have hbl := h.len
  refine W_eq ?_
  simp (config := {maxSteps := 1000000}) only [mf_is_right_value, mb_is_right_value, lc_is_right_value_1, Fj.wp0, Fj.wp1, Fj.wp2, Fj.wp3, Fj.wp4, Fj.wp5, Fj.wp6, Fj.wp7, Fj.wp8, Fj.wp9, Fj.wp10, Fj.wp11, Fj.wp12, Fj.wp13, Fj.wp14, Fj.wp15, Fj.wp16, Fj.wp17, Fj.wp18, Fj.wp19, Fj.wp20, Fj.wp21, Fj.wpz, Fj.tyN, Int.reduceEq, Int.reduceLT, Int.reduceLE, Int.reduceAdd, Int.reduceSub, Int.reduceMul, Int.reduceNeg, Int.reducePow, Int.reduceToNat, Int.reduceMod, Int.reduceDiv, Int.reduceNe, Nat.reduceEqDiff, Nat.reduceMul, borOk, dkAll, dkKept, nlD, nlAll, id, frz, freeE, outsE, pick, merE, wipeE, Nat.reduceAdd, Nat.reduceSub, Nat.reduceLeDiff, Nat.reduceLT, reduceCtorEq, if_true, if_false, eq_self, forall_const, Bool.false_and]
  refine w_lcMapD (fun b => .bool (meet cs b)) (fun b hb => ?_) (by omega) ?_
  · have hq := p_meets hc (h.bars b hb) (bar_sm h.sz.at12 hln (h.bars b hb)).shOf
    simp (config := {maxSteps := 1000000}) only [hq, Fj.wp0, Fj.wp1, Fj.wp2, Fj.wp3, Fj.wp4, Fj.wp5, Fj.wp6, Fj.wp7, Fj.wp8, Fj.wp9, Fj.wp10, Fj.wp11, Fj.wp12, Fj.wp13, Fj.wp14, Fj.wp15, Fj.wp16, Fj.wp17, Fj.wp18, Fj.wp19, Fj.wp20, Fj.wp21, Fj.wpz, Fj.tyN, Int.reduceEq, Int.reduceLT, Int.reduceLE, Int.reduceAdd, Int.reduceSub, Int.reduceMul, Int.reduceNeg, Int.reducePow, Int.reduceToNat, Int.reduceMod, Int.reduceDiv, Int.reduceNe, Nat.reduceEqDiff, Nat.reduceMul, borOk, dkAll, dkKept, nlD, nlAll, id, frz, freeE, outsE, pick, merE, wipeE, Nat.reduceAdd, Nat.reduceSub, Nat.reduceLeDiff, Nat.reduceLT, reduceCtorEq, if_true, if_false, eq_self, forall_const, Bool.false_and]
  · have e1 : (!((bs.map fun b => meet cs b).any id)) = right cs bs := by
      rw [List.any_map]
      unfold right
      rw [Bool.eq_iff_iff]
      simp
    simp (config := {maxSteps := 1000000}) only [g_boolsF, e1, Fj.wp0, Fj.wp1, Fj.wp2, Fj.wp3, Fj.wp4, Fj.wp5, Fj.wp6, Fj.wp7, Fj.wp8, Fj.wp9, Fj.wp10, Fj.wp11, Fj.wp12, Fj.wp13, Fj.wp14, Fj.wp15, Fj.wp16, Fj.wp17, Fj.wp18, Fj.wp19, Fj.wp20, Fj.wp21, Fj.wpz, Fj.tyN, Int.reduceEq, Int.reduceLT, Int.reduceLE, Int.reduceAdd, Int.reduceSub, Int.reduceMul, Int.reduceNeg, Int.reducePow, Int.reduceToNat, Int.reduceMod, Int.reduceDiv, Int.reduceNe, Nat.reduceEqDiff, Nat.reduceMul, borOk, dkAll, dkKept, nlD, nlAll, id, frz, freeE, outsE, pick, merE, wipeE, Nat.reduceAdd, Nat.reduceSub, Nat.reduceLeDiff, Nat.reduceLT, reduceCtorEq, if_true, if_false, eq_self, forall_const, Bool.false_and]
theorem need_choice_eq (h : Prob most many ns bs) (hy : many ≤ 20) (hc : isCh ns cs) : mf_need_choice [.val (.tuple [.tuple (ns.map .int), .tuple bs]), .val (.tuple (cs.map .int))] = some (.val .none, [.no, .no]) := by
  refine W_eq ?_
  have h1 := need_problem_eq _ (prob_sm h hy).shOf (prob_ok h)
  have h2 := p_choice ns (by have := h.sz.len; omega) (.tuple (cs.map .int))
  rw [ch_ok hc] at h2
  simp (config := {maxSteps := 1000000}) only [mf_need_choice, mb_need_choice, mb_need_choice_1, h1, h2, Fj.wp0, Fj.wp1, Fj.wp2, Fj.wp3, Fj.wp4, Fj.wp5, Fj.wp6, Fj.wp7, Fj.wp8, Fj.wp9, Fj.wp10, Fj.wp11, Fj.wp12, Fj.wp13, Fj.wp14, Fj.wp15, Fj.wp16, Fj.wp17, Fj.wp18, Fj.wp19, Fj.wp20, Fj.wp21, Fj.wpz, Fj.tyN, Int.reduceEq, Int.reduceLT, Int.reduceLE, Int.reduceAdd, Int.reduceSub, Int.reduceMul, Int.reduceNeg, Int.reducePow, Int.reduceToNat, Int.reduceMod, Int.reduceDiv, Int.reduceNe, Nat.reduceEqDiff, Nat.reduceMul, borOk, dkAll, dkKept, nlD, nlAll, id, frz, freeE, outsE, pick, merE, wipeE, Nat.reduceAdd, Nat.reduceSub, Nat.reduceLeDiff, Nat.reduceLT, reduceCtorEq, if_true, if_false, eq_self, forall_const, Bool.false_and]
theorem is_right_eq (h : Prob most many ns bs) (hy : many ≤ 20) (hc : isCh ns cs) : mf_is_right_choice [.val (.tuple [.tuple (ns.map .int), .tuple bs]), .val (.tuple (cs.map .int))] = some (.val (.bool (right cs bs)), [.no, .no]) := by
  refine W_eq ?_
  simp (config := {maxSteps := 1000000}) only [mf_is_right_choice, mb_is_right_choice, need_choice_eq h hy hc, p_right h hy hc, Fj.wp0, Fj.wp1, Fj.wp2, Fj.wp3, Fj.wp4, Fj.wp5, Fj.wp6, Fj.wp7, Fj.wp8, Fj.wp9, Fj.wp10, Fj.wp11, Fj.wp12, Fj.wp13, Fj.wp14, Fj.wp15, Fj.wp16, Fj.wp17, Fj.wp18, Fj.wp19, Fj.wp20, Fj.wp21, Fj.wpz, Fj.tyN, Int.reduceEq, Int.reduceLT, Int.reduceLE, Int.reduceAdd, Int.reduceSub, Int.reduceMul, Int.reduceNeg, Int.reducePow, Int.reduceToNat, Int.reduceMod, Int.reduceDiv, Int.reduceNe, Nat.reduceEqDiff, Nat.reduceMul, borOk, dkAll, dkKept, nlD, nlAll, id, frz, freeE, outsE, pick, merE, wipeE, Nat.reduceAdd, Nat.reduceSub, Nat.reduceLeDiff, Nat.reduceLT, reduceCtorEq, if_true, if_false, eq_self, forall_const, Bool.false_and]
theorem does_meet_eq (h : Prob most many ns bs) (hy : many ≤ 20) (hc : isCh ns cs) {b : PyData} (hb : oBar ns b = true) : mf_does_meet [.val (.tuple [.tuple (ns.map .int), .tuple bs]), .val (.tuple (cs.map .int)), .val b] = some (.val (.bool (meet cs b)), [.no, .no, .no]) := by
  have hln : ns.length ≤ 20 := by
    have := h.sz.len
    omega
  have hs := (bar_sm h.sz.at12 hln hb).shOf
  refine W_eq ?_
  have h1 := p_bar ns (by omega) b hs
  have h2 := p_meets hc hb hs
  simp (config := {maxSteps := 1000000}) only [mf_does_meet, mb_does_meet, need_choice_eq h hy hc, mf_need_bar, mb_need_bar, mb_need_bar_1, h1, hb, h2, Fj.wp0, Fj.wp1, Fj.wp2, Fj.wp3, Fj.wp4, Fj.wp5, Fj.wp6, Fj.wp7, Fj.wp8, Fj.wp9, Fj.wp10, Fj.wp11, Fj.wp12, Fj.wp13, Fj.wp14, Fj.wp15, Fj.wp16, Fj.wp17, Fj.wp18, Fj.wp19, Fj.wp20, Fj.wp21, Fj.wpz, Fj.tyN, Int.reduceEq, Int.reduceLT, Int.reduceLE, Int.reduceAdd, Int.reduceSub, Int.reduceMul, Int.reduceNeg, Int.reducePow, Int.reduceToNat, Int.reduceMod, Int.reduceDiv, Int.reduceNe, Nat.reduceEqDiff, Nat.reduceMul, borOk, dkAll, dkKept, nlD, nlAll, id, frz, freeE, outsE, pick, merE, wipeE, Nat.reduceAdd, Nat.reduceSub, Nat.reduceLeDiff, Nat.reduceLT, reduceCtorEq, if_true, if_false, eq_self, forall_const, Bool.false_and]
end
theorem cut_mem {xs : List PyData} {lo hi : Option Int} {d : PyData} (h : d ∈ cutD xs lo hi) : d ∈ xs := by
  unfold Fj.cutD at h
  exact List.mem_of_mem_drop (List.mem_of_mem_take h)
theorem enum_mem : ∀ {xs : List PyData} {k : Nat} {d : PyData}, d ∈ enumD k xs → ∃ (i : Int) (x : PyData), d = .tuple [.int i, x] ∧ x ∈ xs
  | [], k, d, h => (List.not_mem_nil h).elim
  | x :: xs, k, d, h => by
    rcases List.mem_cons.mp h with e | e
    · exact ⟨_, x, e, List.mem_cons_self ..⟩
    · obtain ⟨i, y, h1, h2⟩ := enum_mem e
      exact ⟨i, y, h1, List.mem_cons_of_mem _ h2⟩
theorem cut_to (xs : List PyData) (k : Nat) : (cutD xs none (some (k : Int))).length ≤ k := by
  rw [cut_take, List.length_take]
  omega
theorem enum_len : ∀ (xs : List PyData) (k : Nat), (enumD k xs).length = xs.length
  | [], _ => rfl
  | _ :: xs, k => congrArg Nat.succ (enum_len xs (k + 1))
theorem meet_nil (cs : List Int) : meet cs (.tuple []) = true := rfl
theorem meets_ok : Dk 400000000 mf__law_are_meetings [] fun e => e = .val (.bool true) := by
  intro n l m t hd hn
  simp (config := {maxSteps := 1000000}) only [mf__law_are_meetings, mb__law_are_meetings, mb__law_are_meetings_7, Fj.wp0, Fj.wp1, Fj.wp2, Fj.wp3, Fj.wp4, Fj.wp5, Fj.wp6, Fj.wp7, Fj.wp8, Fj.wp9, Fj.wp10, Fj.wp11, Fj.wp12, Fj.wp13, Fj.wp14, Fj.wp15, Fj.wp16, Fj.wp17, Fj.wp18, Fj.wp19, Fj.wp20, Fj.wp21, Fj.wpz, Fj.tyN, Int.reduceEq, Int.reduceLT, Int.reduceLE, Int.reduceAdd, Int.reduceSub, Int.reduceMul, Int.reduceNeg, Int.reducePow, Int.reduceToNat, Int.reduceMod, Int.reduceDiv, Int.reduceNe, Nat.reduceEqDiff, Nat.reduceMul, borOk, dkAll, dkKept, nlD, nlAll, id, frz, freeE, outsE, pick, merE, wipeE, Nat.reduceAdd, Nat.reduceSub, Nat.reduceLeDiff, Nat.reduceLT, reduceCtorEq, if_true, if_false, eq_self, forall_const, Bool.false_and]
  refine w_forL (fun xs ρ => ∃ l' m' t' n' e1 e2 e3 e4 e5 e6 e7 e8 e9, (∃ js : List Int, xs = js.map .int) ∧ n' + 120000000 * xs.length = n + 360000000 ∧ DkOk n' l' m' t' ∧ Pl e1 ∧ Pl e2 ∧ Pl e3 ∧ Pl e4 ∧ Pl e5 ∧ Pl e6 ∧ Pl e7 ∧ Pl e8 ∧ Pl e9 ∧ ρ = [.own false (.deck 1 l' m' t'), e1, e2, e3, e4, e5, e6, e7, e8, e9]) ?_ ?_ _ _ ⟨l, m, t, n, _, _, _, _, _, _, _, _, _, ⟨[0, 1, 2], rfl⟩, rfl, hd, .no, .no, .no, .no, .no, .no, .no, .no, .no, rfl⟩
  · rintro x xs ρ ⟨l', m', t', n', e1, e2, e3, e4, e5, e6, e7, e8, e9, ⟨js, ej⟩, g1, g2, p1, p2, p3, p4, p5, p6, p7, p8, p9, rfl⟩
    cases js with
    | nil => cases ej
    | cons j js =>
    cases ej
    rw [List.length_cons] at g1
    simp (config := {maxSteps := 1000000}) only [p1.all, p2.all, p3.all, p4.all, p5.all, p6.all, p7.all, p8.all, p9.all, Fj.wp0, Fj.wp1, Fj.wp2, Fj.wp3, Fj.wp4, Fj.wp5, Fj.wp6, Fj.wp7, Fj.wp8, Fj.wp9, Fj.wp10, Fj.wp11, Fj.wp12, Fj.wp13, Fj.wp14, Fj.wp15, Fj.wp16, Fj.wp17, Fj.wp18, Fj.wp19, Fj.wp20, Fj.wp21, Fj.wpz, Fj.tyN, Int.reduceEq, Int.reduceLT, Int.reduceLE, Int.reduceAdd, Int.reduceSub, Int.reduceMul, Int.reduceNeg, Int.reducePow, Int.reduceToNat, Int.reduceMod, Int.reduceDiv, Int.reduceNe, Nat.reduceEqDiff, Nat.reduceMul, borOk, dkAll, dkKept, nlD, nlAll, id, frz, freeE, outsE, pick, merE, wipeE, Nat.reduceAdd, Nat.reduceSub, Nat.reduceLeDiff, Nat.reduceLT, reduceCtorEq, if_true, if_false, eq_self, forall_const, Bool.false_and]
    refine (problem_ok 60 8 (by decide) (by decide) (by decide) (by decide) n' l' m' t' g2 (by omega)).mono ?_
    rintro _ _ ⟨⟨ns, bs, rfl, hp⟩, l2, m2, t2, o, rfl, h2⟩
    have hns : ns.length ≤ 20 := by
      have := hp.sz.len
      omega
    have hsm := prob_sm hp (by decide)
    obtain ⟨css, ea, ca, la⟩ := law_all_eq hp.sz (by decide) (by decide)
    obtain ⟨rss, er, cr, lr⟩ := rights_ok hp (by decide) (by decide)
    simp (config := {maxSteps := 1000000}) only [ea, p1.all, p2.all, p3.all, p4.all, p5.all, p6.all, p7.all, p8.all, p9.all, Fj.wp0, Fj.wp1, Fj.wp2, Fj.wp3, Fj.wp4, Fj.wp5, Fj.wp6, Fj.wp7, Fj.wp8, Fj.wp9, Fj.wp10, Fj.wp11, Fj.wp12, Fj.wp13, Fj.wp14, Fj.wp15, Fj.wp16, Fj.wp17, Fj.wp18, Fj.wp19, Fj.wp20, Fj.wp21, Fj.wpz, Fj.tyN, Int.reduceEq, Int.reduceLT, Int.reduceLE, Int.reduceAdd, Int.reduceSub, Int.reduceMul, Int.reduceNeg, Int.reducePow, Int.reduceToNat, Int.reduceMod, Int.reduceDiv, Int.reduceNe, Nat.reduceEqDiff, Nat.reduceMul, borOk, dkAll, dkKept, nlD, nlAll, id, frz, freeE, outsE, pick, merE, wipeE, Nat.reduceAdd, Nat.reduceSub, Nat.reduceLeDiff, Nat.reduceLT, reduceCtorEq, if_true, if_false, eq_self, forall_const, Bool.false_and]
    refine (shuf_ok (css.map chD) (by rw [List.length_map]; omega) (n' + 60000000) l2 m2 t2 h2 (by omega)).mono ?_
    rintro _ _ ⟨⟨ds1, rfl, pm1⟩, l3, m3, t3, o, rfl, h3⟩
    simp (config := {maxSteps := 1000000}) only [er, p1.all, p2.all, p3.all, p4.all, p5.all, p6.all, p7.all, p8.all, p9.all, Fj.wp0, Fj.wp1, Fj.wp2, Fj.wp3, Fj.wp4, Fj.wp5, Fj.wp6, Fj.wp7, Fj.wp8, Fj.wp9, Fj.wp10, Fj.wp11, Fj.wp12, Fj.wp13, Fj.wp14, Fj.wp15, Fj.wp16, Fj.wp17, Fj.wp18, Fj.wp19, Fj.wp20, Fj.wp21, Fj.wpz, Fj.tyN, Int.reduceEq, Int.reduceLT, Int.reduceLE, Int.reduceAdd, Int.reduceSub, Int.reduceMul, Int.reduceNeg, Int.reducePow, Int.reduceToNat, Int.reduceMod, Int.reduceDiv, Int.reduceNe, Nat.reduceEqDiff, Nat.reduceMul, borOk, dkAll, dkKept, nlD, nlAll, id, frz, freeE, outsE, pick, merE, wipeE, Nat.reduceAdd, Nat.reduceSub, Nat.reduceLeDiff, Nat.reduceLT, reduceCtorEq, if_true, if_false, eq_self, forall_const, Bool.false_and]
    refine (shuf_ok (rss.map chD) (by rw [List.length_map]; omega) (n' + 60100000) l3 m3 t3 h3 (by omega)).mono ?_
    rintro _ _ ⟨⟨ds2, rfl, pm2⟩, l4, m4, t4, o, rfl, h4⟩
    simp (config := {maxSteps := 1000000}) only [p1.all, p2.all, p3.all, p4.all, p5.all, p6.all, p7.all, p8.all, p9.all, mb__law_are_meetings_6, Fj.wp0, Fj.wp1, Fj.wp2, Fj.wp3, Fj.wp4, Fj.wp5, Fj.wp6, Fj.wp7, Fj.wp8, Fj.wp9, Fj.wp10, Fj.wp11, Fj.wp12, Fj.wp13, Fj.wp14, Fj.wp15, Fj.wp16, Fj.wp17, Fj.wp18, Fj.wp19, Fj.wp20, Fj.wp21, Fj.wpz, Fj.tyN, Int.reduceEq, Int.reduceLT, Int.reduceLE, Int.reduceAdd, Int.reduceSub, Int.reduceMul, Int.reduceNeg, Int.reducePow, Int.reduceToNat, Int.reduceMod, Int.reduceDiv, Int.reduceNe, Nat.reduceEqDiff, Nat.reduceMul, borOk, dkAll, dkKept, nlD, nlAll, id, frz, freeE, outsE, pick, merE, wipeE, Nat.reduceAdd, Nat.reduceSub, Nat.reduceLeDiff, Nat.reduceLT, reduceCtorEq, if_true, if_false, eq_self, forall_const, Bool.false_and]
    have c1 : (cutD ds1 none (some 12)).length ≤ 12 := cut_to ds1 12
    have c2 : (cutD ds2 none (some 2)).length ≤ 2 := cut_to ds2 2
    refine ⟨by omega, ?_⟩
    have hel : (enumD 0 (cutD ds1 none (some 12) ++ cutD ds2 none (some 2))).length ≤ 14 := by
      rw [enum_len, List.length_append]
      omega
    have hxs : ∀ d ∈ enumD 0 (cutD ds1 none (some 12) ++ cutD ds2 none (some 2)), ∃ (i : Int) (cs : List Int), d = .tuple [.int i, .tuple (cs.map .int)] ∧ isCh ns cs := fun d hd => by
      obtain ⟨i, x, rfl, hx⟩ := enum_mem hd
      rcases List.mem_append.mp hx with q | q
      · obtain ⟨cs, hc, rfl⟩ := List.mem_map.mp (pm1.mem_iff.mp (cut_mem q))
        exact ⟨i, cs, rfl, ca cs hc⟩
      · obtain ⟨cs, hc, rfl⟩ := List.mem_map.mp (pm2.mem_iff.mp (cut_mem q))
        exact ⟨i, cs, rfl, cr cs hc⟩
    generalize enumD 0 (cutD ds1 none (some 12) ++ cutD ds2 none (some 2)) = zs at hel hxs
    generalize PyData.list (cutD ds1 none (some 12)) = d3
    generalize PyData.list (cutD ds2 none (some 2)) = d4
    clear p1 p2 p3 p4 pm1 pm2 ca cr ea er
    have hbl := hp.len
    refine w_forL (fun ys ρ => ∃ l' m' t' n2 e5 e6 e7 e8 e9, (∀ d ∈ ys, ∃ (i : Int) (cs : List Int), d = .tuple [.int i, .tuple (cs.map .int)] ∧ isCh ns cs) ∧ n2 + 3000001 * ys.length = n' + 60200000 + 3000001 * zs.length ∧ DkOk n2 l' m' t' ∧ Pl e5 ∧ Pl e6 ∧ Pl e7 ∧ Pl e8 ∧ Pl e9 ∧ ρ = [.own false (.deck 1 l' m' t'), .val (.int j), .val (.tuple [.tuple (ns.map .int), .tuple bs]), .val d3, .val d4, e5, e6, e7, e8, e9]) ?_ ?_ _ _ ⟨l4, m4, t4, n' + 60200000, _, _, _, _, _, hxs, rfl, h4, p5, p6, p7, p8, p9, rfl⟩
    · clear p5 p6 p7 p8 p9
      rintro y ys ρ ⟨l5, m5, t5, n2, e5, e6, e7, e8, e9, f1, f2, f3, p5, p6, p7, p8, p9, rfl⟩
      obtain ⟨i, cs, rfl, hc⟩ := f1 _ (List.mem_cons_self ..)
      rw [List.length_cons] at f2
      simp (config := {maxSteps := 1000000}) only [p5.all, p6.all, p7.all, p8.all, p9.all, lc__law_are_meetings_1, Fj.wp0, Fj.wp1, Fj.wp2, Fj.wp3, Fj.wp4, Fj.wp5, Fj.wp6, Fj.wp7, Fj.wp8, Fj.wp9, Fj.wp10, Fj.wp11, Fj.wp12, Fj.wp13, Fj.wp14, Fj.wp15, Fj.wp16, Fj.wp17, Fj.wp18, Fj.wp19, Fj.wp20, Fj.wp21, Fj.wpz, Fj.tyN, Int.reduceEq, Int.reduceLT, Int.reduceLE, Int.reduceAdd, Int.reduceSub, Int.reduceMul, Int.reduceNeg, Int.reducePow, Int.reduceToNat, Int.reduceMod, Int.reduceDiv, Int.reduceNe, Nat.reduceEqDiff, Nat.reduceMul, borOk, dkAll, dkKept, nlD, nlAll, id, frz, freeE, outsE, pick, merE, wipeE, Nat.reduceAdd, Nat.reduceSub, Nat.reduceLeDiff, Nat.reduceLT, reduceCtorEq, if_true, if_false, eq_self, forall_const, Bool.false_and]
      refine w_lcFilD (fun b => meet cs b) id (fun b hb => ?_) (by omega) ?_
      · have hq := q_meets hc (hp.bars b hb) (bar_sm hp.sz.at12 hns (hp.bars b hb)).shOf
        cases hh : meet cs b <;> rw [hh] at hq <;> simp (config := {maxSteps := 1000000}) only [hq, Fj.wp0, Fj.wp1, Fj.wp2, Fj.wp3, Fj.wp4, Fj.wp5, Fj.wp6, Fj.wp7, Fj.wp8, Fj.wp9, Fj.wp10, Fj.wp11, Fj.wp12, Fj.wp13, Fj.wp14, Fj.wp15, Fj.wp16, Fj.wp17, Fj.wp18, Fj.wp19, Fj.wp20, Fj.wp21, Fj.wpz, Fj.tyN, Int.reduceEq, Int.reduceLT, Int.reduceLE, Int.reduceAdd, Int.reduceSub, Int.reduceMul, Int.reduceNeg, Int.reducePow, Int.reduceToNat, Int.reduceMod, Int.reduceDiv, Int.reduceNe, Nat.reduceEqDiff, Nat.reduceMul, borOk, dkAll, dkKept, nlD, nlAll, id, frz, freeE, outsE, pick, merE, wipeE, Nat.reduceAdd, Nat.reduceSub, Nat.reduceLeDiff, Nat.reduceLT, reduceCtorEq, if_true, if_false, eq_self, forall_const, Bool.false_and]
      have e1 : ((bs.filter fun b => meet cs b).map id).isEmpty = right cs bs := by
        have := all_notempty (fun b => !meet cs b) id bs
        simp only [Bool.not_not] at this
        exact this
      have hright := is_right_eq hp (by decide) hc
      have s1 : W1 (mb__law_are_meetings_2 [.own false (.deck 1 l5 m5 t5), .val (.int j), .val (.tuple [.tuple (ns.map .int), .tuple bs]), .val d3, .val d4, .val (.int i), .val (.tuple (cs.map .int)), .val (.bool (right cs bs)), e8, .no]) fun f => f = .nx [.own false (.deck 1 l5 m5 t5), .val (.int j), .val (.tuple [.tuple (ns.map .int), .tuple bs]), .val d3, .val d4, .val (.int i), .val (.tuple (cs.map .int)), .val (.bool (right cs bs)), .val (.bool (right cs bs)), .no] := by
        by_cases h : i % 2 = 0 <;> simp (config := {maxSteps := 1000000}) only [mb__law_are_meetings_2, h, hright, p8.all, Fj.wp0, Fj.wp1, Fj.wp2, Fj.wp3, Fj.wp4, Fj.wp5, Fj.wp6, Fj.wp7, Fj.wp8, Fj.wp9, Fj.wp10, Fj.wp11, Fj.wp12, Fj.wp13, Fj.wp14, Fj.wp15, Fj.wp16, Fj.wp17, Fj.wp18, Fj.wp19, Fj.wp20, Fj.wp21, Fj.wpz, Fj.tyN, Int.reduceEq, Int.reduceLT, Int.reduceLE, Int.reduceAdd, Int.reduceSub, Int.reduceMul, Int.reduceNeg, Int.reducePow, Int.reduceToNat, Int.reduceMod, Int.reduceDiv, Int.reduceNe, Nat.reduceEqDiff, Nat.reduceMul, borOk, dkAll, dkKept, nlD, nlAll, id, frz, freeE, outsE, pick, merE, wipeE, Nat.reduceAdd, Nat.reduceSub, Nat.reduceLeDiff, Nat.reduceLT, reduceCtorEq, if_true, if_false, eq_self, forall_const, Bool.false_and]
      simp (config := {maxSteps := 1000000}) only [e1, p7.all, p8.all, Fj.wp0, Fj.wp1, Fj.wp2, Fj.wp3, Fj.wp4, Fj.wp5, Fj.wp6, Fj.wp7, Fj.wp8, Fj.wp9, Fj.wp10, Fj.wp11, Fj.wp12, Fj.wp13, Fj.wp14, Fj.wp15, Fj.wp16, Fj.wp17, Fj.wp18, Fj.wp19, Fj.wp20, Fj.wp21, Fj.wpz, Fj.tyN, Int.reduceEq, Int.reduceLT, Int.reduceLE, Int.reduceAdd, Int.reduceSub, Int.reduceMul, Int.reduceNeg, Int.reducePow, Int.reduceToNat, Int.reduceMod, Int.reduceDiv, Int.reduceNe, Nat.reduceEqDiff, Nat.reduceMul, borOk, dkAll, dkKept, nlD, nlAll, id, frz, freeE, outsE, pick, merE, wipeE, Nat.reduceAdd, Nat.reduceSub, Nat.reduceLeDiff, Nat.reduceLT, reduceCtorEq, if_true, if_false, eq_self, forall_const, Bool.false_and]
      refine s1.mono ?_
      rintro _ rfl
      simp (config := {maxSteps := 1000000}) only [mb__law_are_meetings_3, q_sameR, Fj.wp0, Fj.wp1, Fj.wp2, Fj.wp3, Fj.wp4, Fj.wp5, Fj.wp6, Fj.wp7, Fj.wp8, Fj.wp9, Fj.wp10, Fj.wp11, Fj.wp12, Fj.wp13, Fj.wp14, Fj.wp15, Fj.wp16, Fj.wp17, Fj.wp18, Fj.wp19, Fj.wp20, Fj.wp21, Fj.wpz, Fj.tyN, Int.reduceEq, Int.reduceLT, Int.reduceLE, Int.reduceAdd, Int.reduceSub, Int.reduceMul, Int.reduceNeg, Int.reducePow, Int.reduceToNat, Int.reduceMod, Int.reduceDiv, Int.reduceNe, Nat.reduceEqDiff, Nat.reduceMul, borOk, dkAll, dkKept, nlD, nlAll, id, frz, freeE, outsE, pick, merE, wipeE, Nat.reduceAdd, Nat.reduceSub, Nat.reduceLeDiff, Nat.reduceLT, reduceCtorEq, if_true, if_false, eq_self, forall_const, Bool.false_and]
      refine (bar_ok ns 8 hp.sz.at12 hns (by decide) n2 l5 m5 t5 f3 (by omega)).mono ?_
      rintro _ _ ⟨⟨ts, rfl, b1, b2⟩, l6, m6, t6, o, rfl, h6⟩
      simp (config := {maxSteps := 1000000}) only [Fj.wp0, Fj.wp1, Fj.wp2, Fj.wp3, Fj.wp4, Fj.wp5, Fj.wp6, Fj.wp7, Fj.wp8, Fj.wp9, Fj.wp10, Fj.wp11, Fj.wp12, Fj.wp13, Fj.wp14, Fj.wp15, Fj.wp16, Fj.wp17, Fj.wp18, Fj.wp19, Fj.wp20, Fj.wp21, Fj.wpz, Fj.tyN, Int.reduceEq, Int.reduceLT, Int.reduceLE, Int.reduceAdd, Int.reduceSub, Int.reduceMul, Int.reduceNeg, Int.reducePow, Int.reduceToNat, Int.reduceMod, Int.reduceDiv, Int.reduceNe, Nat.reduceEqDiff, Nat.reduceMul, borOk, dkAll, dkKept, nlD, nlAll, id, frz, freeE, outsE, pick, merE, wipeE, Nat.reduceAdd, Nat.reduceSub, Nat.reduceLeDiff, Nat.reduceLT, reduceCtorEq, if_true, if_false, eq_self, forall_const, Bool.false_and]
      refine ⟨by omega, ?_⟩
      refine (pickT_ok (n2 + 3000000) l6 m6 t6 _ h6 (by omega) (by simp) (by simp; omega)).mono ?_
      rintro _ _ ⟨b, l7, m7, t7, o, hm, rfl, rfl, h7⟩
      have hb : oBar ns b = true := by
        rcases List.mem_append.mp hm with q | q
        · exact hp.bars b q
        · rcases List.mem_cons.mp q with rfl | q
          · exact b1
          · rw [List.mem_singleton.mp q]
            rfl
      have hdm := does_meet_eq hp (by decide) hc hb
      have hqm := q_meets hc hb (bar_sm hp.sz.at12 hns hb).shOf
      have s2 : W1 (mb__law_are_meetings_4 [.own false (.deck 1 l7 m7 t7), .val (.int j), .val (.tuple [.tuple (ns.map .int), .tuple bs]), .val d3, .val d4, .val (.int i), .val (.tuple (cs.map .int)), .val (.bool (right cs bs)), .val (.bool (right cs bs)), .val b]) fun f => f = .nx [.own false (.deck 1 l7 m7 t7), .val (.int j), .val (.tuple [.tuple (ns.map .int), .tuple bs]), .val d3, .val d4, .val (.int i), .val (.tuple (cs.map .int)), .val (.bool (right cs bs)), .val (.bool (meet cs b)), .val b] := by
        by_cases h : i % 2 = 0 <;> simp (config := {maxSteps := 1000000}) only [mb__law_are_meetings_4, h, hdm, Fj.wp0, Fj.wp1, Fj.wp2, Fj.wp3, Fj.wp4, Fj.wp5, Fj.wp6, Fj.wp7, Fj.wp8, Fj.wp9, Fj.wp10, Fj.wp11, Fj.wp12, Fj.wp13, Fj.wp14, Fj.wp15, Fj.wp16, Fj.wp17, Fj.wp18, Fj.wp19, Fj.wp20, Fj.wp21, Fj.wpz, Fj.tyN, Int.reduceEq, Int.reduceLT, Int.reduceLE, Int.reduceAdd, Int.reduceSub, Int.reduceMul, Int.reduceNeg, Int.reducePow, Int.reduceToNat, Int.reduceMod, Int.reduceDiv, Int.reduceNe, Nat.reduceEqDiff, Nat.reduceMul, borOk, dkAll, dkKept, nlD, nlAll, id, frz, freeE, outsE, pick, merE, wipeE, Nat.reduceAdd, Nat.reduceSub, Nat.reduceLeDiff, Nat.reduceLT, reduceCtorEq, if_true, if_false, eq_self, forall_const, Bool.false_and]
      simp (config := {maxSteps := 1000000}) only [Fj.wp0, Fj.wp1, Fj.wp2, Fj.wp3, Fj.wp4, Fj.wp5, Fj.wp6, Fj.wp7, Fj.wp8, Fj.wp9, Fj.wp10, Fj.wp11, Fj.wp12, Fj.wp13, Fj.wp14, Fj.wp15, Fj.wp16, Fj.wp17, Fj.wp18, Fj.wp19, Fj.wp20, Fj.wp21, Fj.wpz, Fj.tyN, Int.reduceEq, Int.reduceLT, Int.reduceLE, Int.reduceAdd, Int.reduceSub, Int.reduceMul, Int.reduceNeg, Int.reducePow, Int.reduceToNat, Int.reduceMod, Int.reduceDiv, Int.reduceNe, Nat.reduceEqDiff, Nat.reduceMul, borOk, dkAll, dkKept, nlD, nlAll, id, frz, freeE, outsE, pick, merE, wipeE, Nat.reduceAdd, Nat.reduceSub, Nat.reduceLeDiff, Nat.reduceLT, reduceCtorEq, if_true, if_false, eq_self, forall_const, Bool.false_and]
      refine s2.mono ?_
      rintro _ rfl
      simp (config := {maxSteps := 1000000}) only [mb__law_are_meetings_5, hqm, q_sameR, Fj.wp0, Fj.wp1, Fj.wp2, Fj.wp3, Fj.wp4, Fj.wp5, Fj.wp6, Fj.wp7, Fj.wp8, Fj.wp9, Fj.wp10, Fj.wp11, Fj.wp12, Fj.wp13, Fj.wp14, Fj.wp15, Fj.wp16, Fj.wp17, Fj.wp18, Fj.wp19, Fj.wp20, Fj.wp21, Fj.wpz, Fj.tyN, Int.reduceEq, Int.reduceLT, Int.reduceLE, Int.reduceAdd, Int.reduceSub, Int.reduceMul, Int.reduceNeg, Int.reducePow, Int.reduceToNat, Int.reduceMod, Int.reduceDiv, Int.reduceNe, Nat.reduceEqDiff, Nat.reduceMul, borOk, dkAll, dkKept, nlD, nlAll, id, frz, freeE, outsE, pick, merE, wipeE, Nat.reduceAdd, Nat.reduceSub, Nat.reduceLeDiff, Nat.reduceLT, reduceCtorEq, if_true, if_false, eq_self, forall_const, Bool.false_and]
      exact ⟨l7, m7, t7, n2 + 3000001, _, _, _, _, _, fun d hd => f1 d (List.mem_cons_of_mem _ hd), by omega, h7, .val, .val, .val, .val, .val, rfl⟩
    · rintro ρ ⟨l5, m5, t5, n2, e5, e6, e7, e8, e9, f1, f2, f3, p5, p6, p7, p8, p9, rfl⟩
      rw [List.length_nil] at f2
      simp (config := {maxSteps := 1000000}) only [Fj.wp0, Fj.wp1, Fj.wp2, Fj.wp3, Fj.wp4, Fj.wp5, Fj.wp6, Fj.wp7, Fj.wp8, Fj.wp9, Fj.wp10, Fj.wp11, Fj.wp12, Fj.wp13, Fj.wp14, Fj.wp15, Fj.wp16, Fj.wp17, Fj.wp18, Fj.wp19, Fj.wp20, Fj.wp21, Fj.wpz, Fj.tyN, Int.reduceEq, Int.reduceLT, Int.reduceLE, Int.reduceAdd, Int.reduceSub, Int.reduceMul, Int.reduceNeg, Int.reducePow, Int.reduceToNat, Int.reduceMod, Int.reduceDiv, Int.reduceNe, Nat.reduceEqDiff, Nat.reduceMul, borOk, dkAll, dkKept, nlD, nlAll, id, frz, freeE, outsE, pick, merE, wipeE, Nat.reduceAdd, Nat.reduceSub, Nat.reduceLeDiff, Nat.reduceLT, reduceCtorEq, if_true, if_false, eq_self, forall_const, Bool.false_and]
      exact ⟨l5, m5, t5, n' + 120000000, _, _, _, _, _, _, _, _, _, ⟨js, rfl⟩, by omega, dk_mono f3 (by omega), .val, .val, .val, .val, p5, p6, p7, p8, p9, rfl⟩
  · rintro ρ ⟨l', m', t', n', e1, e2, e3, e4, e5, e6, e7, e8, e9, -, g1, g2, p1, p2, p3, p4, p5, p6, p7, p8, p9, rfl⟩
    rw [List.length_nil] at g1
    simp (config := {maxSteps := 1000000}) only [p1.all, p2.all, p3.all, p4.all, p5.all, p6.all, p7.all, p8.all, p9.all, Fj.wp0, Fj.wp1, Fj.wp2, Fj.wp3, Fj.wp4, Fj.wp5, Fj.wp6, Fj.wp7, Fj.wp8, Fj.wp9, Fj.wp10, Fj.wp11, Fj.wp12, Fj.wp13, Fj.wp14, Fj.wp15, Fj.wp16, Fj.wp17, Fj.wp18, Fj.wp19, Fj.wp20, Fj.wp21, Fj.wpz, Fj.tyN, Int.reduceEq, Int.reduceLT, Int.reduceLE, Int.reduceAdd, Int.reduceSub, Int.reduceMul, Int.reduceNeg, Int.reducePow, Int.reduceToNat, Int.reduceMod, Int.reduceDiv, Int.reduceNe, Nat.reduceEqDiff, Nat.reduceMul, borOk, dkAll, dkKept, nlD, nlAll, id, frz, freeE, outsE, pick, merE, wipeE, Nat.reduceAdd, Nat.reduceSub, Nat.reduceLeDiff, Nat.reduceLT, reduceCtorEq, if_true, if_false, eq_self, forall_const, Bool.false_and]
    exact ⟨l', m', t', _, rfl, dk_mono g2 (by omega)⟩
theorem law_true (ns : List Int) (hns : ns.length ≤ 63) : ∃ outs, mf_law [.scr ns] = some (.val (.bool true), outs) := by
  suffices h : W (mf_law [.scr ns]) fun e _ => e = .val (.bool true) by
    obtain ⟨e, o, h1, rfl⟩ := h.at_
    exact ⟨o, h1⟩
  simp (config := {maxSteps := 1000000}) only [mf_law, mb_law, Fj.wp0, Fj.wp1, Fj.wp2, Fj.wp3, Fj.wp4, Fj.wp5, Fj.wp6, Fj.wp7, Fj.wp8, Fj.wp9, Fj.wp10, Fj.wp11, Fj.wp12, Fj.wp13, Fj.wp14, Fj.wp15, Fj.wp16, Fj.wp17, Fj.wp18, Fj.wp19, Fj.wp20, Fj.wp21, Fj.wpz, Fj.tyN, Int.reduceEq, Int.reduceLT, Int.reduceLE, Int.reduceAdd, Int.reduceSub, Int.reduceMul, Int.reduceNeg, Int.reducePow, Int.reduceToNat, Int.reduceMod, Int.reduceDiv, Int.reduceNe, Nat.reduceEqDiff, Nat.reduceMul, borOk, dkAll, dkKept, nlD, nlAll, id, frz, freeE, outsE, pick, merE, wipeE, Nat.reduceAdd, Nat.reduceSub, Nat.reduceLeDiff, Nat.reduceLT, reduceCtorEq, if_true, if_false, eq_self, forall_const, Bool.false_and]
  refine (deck_ok ns hns).mono ?_
  rintro _ _ ⟨l, m, t, rfl, hd⟩
  simp (config := {maxSteps := 1000000}) only [Fj.wp0, Fj.wp1, Fj.wp2, Fj.wp3, Fj.wp4, Fj.wp5, Fj.wp6, Fj.wp7, Fj.wp8, Fj.wp9, Fj.wp10, Fj.wp11, Fj.wp12, Fj.wp13, Fj.wp14, Fj.wp15, Fj.wp16, Fj.wp17, Fj.wp18, Fj.wp19, Fj.wp20, Fj.wp21, Fj.wpz, Fj.tyN, Int.reduceEq, Int.reduceLT, Int.reduceLE, Int.reduceAdd, Int.reduceSub, Int.reduceMul, Int.reduceNeg, Int.reducePow, Int.reduceToNat, Int.reduceMod, Int.reduceDiv, Int.reduceNe, Nat.reduceEqDiff, Nat.reduceMul, borOk, dkAll, dkKept, nlD, nlAll, id, frz, freeE, outsE, pick, merE, wipeE, Nat.reduceAdd, Nat.reduceSub, Nat.reduceLeDiff, Nat.reduceLT, reduceCtorEq, if_true, if_false, eq_self, forall_const, Bool.false_and]
  refine (forms_ok 0 l m t hd (by decide)).mono ?_
  rintro _ _ ⟨rfl, l1, m1, t1, o, rfl, h1⟩
  simp (config := {maxSteps := 1000000}) only [Fj.wp0, Fj.wp1, Fj.wp2, Fj.wp3, Fj.wp4, Fj.wp5, Fj.wp6, Fj.wp7, Fj.wp8, Fj.wp9, Fj.wp10, Fj.wp11, Fj.wp12, Fj.wp13, Fj.wp14, Fj.wp15, Fj.wp16, Fj.wp17, Fj.wp18, Fj.wp19, Fj.wp20, Fj.wp21, Fj.wpz, Fj.tyN, Int.reduceEq, Int.reduceLT, Int.reduceLE, Int.reduceAdd, Int.reduceSub, Int.reduceMul, Int.reduceNeg, Int.reducePow, Int.reduceToNat, Int.reduceMod, Int.reduceDiv, Int.reduceNe, Nat.reduceEqDiff, Nat.reduceMul, borOk, dkAll, dkKept, nlD, nlAll, id, frz, freeE, outsE, pick, merE, wipeE, Nat.reduceAdd, Nat.reduceSub, Nat.reduceLeDiff, Nat.reduceLT, reduceCtorEq, if_true, if_false, eq_self, forall_const, Bool.false_and]
  refine (meets_ok _ l1 m1 t1 h1 (by decide)).mono ?_
  rintro _ _ ⟨rfl, l2, m2, t2, o, rfl, h2⟩
  simp (config := {maxSteps := 1000000}) only [Fj.wp0, Fj.wp1, Fj.wp2, Fj.wp3, Fj.wp4, Fj.wp5, Fj.wp6, Fj.wp7, Fj.wp8, Fj.wp9, Fj.wp10, Fj.wp11, Fj.wp12, Fj.wp13, Fj.wp14, Fj.wp15, Fj.wp16, Fj.wp17, Fj.wp18, Fj.wp19, Fj.wp20, Fj.wp21, Fj.wpz, Fj.tyN, Int.reduceEq, Int.reduceLT, Int.reduceLE, Int.reduceAdd, Int.reduceSub, Int.reduceMul, Int.reduceNeg, Int.reducePow, Int.reduceToNat, Int.reduceMod, Int.reduceDiv, Int.reduceNe, Nat.reduceEqDiff, Nat.reduceMul, borOk, dkAll, dkKept, nlD, nlAll, id, frz, freeE, outsE, pick, merE, wipeE, Nat.reduceAdd, Nat.reduceSub, Nat.reduceLeDiff, Nat.reduceLT, reduceCtorEq, if_true, if_false, eq_self, forall_const, Bool.false_and]
end L_k36

open PySem PySem.W PySem.Calls PyProof.Rows
theorem PySem.Challenge.cw_facejudge_k36_whole_problems_bars_and_ch_holds : PySem.Challenge.rw_facejudge_k36_whole_problems_bars_and_ch.Holds := by
  w_on; o_law
  refine HandSHeadRun.head_any (r := OpenLaw.row PySem.Challenge.rw_facejudge_k36_whole_problems_bars_and_ch) (q := view (OpenLaw.row PySem.Challenge.rw_facejudge_k36_whole_problems_bars_and_ch).prog [51]) (H := L_k36.hk) (ob := L_k36.ob) (M := 3520) (loose := L_k36.names) (d := HandSHeadRun.topDef (OpenLaw.row PySem.Challenge.rw_facejudge_k36_whole_problems_bars_and_ch).prog 51) (kwd := []) L_k36.ob_eq
    (by kernel_rfl) (fun s => by kernel_rfl) L_k36.run (by kernel_rfl) (by kernel_rfl) (by kernel_rfl) (by rfl) (by first | assumption | decide +kernel) (by decide +kernel) ⟨rfl, rfl, rfl, rfl, rfl, by decide +kernel⟩ ?hw ?hc
  case hw => w_witness2
  case hc =>
    refine Fj.walk_G (l := PySem.Challenge.rw_facejudge_k36_whole_problems_bars_and_ch) (n := 63) (k := 46) (x := "script") rfl (by decide) (by kernel_rfl) ⟨rfl, by decide, by decide⟩ ?F
    intro w mg fa h Y G hmg0
    obtain ⟨K, KX, c⟩ := Y
    have hmg : mg ("law" : PySem.Str) = some (.ref fa) := by
      have e : (HandSHeadRun.topDef (OpenLaw.row PySem.Challenge.rw_facejudge_k36_whole_problems_bars_and_ch).prog 51).name = ("law" : PySem.Str) := by kernel_rfl
      rw [← e]
      exact hmg0
    obtain ⟨fd, hb, hF⟩ := L_k36.facts (P := (PySem.Challenge.rw_facejudge_k36_whole_problems_bars_and_ch).prog) (w := w) KX G hmg c
    exact ⟨K, fd, L_k36.mf_law, KX, hb, fun ns hl => L_k36.law_true ns hl, fun base _ _ => hF base⟩
