import PyProof.Rows.All
import Wide.All
import OpenK.AllK
import Wide.FinOn
import HandS.ForMost
import HandS.NoneIn
import HandS.Zip
import HandS.TupAny
import HandS.Deep
import HandS.IsInst
import KE.SortData
import KE.KUnpackStar
import HandS.Style
import HandS.Defaults
import PySem.Challenge.RW_drawnropes_k41_knots_as_told
set_option Elab.async false
set_option linter.all false
set_option maxRecDepth 100000
set_option maxHeartbeats 4000000
/-! DLa: plain data over the hand layer: what represents what, cells, steps, the judgements of expressions. -/
namespace DL
open PySem PySem.Spec PyProof.Rows L2

/-! ### heaps -/
def Ex (H H' : Hp) : Prop := ∀ a o, H a = some o → H' a = some o
theorem Ex.refl (H : Hp) : Ex H H := fun _ _ h => h
theorem Ex.trans {H H1 H2 : Hp} (a : Ex H H1) (b : Ex H1 H2) : Ex H H2 := fun x o h => b x o (a x o h)
theorem Ex.new {H : Hp} {p : Addr} {o : HO} (h : H p = none) : Ex H (upd H p o) := fun a u e => by
  rw [upd_ne (ne_of_none e h)]; exact e
theorem Ex.free {H H' : Hp} {p : Addr} (e : Ex H H') (h : H' p = none) : H p = none := by
  cases q : H p with
  | none => rfl
  | some o => rw [e p o q] at h; cases h
/-- both sides get the same new object -/
theorem Ex.upd2 {H H' : Hp} {p : Addr} {o : HO} (e : Ex H H') : Ex (upd H p o) (upd H' p o) := fun a u h => by
  by_cases q : a = p
  · subst q; rw [upd_same] at h ⊢; exact h
  · rw [upd_ne q] at h ⊢; exact e a u h
/-- what the lesser heap does not know may change -/
theorem Ex.mut {H H' : Hp} {p : Addr} {o : HO} (e : Ex H H') (h : H p = none) : Ex H (upd H' p o) := fun a u ha => by
  rw [upd_ne (ne_of_none ha h)]; exact e a u ha
/-- the lesser heap learns what stands in the greater one -/
theorem Ex.learn {H H' : Hp} {p : Addr} {o : HO} (e : Ex H H') (h : H' p = some o) : Ex (upd H p o) H' := fun a u ha => by
  by_cases q : a = p
  · subst q; rw [upd_same] at ha; rw [h]; exact ha
  · rw [upd_ne q] at ha; exact e a u ha
theorem ex_sl {K : PySem.W.Frag} {H H' : Hp} {a : Addr} {xs : List V} (e : Ex H H') (h : SqL K H a xs) : SqL K H' a xs := by
  rcases h with (h | ⟨o, h⟩) | h
  · exact .inl (.inl (e _ _ h))
  · exact .inl (.inr ⟨o, e _ _ h⟩)
  · exact .inr h
theorem ex_st {K : PySem.W.Frag} {H H' : Hp} {a : Addr} {xs : List V} (e : Ex H H') (h : SqT K H a xs) : SqT K H' a xs := by
  rcases h with (h | ⟨o, h⟩) | h
  · exact .inl (.inl (e _ _ h))
  · exact .inl (.inr ⟨o, e _ _ h⟩)
  · exact .inr h
theorem sql_of {K : PySem.W.Frag} {H : Hp} {a : Addr} {xs : List V} (h : H a = some (.lst xs)) : SqL K H a xs := .inl (.inl h)
theorem sqt_of {K : PySem.W.Frag} {H : Hp} {a : Addr} {xs : List V} (h : H a = some (.tup xs)) : SqT K H a xs := .inl (.inl h)

/-! ### plain data in a heap -/
mutual
inductive Rp (K : PySem.W.Frag) (H : Hp) : V → PyData → Prop
  | non : Rp K H .non .none
  | bl (b : Bool) : Rp K H (.bl b) (.bool b)
  | int (i : Int) : Rp K H (.int i) (.int i)
  | str (x : Str) : Rp K H (.str x) (.str x)
  | lst {a : Addr} {xs : List V} {ds : List PyData} : H a = some (.lst xs) → RpA K H xs ds → Rp K H (.ref a) (.list ds)
  | tup {a : Addr} {xs : List V} {ds : List PyData} : SqT K H a xs → RpA K H xs ds → Rp K H (.ref a) (.tuple ds)
inductive RpA (K : PySem.W.Frag) (H : Hp) : List V → List PyData → Prop
  | nil : RpA K H [] []
  | cons {v : V} {vs : List V} {d : PyData} {ds : List PyData} : Rp K H v d → RpA K H vs ds → RpA K H (v :: vs) (d :: ds)
end
section
variable {K : PySem.W.Frag} {H H' : Hp}
mutual
theorem Rp.mono (e : Ex H H') : ∀ (d : PyData) (v : V), Rp K H v d → Rp K H' v d
  | .none, _, h => by cases h; exact .non
  | .bool b, _, h => by cases h; exact .bl b
  | .int i, _, h => by cases h; exact .int i
  | .str x, _, h => by cases h; exact .str x
  | .list ds, _, h => by
    cases h with
    | lst h1 h2 => exact .lst (e _ _ h1) (RpA.mono e ds _ h2)
  | .tuple ds, _, h => by
    cases h with
    | tup h1 h2 => exact .tup (ex_st e h1) (RpA.mono e ds _ h2)
  | .dict _, _, h => by cases h
theorem RpA.mono (e : Ex H H') : ∀ (ds : List PyData) (vs : List V), RpA K H vs ds → RpA K H' vs ds
  | [], _, h => by cases h; exact .nil
  | d :: ds, _, h => by
    cases h with
    | cons h1 h2 => exact .cons (Rp.mono e d _ h1) (RpA.mono e ds _ h2)
end
mutual
theorem Rp.dp : ∀ (d : PyData) (v : V), Rp K H v d → Dp K H v d
  | .none, _, h => by cases h; exact .non
  | .bool b, _, h => by cases h; exact .bl b
  | .int i, _, h => by cases h; exact .int i
  | .str x, _, h => by cases h; exact .str x
  | .list ds, _, h => by
    cases h with
    | lst h1 h2 => exact .lst (sql_of h1) (RpA.dp ds _ h2)
  | .tuple ds, _, h => by
    cases h with
    | tup h1 h2 => exact .tup h1 (RpA.dp ds _ h2)
  | .dict _, _, h => by cases h
theorem RpA.dp : ∀ (ds : List PyData) (vs : List V), RpA K H vs ds → DpAll K H vs ds
  | [], _, h => by cases h; exact .nil
  | d :: ds, _, h => by
    cases h with
    | cons h1 h2 => exact .cons (Rp.dp d _ h1) (RpA.dp ds _ h2)
end
theorem RpA.len : ∀ {vs : List V} {ds : List PyData}, RpA K H vs ds → vs.length = ds.length
  | _, _, .nil => rfl
  | _, _, .cons _ t => congrArg (· + 1) (RpA.len t)
theorem RpA.app : ∀ {vs ws : List V} {ds es : List PyData}, RpA K H vs ds → RpA K H ws es → RpA K H (vs ++ ws) (ds ++ es)
  | _, _, _, _, .nil, q => q
  | _, _, _, _, .cons r t, q => .cons r (RpA.app t q)
theorem RpA.take : ∀ (n : Nat) {vs : List V} {ds : List PyData}, RpA K H vs ds → RpA K H (vs.take n) (ds.take n)
  | 0, _, _, _ => .nil
  | _ + 1, _, _, .nil => .nil
  | n + 1, _, _, .cons r t => .cons r (RpA.take n t)
theorem RpA.drop : ∀ (n : Nat) {vs : List V} {ds : List PyData}, RpA K H vs ds → RpA K H (vs.drop n) (ds.drop n)
  | 0, _, _, r => r
  | _ + 1, _, _, .nil => .nil
  | n + 1, _, _, .cons _ t => RpA.drop n t
theorem RpA.get : ∀ {vs : List V} {ds : List PyData} {i : Nat} {d : PyData}, RpA K H vs ds → ds[i]? = some d → ∃ v, vs[i]? = some v ∧ Rp K H v d
  | _, _, _, _, .nil, e => by simp at e
  | _, _, 0, _, .cons r _, e => by simp at e; subst e; exact ⟨_, rfl, r⟩
  | _, _, i + 1, d, .cons _ t, e => by
    obtain ⟨v, h1, h2⟩ := RpA.get (i := i) (d := d) t (by simpa using e)
    exact ⟨v, by simpa using h1, h2⟩
theorem RpA.getV : ∀ {vs : List V} {ds : List PyData} {i : Nat} {v : V}, RpA K H vs ds → vs[i]? = some v → ∃ d, ds[i]? = some d ∧ Rp K H v d
  | _, _, _, _, .nil, e => by simp at e
  | _, _, 0, _, .cons r _, e => by simp at e; subst e; exact ⟨_, rfl, r⟩
  | _, _, i + 1, v, .cons _ t, e => by
    obtain ⟨d, h1, h2⟩ := RpA.getV (i := i) (v := v) t (by simpa using e)
    exact ⟨d, by simpa using h1, h2⟩
theorem RpA.set {v : V} {d : PyData} (r : Rp K H v d) : ∀ (i : Nat) {vs : List V} {ds : List PyData}, RpA K H vs ds → RpA K H (vs.set i v) (ds.set i d)
  | _, _, _, .nil => .nil
  | 0, _, _, .cons _ t => .cons r t
  | i + 1, _, _, .cons q t => .cons q (RpA.set r i t)
theorem RpA.rev : ∀ {vs : List V} {ds : List PyData}, RpA K H vs ds → RpA K H vs.reverse ds.reverse
  | _, _, .nil => .nil
  | _, _, .cons r t => by
    rw [List.reverse_cons, List.reverse_cons]
    exact (RpA.rev t).app (.cons r .nil)
end

/-! ### results, cells, places -/
inductive R where
  | d (x : PyData)
  | c (k : Nat)
  | f (xs : List PyData)
  | s (ns : List Int)
inductive Cell where
  | l (xs : List PyData)
  | z (x : PyData)
abbrev Rho := List (Option R)
abbrev Kap := List Cell
/-- a fresh list that is let go is plain data -/
def R.st : R → R
  | .f xs => .d (.list xs)
  | r => r
/-- what is read there now -/
def val (κ : Kap) : R → Option PyData
  | .d x => some x
  | .f xs => some (.list xs)
  | .c k => match κ[k]? with
    | some (.l xs) => some (.list xs)
    | some (.z x) => some x
    | none => none
  | .s _ => none

def It (K : PySem.W.Frag) (G : Hp) (As : List Addr) (v : V) : R → Prop
  | .d x => Rp K G v x
  | .c k => ∃ a, As[k]? = some a ∧ v = .ref a
  | .f _ => False
  | .s ns => ∃ a, v = .ref a ∧ SqL K G a (ns.map V.int)
def CellOk (K : PySem.W.Frag) (G H : Hp) (a : Addr) : Cell → Prop
  | .l ds => G a = none ∧ ∃ vs, H a = some (.lst vs) ∧ RpA K G vs ds
  | .z x => Rp K G (.ref a) x
/-- what stands: G what is known for good, the cells at As -/
structure Cells (K : PySem.W.Frag) (G H : Hp) (As : List Addr) (κ : Kap) : Prop where
  ext : Ex G H
  len : As.length = κ.length
  nd : As.Nodup
  al : ∀ a, a ∈ As → ∃ o, H a = some o
  ok : ∀ (k : Nat) (c : Cell) (a : Addr), κ[k]? = some c → As[k]? = some a → CellOk K G H a c
structure Places (K : PySem.W.Frag) (G : Hp) (As : List Addr) (σ : L2.St) (ρ : Rho) : Prop where
  len : σ.length = ρ.length
  ok : ∀ (i : Nat) (r : R), ρ[i]? = some (some r) → ∃ v, σ[i]? = some (some v) ∧ It K G As v r
structure Step (G H : Hp) (As : List Addr) (G' H' : Hp) (As' : List Addr) : Prop where
  ex : Ex G G'
  pre : ∃ bs, As' = As ++ bs
  new : ∀ a, a ∈ As' → a ∈ As ∨ H a = none
  fr : ∀ b o, b ∉ As → H b = some o → H' b = some o
  dom : ∀ b, H' b = none → H b = none
  gn : ∀ b, G b = none → G' b = none ∨ H b = none ∨ b ∈ As
def Rv (K : PySem.W.Frag) (H0 G H : Hp) (As : List Addr) (v : V) : R → Prop
  | .f xs => ∃ p vs, v = .ref p ∧ H0 p = none ∧ G p = none ∧ p ∉ As ∧ H p = some (.lst vs) ∧ RpA K G vs xs
  | r => It K G As v r

section
variable {K : PySem.W.Frag} {G H G' H' G1 H1 H0 : Hp} {As As' As1 : List Addr} {σ : L2.St} {ρ : Rho} {κ κ' : Kap} {v : V} {r : R}
theorem Step.refl : Step G H As G H As := ⟨Ex.refl G, ⟨[], by simp⟩, fun _ h => .inl h, fun _ _ _ h => h, fun _ h => h, fun _ h => .inl h⟩
theorem Step.trans (a : Step G H As G1 H1 As1) (b : Step G1 H1 As1 G' H' As') : Step G H As G' H' As' where
  ex := a.ex.trans b.ex
  pre := by
    obtain ⟨x, ex⟩ := a.pre
    obtain ⟨y, ey⟩ := b.pre
    exact ⟨x ++ y, by rw [ey, ex, List.append_assoc]⟩
  new := fun c h => by
    rcases b.new c h with h | h
    · exact a.new c h
    · exact .inr (a.dom c h)
  fr := fun c o hc h => by
    refine b.fr c o (fun hm => ?_) (a.fr c o hc h)
    rcases a.new c hm with q | q
    · exact hc q
    · rw [h] at q; cases q
  dom := fun c h => a.dom c (b.dom c h)
  gn := fun c h => by
    rcases a.gn c h with q | q | q
    · rcases b.gn c q with z | z | z
      · exact .inl z
      · exact .inr (.inl (a.dom c z))
      · rcases a.new c z with y | y
        · exact .inr (.inr y)
        · exact .inr (.inl y)
    · exact .inr (.inl q)
    · exact .inr (.inr q)
theorem It.mono (e : Ex G G') (p : ∃ bs, As' = As ++ bs) (h : It K G As v r) : It K G' As' v r := by
  cases r with
  | d x => exact Rp.mono e x v h
  | c k =>
    obtain ⟨a, h1, h2⟩ := h
    obtain ⟨bs, rfl⟩ := p
    refine ⟨a, ?_, h2⟩
    rw [List.getElem?_append_left (List.getElem?_eq_some_iff.mp h1).1]
    exact h1
  | f xs => exact h
  | s ns =>
    obtain ⟨a, h1, h2⟩ := h
    exact ⟨a, h1, ex_sl e h2⟩
theorem Step.it (s : Step G H As G' H' As') (h : It K G As v r) : It K G' As' v r := h.mono s.ex s.pre
theorem Places.step (p : Places K G As σ ρ) (s : Step G H As G' H' As') : Places K G' As' σ ρ :=
  ⟨p.len, fun i r h => by
    obtain ⟨v, h1, h2⟩ := p.ok i r h
    exact ⟨v, h1, s.it h2⟩⟩
/-- the heap of what is known grows by a new object -/
theorem Cells.laid (c : Cells K G H As κ) {p : Addr} {o : HO} (hp : H p = none) : Cells K (upd G p o) (upd H p o) As κ where
  ext := c.ext.upd2
  len := c.len
  nd := c.nd
  al := fun a h => by
    obtain ⟨u, e⟩ := c.al a h
    exact ⟨u, by rw [upd_ne (ne_of_none e hp)]; exact e⟩
  ok := fun k x a h1 h2 => by
    have q := c.ok k x a h1 h2
    have eG : Ex G (upd G p o) := Ex.new (c.ext.free hp)
    cases x with
    | l ds =>
      obtain ⟨q1, vs, q2, q3⟩ := q
      have ne : a ≠ p := ne_of_none q2 hp
      exact ⟨by rw [upd_ne ne]; exact q1, vs, by rw [upd_ne ne]; exact q2, RpA.mono eG _ _ q3⟩
    | z x => exact Rp.mono eG _ _ q
/-- a new object that is not known for good -/
theorem Cells.fresh (c : Cells K G H As κ) {p : Addr} {o : HO} (hp : H p = none) : Cells K G (upd H p o) As κ where
  ext := c.ext.trans (Ex.new hp)
  len := c.len
  nd := c.nd
  al := fun a h => by
    obtain ⟨u, e⟩ := c.al a h
    exact ⟨u, by rw [upd_ne (ne_of_none e hp)]; exact e⟩
  ok := fun k x a h1 h2 => by
    have q := c.ok k x a h1 h2
    cases x with
    | l ds =>
      obtain ⟨q1, vs, q2, q3⟩ := q
      have ne : a ≠ p := ne_of_none q2 hp
      exact ⟨q1, vs, by rw [upd_ne ne]; exact q2, q3⟩
    | z x => exact q
theorem Cells.notin (c : Cells K G H As κ) {p : Addr} (hp : H p = none) : p ∉ As := fun hm => by
  obtain ⟨o, e⟩ := c.al p hm
  rw [hp] at e; cases e
theorem Step.laid (ext : Ex G H) {p : Addr} {o : HO} (hp : H p = none) : Step G H As (upd G p o) (upd H p o) As :=
  ⟨Ex.new (ext.free hp), ⟨[], by simp⟩, fun _ h => .inl h, fun b u _ e => by rw [upd_ne (ne_of_none e hp)]; exact e, fun b e => by
    by_cases q : b = p
    · subst q; exact hp
    · rw [upd_ne q] at e; exact e, fun b e => by
    by_cases q : b = p
    · subst q; exact .inr (.inl hp)
    · exact .inl (by rw [upd_ne q]; exact e)⟩
theorem Step.fresh {p : Addr} {o : HO} (hp : H p = none) : Step G H As G (upd H p o) As :=
  ⟨Ex.refl G, ⟨[], by simp⟩, fun _ h => .inl h, fun b u _ e => by rw [upd_ne (ne_of_none e hp)]; exact e, fun b e => by
    by_cases q : b = p
    · subst q; exact hp
    · rw [upd_ne q] at e; exact e, fun _ e => .inl e⟩
/-- what is known for good grows by an object that stands -/
theorem Cells.learn (c : Cells K G H As κ) {q : Addr} {o : HO} (g0 : G q = none) (nin : q ∉ As) (hq : H q = some o) : Cells K (upd G q o) H As κ :=
  ⟨c.ext.learn hq, c.len, c.nd, c.al, fun k x a h1 h2 => by
    have w := c.ok k x a h1 h2
    have eG : Ex G (upd G q o) := Ex.new g0
    cases x with
    | l ds =>
      obtain ⟨w1, ws, w2, w3⟩ := w
      have ne : a ≠ q := fun e => nin (by rw [← e]; exact List.mem_of_getElem? h2)
      exact ⟨by rw [upd_ne ne]; exact w1, ws, w2, RpA.mono eG _ _ w3⟩
    | z x => exact Rp.mono eG _ _ w⟩
/-- a fresh list is let go: it is known for good -/
theorem settle (s : Step G1 H1 As1 G H As) (c : Cells K G H As κ) (p : Places K G As σ ρ) (h : Rv K H1 G H As v r) : ∃ G', Step G1 H1 As1 G' H As ∧ Cells K G' H As κ ∧ Places K G' As σ ρ ∧ It K G' As v r.st ∧ Ex G G' := by
  cases r with
  | f xs =>
    obtain ⟨q, vs, rfl, h0, g0, nin, hq, rp⟩ := h
    have eG : Ex G (upd G q (.lst vs)) := Ex.new g0
    refine ⟨upd G q (.lst vs), ⟨s.ex.trans eG, s.pre, s.new, s.fr, s.dom, fun b hb => ?_⟩, c.learn g0 nin hq, ⟨p.len, fun i r h => ?_⟩, .lst upd_same (RpA.mono eG _ _ rp), eG⟩
    · by_cases e : b = q
      · subst e; exact .inr (.inl h0)
      · rw [upd_ne e]; exact s.gn b hb
    · obtain ⟨v, h1, h2⟩ := p.ok i r h
      exact ⟨v, h1, h2.mono eG ⟨[], by simp⟩⟩
  | d x => exact ⟨G, s, c, p, h, Ex.refl G⟩
  | c k => exact ⟨G, s, c, p, h, Ex.refl G⟩
  | s ns => exact ⟨G, s, c, p, h, Ex.refl G⟩
/-- a cell is let go: what it holds is known for good -/
theorem freeze {k : Nat} {ds : List PyData} (c : Cells K G H As κ) (h : It K G As v (.c k)) (hk : κ[k]? = some (.l ds)) :
    ∃ G', Step G H As G' H As ∧ Cells K G' H As (κ.set k (.z (.list ds))) ∧ Rp K G' v (.list ds) := by
  obtain ⟨a, h1, rfl⟩ := h
  obtain ⟨g0, vs, hq, rp⟩ := c.ok k _ a hk h1
  have eG : Ex G (upd G a (.lst vs)) := Ex.new g0
  have hm : a ∈ As := List.mem_of_getElem? h1
  refine ⟨upd G a (.lst vs), ⟨eG, ⟨[], by simp⟩, fun _ h => .inl h, fun _ _ _ h => h, fun _ h => h, fun b hb => ?_⟩, ⟨c.ext.learn hq, by rw [List.length_set]; exact c.len, c.nd, c.al, fun j x b e1 e2 => ?_⟩, .lst upd_same (RpA.mono eG _ _ rp)⟩
  · by_cases e : b = a
    · subst e; exact .inr (.inr hm)
    · exact .inl (by rw [upd_ne e]; exact hb)
  · by_cases hj : j = k
    · subst hj
      rw [h1] at e2; cases e2
      rw [List.getElem?_set_self (List.getElem?_eq_some_iff.mp hk).1] at e1
      cases e1
      exact Rp.lst upd_same (RpA.mono eG _ _ rp)
    · rw [List.getElem?_set_ne (fun z => hj z.symm)] at e1
      have w := c.ok j x b e1 e2
      have ne : b ≠ a := fun z => hj (by
        subst z
        obtain ⟨l1, q1⟩ := List.getElem?_eq_some_iff.mp e2
        obtain ⟨l2, q2⟩ := List.getElem?_eq_some_iff.mp h1
        exact (List.getElem_inj c.nd).mp (q1.trans q2.symm))
      cases x with
      | l ds' =>
        obtain ⟨w1, ws, w2, w3⟩ := w
        exact ⟨by rw [upd_ne ne]; exact w1, ws, w2, RpA.mono eG _ _ w3⟩
      | z x => exact Rp.mono eG _ _ w
/-- a cell's list is another one now -/
theorem Cells.write {k : Nat} {a : Addr} {ds es : List PyData} {vs : List V} (c : Cells K G H As κ) (hk : κ[k]? = some (.l ds)) (h1 : As[k]? = some a) (hv : RpA K G vs es) : Cells K G (upd H a (.lst vs)) As (κ.set k (.l es)) := by
  obtain ⟨g0, ws, hq, rp⟩ := c.ok k _ a hk h1
  refine ⟨c.ext.mut g0, by rw [List.length_set]; exact c.len, c.nd, fun b hb => ?_, fun j x b e1 e2 => ?_⟩
  · by_cases e : b = a
    · subst e; exact ⟨_, upd_same⟩
    · rw [upd_ne e]; exact c.al b hb
  · by_cases hj : j = k
    · subst hj
      rw [h1] at e2; cases e2
      rw [List.getElem?_set_self (List.getElem?_eq_some_iff.mp hk).1] at e1
      cases e1
      exact ⟨g0, vs, upd_same, hv⟩
    · rw [List.getElem?_set_ne (fun z => hj z.symm)] at e1
      have w := c.ok j x b e1 e2
      have ne : b ≠ a := fun z => hj (by
        subst z
        obtain ⟨l1, q1⟩ := List.getElem?_eq_some_iff.mp e2
        obtain ⟨l2, q2⟩ := List.getElem?_eq_some_iff.mp h1
        exact (List.getElem_inj c.nd).mp (q1.trans q2.symm))
      cases x with
      | l ds' =>
        obtain ⟨w1, ws', w2, w3⟩ := w
        exact ⟨w1, ws', by rw [upd_ne ne]; exact w2, w3⟩
      | z x => exact w
theorem Step.write {a : Addr} {o u : HO} (hm : a ∈ As) (hq : H a = some u) : Step G H As G (upd H a o) As :=
  ⟨Ex.refl G, ⟨[], by simp⟩, fun _ h => .inl h, fun b u hb e => by
    rw [upd_ne (fun z => hb (by rw [z]; exact hm))]; exact e, fun b e => by
    by_cases q : b = a
    · subst q; rw [upd_same] at e; cases e
    · rw [upd_ne q] at e; exact e, fun _ e => .inl e⟩
/-- a new cell -/
theorem Cells.more {q : Addr} {ds : List PyData} {vs : List V} (c : Cells K G H As κ) (g0 : G q = none) (nin : q ∉ As) (hq : H q = some (.lst vs)) (rp : RpA K G vs ds) : Cells K G H (As ++ [q]) (κ ++ [.l ds]) where
  ext := c.ext
  len := by rw [List.length_append, List.length_append, c.len]; rfl
  nd := by
    rw [List.nodup_append]
    refine ⟨c.nd, by simp, fun x hx y hy e => nin ?_⟩
    rw [List.mem_singleton] at hy
    rw [← hy, ← e]; exact hx
  al := fun a h => by
    rcases List.mem_append.mp h with h | h
    · exact c.al a h
    · rw [List.mem_singleton] at h
      subst h; exact ⟨_, hq⟩
  ok := fun k x a e1 e2 => by
    by_cases hk : k < κ.length
    · rw [List.getElem?_append_left hk] at e1
      rw [List.getElem?_append_left (by rw [c.len]; exact hk)] at e2
      exact c.ok k x a e1 e2
    · have hk' : k = κ.length := by
        have := (List.getElem?_eq_some_iff.mp e1).1
        rw [List.length_append] at this
        have z : ([Cell.l ds] : List Cell).length = 1 := rfl
        omega
      subst hk'
      rw [List.getElem?_append_right (Nat.le_refl _), Nat.sub_self] at e1
      rw [← c.len, List.getElem?_append_right (Nat.le_refl _), Nat.sub_self] at e2
      cases e1
      cases e2
      exact ⟨g0, vs, hq, rp⟩
/-- a value as it is seen: its items are known for good -/
def Vw (K : PySem.W.Frag) (G H : Hp) (v : V) : PyData → Prop
  | .list ds => ∃ a vs, v = .ref a ∧ H a = some (.lst vs) ∧ RpA K G vs ds
  | x => Rp K G v x
theorem Vw.of (e : Ex G H) {x : PyData} (h : Rp K G v x) : Vw K G H v x := by
  cases h with
  | non => exact .non
  | bl b => exact .bl b
  | int i => exact .int i
  | str z => exact .str z
  | lst h1 h2 => exact ⟨_, _, rfl, e _ _ h1, h2⟩
  | tup h1 h2 => exact .tup h1 h2
theorem Vw.rp (e : Ex G H) : ∀ {x : PyData}, Vw K G H v x → Rp K H v x
  | .none, h => Rp.mono e _ _ h
  | .bool _, h => Rp.mono e _ _ h
  | .int _, h => Rp.mono e _ _ h
  | .str _, h => Rp.mono e _ _ h
  | .list _, h => by
    obtain ⟨a, vs, rfl, h1, h2⟩ := h
    exact .lst h1 (RpA.mono e _ _ h2)
  | .tuple _, h => Rp.mono e _ _ h
  | .dict _, h => Rp.mono e _ _ h
theorem Vw.tup (e : Ex G H) {ds : List PyData} (h : Vw K G H v (.tuple ds)) : ∃ a vs, v = .ref a ∧ SqT K H a vs ∧ RpA K G vs ds := by
  have h : Rp K G v (.tuple ds) := h
  cases h with
  | tup h1 h2 => exact ⟨_, _, rfl, ex_st e h1, h2⟩
theorem It.vw (c : Cells K G H As κ) (h : It K G As v r) {x : PyData} (e : val κ r = some x) : Vw K G H v x := by
  cases r with
  | d y =>
    cases e
    exact Vw.of c.ext h
  | f xs => exact h.elim
  | s ns => cases e
  | c k =>
    obtain ⟨a, h1, rfl⟩ := h
    unfold val at e
    simp only at e
    cases q : κ[k]? with
    | none => rw [q] at e; cases e
    | some cc =>
      rw [q] at e
      have w := c.ok k cc a q h1
      cases cc with
      | l ds =>
        cases e
        obtain ⟨_, vs, w2, w3⟩ := w
        exact ⟨a, vs, rfl, w2, w3⟩
      | z y =>
        cases e
        exact Vw.of c.ext w
end

/-! ### the judgements -/
/-- a reading over plain data: an expression, a test, arguments, a statement, a target -/
abbrev DTE := Rho → Kap → (R → Kap → Prop) → Prop
abbrev DTT := Rho → Kap → (Bool → Kap → Prop) → Prop
abbrev DTA := Rho → Kap → (List R → Kap → Prop) → Prop
structure DEnds where
  nx : Rho → Kap → Prop
  rt : R → Kap → Prop
  bk : Rho → Kap → Prop := fun _ _ => False
  ct : Rho → Kap → Prop := fun _ _ => False
abbrev DTS := DEnds → Rho → Kap → Prop
abbrev DTG := R → Rho → Kap → (Rho → Kap → Prop) → Prop

def DE (X : Cx) (e : Expr) (w : DTE) : Prop := ∃ t, PE X e t ∧ ∀ (G H : Hp) (As : List Addr) (σ : L2.St) (ρ : Rho) (κ : Kap) (P : R → Kap → Prop) (Q : VK), Cells X.K G H As κ → Places X.K G As σ ρ → w ρ κ P →
  (∀ v r G' H' As' κ', Step G H As G' H' As' → Cells X.K G' H' As' κ' → Places X.K G' As' σ ρ → Rv X.K H G' H' As' v r → P r κ' → Q v H') → t σ H Q
def DT (X : Cx) (e : Expr) (w : DTT) : Prop := ∃ t, PT X e t ∧ ∀ (G H : Hp) (As : List Addr) (σ : L2.St) (ρ : Rho) (κ : Kap) (P : Bool → Kap → Prop) (Q : Bool → Hp → Prop), Cells X.K G H As κ → Places X.K G As σ ρ → w ρ κ P →
  (∀ b G' H' As' κ', Step G H As G' H' As' → Cells X.K G' H' As' κ' → Places X.K G' As' σ ρ → P b κ' → Q b H') → t σ H Q
def DW (X : Cx) (e : Expr) (w : DTT) : Prop := ∃ t, PW X e t ∧ ∀ (G H : Hp) (As : List Addr) (σ : L2.St) (ρ : Rho) (κ : Kap) (P : Bool → Kap → Prop) (Q : Bool → Hp → Prop), Cells X.K G H As κ → Places X.K G As σ ρ → w ρ κ P →
  (∀ b G' H' As' κ', Step G H As G' H' As' → Cells X.K G' H' As' κ' → Places X.K G' As' σ ρ → P b κ' → Q b H') → t σ H Q
def DA (X : Cx) (es : List Expr) (w : DTA) : Prop := ∃ t, PA X es t ∧ ∀ (G H : Hp) (As : List Addr) (σ : L2.St) (ρ : Rho) (κ : Kap) (P : List R → Kap → Prop) (Q : List V → Hp → Prop), Cells X.K G H As κ → Places X.K G As σ ρ → w ρ κ P →
  (∀ vs rs G' H' As' κ', Step G H As G' H' As' → Cells X.K G' H' As' κ' → Places X.K G' As' σ ρ → Paired (It X.K G' As') vs rs → rs.length = es.length → P rs κ' → Q vs H') → t σ H Q
/-- what a statement reaches -/
structure Reach (K : PySem.W.Frag) (G H : Hp) (As : List Addr) (E : DEnds) (D : Ends) : Prop where
  nx : ∀ σ' ρ' G' H' As' κ', Step G H As G' H' As' → Cells K G' H' As' κ' → Places K G' As' σ' ρ' → E.nx ρ' κ' → D.nx σ' H'
  bk : ∀ σ' ρ' G' H' As' κ', Step G H As G' H' As' → Cells K G' H' As' κ' → Places K G' As' σ' ρ' → E.bk ρ' κ' → D.bk σ' H'
  ct : ∀ σ' ρ' G' H' As' κ', Step G H As G' H' As' → Cells K G' H' As' κ' → Places K G' As' σ' ρ' → E.ct ρ' κ' → D.ct σ' H'
  rt : ∀ v r G' H' As' κ', Step G H As G' H' As' → Cells K G' H' As' κ' → Rv K H G' H' As' v r → E.rt r κ' → D.rt v H'
def DS (X : Cx) (st : Stmt) (w : DTS) : Prop := ∃ t, PS X st t ∧ ∀ (G H : Hp) (As : List Addr) (σ : L2.St) (ρ : Rho) (κ : Kap) (E : DEnds) (D : Ends), Cells X.K G H As κ → Places X.K G As σ ρ → w E ρ κ → Reach X.K G H As E D → t D σ H
def DSs (X : Cx) (sts : List Stmt) (w : DTS) : Prop := ∃ t, PSs X sts t ∧ ∀ (G H : Hp) (As : List Addr) (σ : L2.St) (ρ : Rho) (κ : Kap) (E : DEnds) (D : Ends), Cells X.K G H As κ → Places X.K G As σ ρ → w E ρ κ → Reach X.K G H As E D → t D σ H
section
variable {K : PySem.W.Frag} {G H G1 H1 : Hp} {As As1 : List Addr} {E : DEnds} {D : Ends}
theorem Rv.back {K : PySem.W.Frag} {G0 H0 G1 H1 G H : Hp} {As0 As1 As : List Addr} {v : V} {r : R} (s : Step G0 H0 As0 G1 H1 As1) (h : Rv K H1 G H As v r) : Rv K H0 G H As v r := by
  cases r with
  | f xs =>
    obtain ⟨p, vs, e, h0, q⟩ := h
    exact ⟨p, vs, e, s.dom p h0, q⟩
  | d x => exact h
  | c k => exact h
  | s ns => exact h
theorem Reach.step (r : Reach K G H As E D) (s : Step G H As G1 H1 As1) : Reach K G1 H1 As1 E D :=
  ⟨fun a b c d e f x => r.nx a b c d e f (s.trans x), fun a b c d e f x => r.bk a b c d e f (s.trans x), fun a b c d e f x => r.ct a b c d e f (s.trans x), fun a b c d e f x y z => r.rt a b c d e f (s.trans x) y (z.back s)⟩
end

/-! ### names, constants -/
def wVar (i : Nat) : DTE := fun ρ κ P => match ρ[i]? with
  | some (some r) => P r κ
  | _ => False
def wC (x : PyData) : DTE := fun _ κ P => P (.d x) κ
section
variable {X : Cx}
theorem de_var (i : Nat) {x : Str} {pos : Pos} (hN : X.N[i]? = some x := by rfl) (hv : Vis X.env.scope x := by first | exact Or.inl rfl | exact Or.inr (Or.inl rfl) | exact Or.inr (Or.inr rfl)) (hd : (x == ("__debug__" : Str)) = false := by decide)
    (hcd : (x == ("__classdict__" : Str)) = false := by decide) : DE X (.Name x pos) (wVar i) := by
  refine ⟨_, pe_var hN hv hd hcd, fun G H As σ ρ κ P Q c p w k => ?_⟩
  unfold wVar at w
  split at w
  · rename_i r hr
    obtain ⟨v, h1, h2⟩ := p.ok i r hr
    refine ⟨v, h1, k v r G H As κ Step.refl c p ?_ w⟩
    cases r with
    | f xs => exact h2.elim
    | d x => exact h2
    | c k => exact h2
    | s ns => exact h2
  · exact w.elim
theorem de_c {e : Expr} {v : V} {x : PyData} (h : PE X e (tC v)) (hx : ∀ G : Hp, Rp X.K G v x) : DE X e (wC x) :=
  ⟨_, h, fun G H As σ ρ κ P Q c p w k => k v (.d x) G H As κ Step.refl c p (hx G) w⟩
theorem de_int {i : Int} {j : Nat} {pos : Pos} : DE X (.Constant (.int i) j pos) (wC (.int i)) := de_c pe_int fun _ => .int i
theorem de_bl {b : Bool} {j : Nat} {pos : Pos} : DE X (.Constant (.bool b) j pos) (wC (.bool b)) := de_c pe_bl fun _ => .bl b
theorem de_non {j : Nat} {pos : Pos} : DE X (.Constant .none j pos) (wC .none) := de_c pe_non fun _ => .non
theorem de_str {x : Str} {j : Nat} {pos : Pos} : DE X (.Constant (.str x) j pos) (wC (.str x)) := de_c pe_str fun _ => .str x
end

/-! ### operations by values: what comes of them -/
/-- what an operation hands back: a value that is known, a new list, a new tuple -/
inductive Out where
  | v (x : PyData)
  | n (xs : List PyData)
  | t (xs : List PyData)
def Out.r : Out → R
  | .v x => .d x
  | .n xs => .f xs
  | .t xs => .d (.tuple xs)
def OutK (K : PySem.W.Frag) (G H : Hp) (Q : VK) : Out → Prop
  | .v x => ∀ w, Rp K G w x → Q w H
  | .n xs => ∀ p vs, H p = none → RpA K G vs xs → Q (.ref p) (upd H p (.lst vs))
  | .t xs => (∀ p vs, H p = none → RpA K G vs xs → Q (.ref p) (upd H p (.tup vs))) ∧ ∀ w, Rp K G w (.tuple xs) → Q w H
/-- an option that must be there -/
def Opt {α : Type} (o : Option α) (k : α → Prop) : Prop := match o with
  | some a => k a
  | none => False
theorem opt_some {α : Type} {a : α} {k : α → Prop} : Opt (some a) k = k a := rfl
theorem Opt.ex {α : Type} {o : Option α} {k : α → Prop} (h : Opt o k) : ∃ a, o = some a ∧ k a := by
  cases o with
  | none => exact h.elim
  | some a => exact ⟨a, rfl, h⟩
theorem Opt.mk {α : Type} {o : Option α} {k : α → Prop} {a : α} (e : o = some a) (h : k a) : Opt o k := by
  rw [e]; exact h
section
variable {K : PySem.W.Frag} {G H G0 H0 : Hp} {As As0 : List Addr} {σ : L2.St} {ρ : Rho} {κ : Kap} {Q : VK} {P : R → Kap → Prop}
theorem out_ok (s : Step G0 H0 As0 G H As) (c : Cells K G H As κ) (p : Places K G As σ ρ) (o : Out) (h : P o.r κ)
    (k : ∀ v r G' H' As' κ', Step G0 H0 As0 G' H' As' → Cells K G' H' As' κ' → Places K G' As' σ ρ → Rv K H0 G' H' As' v r → P r κ' → Q v H') : OutK K G H Q o := by
  cases o with
  | v x => exact fun w hw => k w (.d x) G H As κ s c p hw h
  | n xs => exact fun q vs hq hv => k _ (.f xs) G _ As κ (s.trans (Step.fresh hq)) (c.fresh hq) p ⟨q, vs, rfl, s.dom q hq, c.ext.free hq, c.notin hq, upd_same, hv⟩ h
  | t xs =>
    refine ⟨fun q vs hq hv => k _ (.d (.tuple xs)) _ _ As κ (s.trans (Step.laid c.ext hq)) (c.laid hq) (p.step (Step.laid c.ext hq)) ?_ h, fun w hw => k w (.d (.tuple xs)) G H As κ s c p hw h⟩
    exact Rp.tup (sqt_of upd_same) (RpA.mono (Ex.new (c.ext.free hq)) _ _ hv)
end
def OpD (K : PySem.W.Frag) (r2 : R2) (g : PyData → PyData → Option Out) : Prop := ∀ (G H : Hp) (v u : V) (x y : PyData) (o : Out) (Q : VK), Ex G H → Vw K G H v x → Vw K G H u y → g x y = some o → OutK K G H Q o → r2 v u H Q
def UnD (K : PySem.W.Frag) (r1 : V → Hp → VK → Prop) (g : PyData → Option Out) : Prop := ∀ (G H : Hp) (v : V) (x : PyData) (o : Out) (Q : VK), Ex G H → Vw K G H v x → g x = some o → OutK K G H Q o → r1 v H Q
def CallD (K : PySem.W.Frag) (rc : List V → Hp → VK → Prop) (g : List PyData → Option Out) : Prop := ∀ (G H : Hp) (vs : List V) (xs : List PyData) (o : Out) (Q : VK), Ex G H → Paired (Vw K G H) vs xs → g xs = some o → OutK K G H Q o → rc vs H Q
def wBin (g : PyData → PyData → Option Out) (wa wb : DTE) : DTE := fun ρ κ P => wa ρ κ fun r1 κ1 => wb ρ κ1 fun r2 κ2 => Opt (val κ2 r1.st) fun x => Opt (val κ2 r2.st) fun y => Opt (g x y) fun o => P o.r κ2
def wUn (g : PyData → Option Out) (wa : DTE) : DTE := fun ρ κ P => wa ρ κ fun r1 κ1 => Opt (val κ1 r1.st) fun x => Opt (g x) fun o => P o.r κ1
def vals (κ : Kap) : List R → Option (List PyData)
  | [] => some []
  | r :: rs => match val κ r, vals κ rs with
    | some x, some xs => some (x :: xs)
    | _, _ => none
def wCB (g : List PyData → Option Out) (wa : DTA) : DTE := fun ρ κ P => wa ρ κ fun rs κ1 => Opt (vals κ1 rs) fun xs => Opt (g xs) fun o => P o.r κ1
section
variable {X : Cx} {a b : Expr} {wa wb : DTE} {pos : Pos}
theorem bin_reads {ta tb : TE} {r2 : R2} {g : PyData → PyData → Option Out} (hg : OpD X.K r2 g)
    (ha : ∀ (G H : Hp) (As : List Addr) (σ : L2.St) (ρ : Rho) (κ : Kap) (P : R → Kap → Prop) (Q : VK), Cells X.K G H As κ → Places X.K G As σ ρ → wa ρ κ P → (∀ v r G' H' As' κ', Step G H As G' H' As' → Cells X.K G' H' As' κ' → Places X.K G' As' σ ρ → Rv X.K H G' H' As' v r → P r κ' → Q v H') → ta σ H Q)
    (hb : ∀ (G H : Hp) (As : List Addr) (σ : L2.St) (ρ : Rho) (κ : Kap) (P : R → Kap → Prop) (Q : VK), Cells X.K G H As κ → Places X.K G As σ ρ → wb ρ κ P → (∀ v r G' H' As' κ', Step G H As G' H' As' → Cells X.K G' H' As' κ' → Places X.K G' As' σ ρ → Rv X.K H G' H' As' v r → P r κ' → Q v H') → tb σ H Q)
    (G H : Hp) (As : List Addr) (σ : L2.St) (ρ : Rho) (κ : Kap) (P : R → Kap → Prop) (Q : VK) (c : Cells X.K G H As κ) (p : Places X.K G As σ ρ) (w : wBin g wa wb ρ κ P)
    (k : ∀ v r G' H' As' κ', Step G H As G' H' As' → Cells X.K G' H' As' κ' → Places X.K G' As' σ ρ → Rv X.K H G' H' As' v r → P r κ' → Q v H') : tOp r2 ta tb σ H Q := by
  refine ha G H As σ ρ κ _ _ c p w fun v1 r1 G1 H1 As1 κ1 s1 c1 p1 i1 w1 => ?_
  obtain ⟨G1', s1', c1', p1', i1', _⟩ := settle s1 c1 p1 i1
  refine hb G1' H1 As1 σ ρ κ1 _ _ c1' p1' w1 fun v2 r2 G2 H2 As2 κ2 s2 c2 p2 i2 w2 => ?_
  obtain ⟨G2', s2', c2', p2', i2', _⟩ := settle s2 c2 p2 i2
  obtain ⟨x, ex, w2⟩ := w2.ex
  obtain ⟨y, ey, w2⟩ := w2.ex
  obtain ⟨o, eo, w2⟩ := w2.ex
  exact hg G2' H2 v1 v2 x y o Q c2'.ext ((s2'.it i1').vw c2' ex) (i2'.vw c2' ey) eo (out_ok (s1'.trans s2') c2' p2' o w2 k)
theorem de_op {op : Operator} {r2 : R2} {g : PyData → PyData → Option Out} (ho : OpR X (binaryOp op) r2) (hg : OpD X.K r2 g) (ha : DE X a wa) (hb : DE X b wb) : DE X (.BinOp a op b pos) (wBin g wa wb) := by
  obtain ⟨ta, pa, ha⟩ := ha
  obtain ⟨tb, pb, hb⟩ := hb
  exact ⟨_, pe_op ho pa pb, bin_reads hg ha hb⟩
theorem de_cmp {op : CmpOp} {r2 : R2} {g : PyData → PyData → Option Out} (ho : OpR X (compareOp op) r2) (hg : OpD X.K r2 g) (ha : DE X a wa) (hb : DE X b wb) (hm : behindInMarks op b = false) : DE X (.Compare a [op] [b] pos) (wBin g wa wb) := by
  obtain ⟨ta, pa, ha⟩ := ha
  obtain ⟨tb, pb, hb⟩ := hb
  exact ⟨_, pe_cmpR ho pa pb hm, bin_reads hg ha hb⟩
theorem de_ix {r2 : R2} {g : PyData → PyData → Option Out} (ho : IxR X r2) (hg : OpD X.K r2 g) (ha : DE X a wa) (hb : DE X b wb) (hs : PlainIx b) : DE X (.Subscript a b pos) (wBin g wa wb) := by
  obtain ⟨ta, pa, ha⟩ := ha
  obtain ⟨tb, pb, hb⟩ := hb
  exact ⟨_, pe_ix ho pa pb hs, bin_reads hg ha hb⟩
theorem de_un {op : UnaryOp} {r1 : V → Hp → VK → Prop} {g : PyData → Option Out} (ho : UnR X (unaryOp op) r1) (hg : UnD X.K r1 g) (ha : DE X a wa) : DE X (.UnaryOp op a pos) (wUn g wa) := by
  obtain ⟨ta, pa, ha⟩ := ha
  refine ⟨_, pe_un ho pa, fun G H As σ ρ κ P Q c p w k => ?_⟩
  refine ha G H As σ ρ κ _ _ c p w fun v1 r1 G1 H1 As1 κ1 s1 c1 p1 i1 w1 => ?_
  obtain ⟨G1', s1', c1', p1', i1', _⟩ := settle s1 c1 p1 i1
  obtain ⟨x, ex, w2⟩ := w1.ex
  obtain ⟨o, eo, w2⟩ := w2.ex
  exact hg G1' H1 v1 x o Q c1'.ext (i1'.vw c1' ex) eo (out_ok s1' c1' p1' o w2 k)
end
end DL
/-! DLb: arguments, displays, calls, targets, statements, loops, comprehensions, defs, over plain data. -/
namespace DL
open PySem PySem.Spec PyProof.Rows L2

/-! ### what is let go for good -/
def dat (κ : Kap) : R → Option (PyData × Kap)
  | .d x => some (x, κ)
  | .f xs => some (.list xs, κ)
  | .c k => match κ[k]? with
    | some (.l xs) => some (.list xs, κ.set k (.z (.list xs)))
    | some (.z x) => some (x, κ)
    | none => none
  | .s _ => none
def dats (κ : Kap) : List R → Option (List PyData × Kap)
  | [] => some ([], κ)
  | r :: rs => match dat κ r with
    | some (x, κ1) => match dats κ1 rs with
      | some (xs, κ2) => some (x :: xs, κ2)
      | none => none
    | none => none
/-- what a def is handed: plain data, or the script -/
def arg (κ : Kap) : R → Option (R × Kap)
  | .s ns => some (.s ns, κ)
  | r => match dat κ r with
    | some (x, κ1) => some (.d x, κ1)
    | none => none
def args (κ : Kap) : List R → Option (List R × Kap)
  | [] => some ([], κ)
  | r :: rs => match arg κ r with
    | some (x, κ1) => match args κ1 rs with
      | some (xs, κ2) => some (x :: xs, κ2)
      | none => none
    | none => none
section
variable {K : PySem.W.Frag} {G H G' H' G1 H1 H0 : Hp} {As As' As1 : List Addr} {σ : L2.St} {ρ : Rho} {κ κ' : Kap} {v : V} {r : R}
theorem dat_ok {x : PyData} (c : Cells K G H As κ) (h : It K G As v r) (e : dat κ r = some (x, κ')) : ∃ G', Step G H As G' H As ∧ Cells K G' H As κ' ∧ Rp K G' v x := by
  cases r with
  | d y =>
    cases e
    exact ⟨G, Step.refl, c, h⟩
  | f xs => exact h.elim
  | s ns => cases e
  | c k =>
    unfold dat at e
    simp only at e
    cases q : κ[k]? with
    | none => rw [q] at e; cases e
    | some cc =>
      rw [q] at e
      cases cc with
      | l ds =>
        cases e
        exact freeze c h q
      | z y =>
        cases e
        obtain ⟨a, h1, rfl⟩ := h
        exact ⟨G, Step.refl, c, c.ok k _ a q h1⟩
theorem dats_ok : ∀ {rs : List R} {vs : List V} {G : Hp} {κ : Kap} {xs : List PyData}, Cells K G H As κ → Paired (It K G As) vs rs → dats κ rs = some (xs, κ') → ∃ G', Step G H As G' H As ∧ Cells K G' H As κ' ∧ RpA K G' vs xs
  | [], _, G, κ, xs, c, h, e => by
    cases h
    cases e
    exact ⟨G, Step.refl, c, .nil⟩
  | r :: rs, _, G, κ, xs, c, h, e => by
    cases h with
    | cons h1 h2 =>
      unfold dats at e
      cases q : dat κ r with
      | none => rw [q] at e; cases e
      | some p =>
        obtain ⟨x, κ1⟩ := p
        rw [q] at e
        simp only at e
        cases q2 : dats κ1 rs with
        | none => rw [q2] at e; cases e
        | some p2 =>
          obtain ⟨ys, κ2⟩ := p2
          rw [q2] at e
          cases e
          obtain ⟨G1, s1, c1, r1⟩ := dat_ok c h1 q
          obtain ⟨G2, s2, c2, r2⟩ := dats_ok c1 (Paired.mapP h2 fun _ _ z => s1.it z) q2
          exact ⟨G2, s1.trans s2, c2, .cons (Rp.mono s2.ex _ _ r1) r2⟩
theorem arg_ok {x : R} (c : Cells K G H As κ) (h : It K G As v r) (e : arg κ r = some (x, κ')) : ∃ G', Step G H As G' H As ∧ Cells K G' H As κ' ∧ It K G' [] v x := by
  cases r with
  | s ns =>
    cases e
    exact ⟨G, Step.refl, c, h⟩
  | f xs => exact h.elim
  | d y =>
    cases e
    exact ⟨G, Step.refl, c, h⟩
  | c k =>
    unfold arg at e
    cases q : dat κ (.c k) with
    | none => simp only [q] at e; cases e
    | some p =>
      obtain ⟨y, κ1⟩ := p
      simp only [q] at e
      cases e
      exact dat_ok c h q
theorem It.none (e : Ex G G') (h : It K G [] v r) : It K G' [] v r := h.mono e ⟨[], rfl⟩
theorem args_ok : ∀ {rs : List R} {vs : List V} {G : Hp} {κ : Kap} {xs : List R}, Cells K G H As κ → Paired (It K G As) vs rs → args κ rs = some (xs, κ') → ∃ G', Step G H As G' H As ∧ Cells K G' H As κ' ∧ Paired (It K G' []) vs xs
  | [], _, G, κ, xs, c, h, e => by
    cases h
    cases e
    exact ⟨G, Step.refl, c, .nil⟩
  | r :: rs, _, G, κ, xs, c, h, e => by
    cases h with
    | cons h1 h2 =>
      unfold args at e
      cases q : arg κ r with
      | none => rw [q] at e; cases e
      | some p =>
        obtain ⟨x, κ1⟩ := p
        rw [q] at e
        simp only at e
        cases q2 : args κ1 rs with
        | none => rw [q2] at e; cases e
        | some p2 =>
          obtain ⟨ys, κ2⟩ := p2
          rw [q2] at e
          cases e
          obtain ⟨G1, s1, c1, r1⟩ := arg_ok c h1 q
          obtain ⟨G2, s2, c2, r2⟩ := args_ok c1 (Paired.mapP h2 fun _ _ z => s1.it z) q2
          exact ⟨G2, s1.trans s2, c2, .cons (r1.none s2.ex) r2⟩
theorem vals_ok : ∀ {rs : List R} {vs : List V} {xs : List PyData}, Cells K G H As κ → Paired (It K G As) vs rs → vals κ rs = some xs → Paired (Vw K G H) vs xs
  | [], _, xs, c, h, e => by
    cases h
    cases e
    exact .nil
  | r :: rs, _, xs, c, h, e => by
    cases h with
    | cons h1 h2 =>
      unfold vals at e
      cases q : val κ r with
      | none => rw [q] at e; cases e
      | some x =>
        rw [q] at e
        cases q2 : vals κ rs with
        | none => rw [q2] at e; cases e
        | some ys =>
          rw [q2] at e
          cases e
          exact .cons (h1.vw c q) (vals_ok c h2 q2)
end

/-! ### arguments -/
def wNil : DTA := fun _ κ P => P [] κ
def wCons (wa : DTE) (wr : DTA) : DTA := fun ρ κ P => wa ρ κ fun r κ1 => wr ρ κ1 fun rs κ2 => P (r.st :: rs) κ2
section
variable {X : Cx} {e : Expr} {es : List Expr} {wa : DTE} {wr : DTA} {pos : Pos}
theorem da_nil : DA X [] wNil := ⟨_, pa_nil, fun G H As σ ρ κ P Q c p w k => k [] [] G H As κ Step.refl c p .nil rfl w⟩
theorem da_cons (ha : DE X e wa) (hr : DA X es wr) (hs : starEach (e :: es) X.env = (false, eval e X.env) :: starEach es X.env := by rfl) : DA X (e :: es) (wCons wa wr) := by
  obtain ⟨ta, pa, ha⟩ := ha
  obtain ⟨tr, pr, hr⟩ := hr
  refine ⟨_, pa_cons pa pr hs, fun G H As σ ρ κ P Q c p w k => ?_⟩
  refine ha G H As σ ρ κ _ _ c p w fun v1 r1 G1 H1 As1 κ1 s1 c1 p1 i1 w1 => ?_
  obtain ⟨G1', s1', c1', p1', i1', _⟩ := settle s1 c1 p1 i1
  refine hr G1' H1 As1 σ ρ κ1 _ _ c1' p1' w1 fun vs rs G2 H2 As2 κ2 s2 c2 p2 i2 l2 w2 => ?_
  exact k _ _ G2 H2 As2 κ2 (s1'.trans s2) c2 p2 (.cons (s2.it i1') i2) (congrArg (· + 1) l2) w2
/-! displays -/
def wTup (wa : DTA) : DTE := fun ρ κ P => wa ρ κ fun rs κ1 => Opt (dats κ1 rs) fun q => q.1.length ≤ sizeLine ∧ P (.d (.tuple q.1)) q.2
def wLst (wa : DTA) : DTE := fun ρ κ P => wa ρ κ fun rs κ1 => Opt (dats κ1 rs) fun q => q.1.length ≤ sizeLine ∧ P (.f q.1) q.2
theorem de_tup {x1 : Nat} (h : DA X es wr) : DE X (.Tuple es x1 pos) (wTup wr) := by
  obtain ⟨t, pt, h⟩ := h
  refine ⟨_, pe_tup pt, fun G H As σ ρ κ P Q c p w k => ?_⟩
  refine h G H As σ ρ κ _ _ c p w fun vs rs G1 H1 As1 κ1 s1 c1 p1 i1 el w1 => ?_
  obtain ⟨⟨xs, κ2⟩, e, hl, w2⟩ := w1.ex
  obtain ⟨G2, s2, c2, rp⟩ := dats_ok c1 i1 e
  exact ⟨by rw [rp.len]; exact hl, fun q hq => (out_ok (P := P) (s1.trans s2) c2 (p1.step s2) (.t xs) w2 k).1 q _ hq rp⟩
theorem de_lst (h : DA X es wr) : DE X (.List es pos) (wLst wr) := by
  obtain ⟨t, pt, h⟩ := h
  refine ⟨_, pe_lst pt, fun G H As σ ρ κ P Q c p w k => ?_⟩
  refine h G H As σ ρ κ _ _ c p w fun vs rs G1 H1 As1 κ1 s1 c1 p1 i1 el w1 => ?_
  obtain ⟨⟨xs, κ2⟩, e, hl, w2⟩ := w1.ex
  obtain ⟨G2, s2, c2, rp⟩ := dats_ok c1 i1 e
  exact ⟨by rw [rp.len]; exact hl, fun q hq => out_ok (P := P) (s1.trans s2) c2 (p1.step s2) (.n xs) w2 k q _ hq rp⟩
/-! built-ins by name -/
theorem cb_reads {t : TA} {rc : List V → Hp → VK → Prop} {g : List PyData → Option Out} (hg : CallD X.K rc g)
    (h : ∀ (G H : Hp) (As : List Addr) (σ : L2.St) (ρ : Rho) (κ : Kap) (P : List R → Kap → Prop) (Q : List V → Hp → Prop), Cells X.K G H As κ → Places X.K G As σ ρ → wr ρ κ P → (∀ vs rs G' H' As' κ', Step G H As G' H' As' → Cells X.K G' H' As' κ' → Places X.K G' As' σ ρ → Paired (It X.K G' As') vs rs → rs.length = es.length → P rs κ' → Q vs H') → t σ H Q)
    (G H : Hp) (As : List Addr) (σ : L2.St) (ρ : Rho) (κ : Kap) (P : R → Kap → Prop) (Q : VK) (c : Cells X.K G H As κ) (p : Places X.K G As σ ρ) (w : wCB g wr ρ κ P)
    (k : ∀ v r G' H' As' κ', Step G H As G' H' As' → Cells X.K G' H' As' κ' → Places X.K G' As' σ ρ → Rv X.K H G' H' As' v r → P r κ' → Q v H') : tCB rc t σ H Q := by
  refine h G H As σ ρ κ _ _ c p w fun vs rs G1 H1 As1 κ1 s1 c1 p1 i1 el w1 => ?_
  obtain ⟨xs, e, w2⟩ := w1.ex
  obtain ⟨o, eo, w3⟩ := w2.ex
  exact hg G1 H1 vs xs o Q c1.ext (vals_ok c1 i1 e) eo (out_ok s1 c1 p1 o w3 k)
theorem de_callB {id : String} {x : Str} {p : Pos} {rc : List V → Hp → VK → Prop} {g : List PyData → Option Out} (hc : CallR X (.builtin id) rc) (hgd : CallD X.K rc g) (hm : X.mg x = none) (ha : DA X (e :: es) wr) (hg : Gl X x := by rfl) (hv : bootBuiltins x = some (.builtin id) := by decide +kernel) (hn : x ≠ "__name__" := by decide) (hdb : (x == ("__debug__" : Str)) = false := by decide)
    (he : starEach (e :: es) X.env = (false, eval e X.env) :: starEach es X.env := by rfl) (hpl : (backTo pos (starEach es X.env)).any (·.1) = false := by rfl) : DE X (.Call (.Name x p) (e :: es) [] pos) (wCB g wr) := by
  obtain ⟨t, pt, h⟩ := ha
  exact ⟨_, pe_callB hc hg hm hv pt hn hdb he hpl, cb_reads hgd h⟩
theorem de_callTy {T : String} {x : Str} {p : Pos} {rc : List V → Hp → VK → Prop} {g : List PyData → Option Out} (hc : CallR X (.type T) rc) (hgd : CallD X.K rc g) (hm : X.mg x = none) (ha : DA X (e :: es) wr) (hg : Gl X x := by rfl) (hv : bootBuiltins x = some (.type T) := by decide +kernel) (hn : x ≠ "__name__" := by decide) (hdb : (x == ("__debug__" : Str)) = false := by decide)
    (he : starEach (e :: es) X.env = (false, eval e X.env) :: starEach es X.env := by rfl) (hpl : (backTo pos (starEach es X.env)).any (·.1) = false := by rfl) : DE X (.Call (.Name x p) (e :: es) [] pos) (wCB g wr) := by
  obtain ⟨t, pt, h⟩ := ha
  exact ⟨_, pe_callTy hc hg hm hv pt hn hdb he hpl, cb_reads hgd h⟩
end

/-! ### own defs: what they promise over plain data -/
def spD (K : PySem.W.Frag) (n : Nat) (Φ : List R → (R → Prop) → Prop) : Sp := fun vs H Q _ => vs.length = n ∧ ∃ (G : Hp) (rs : List R) (P : R → Prop), Ex G H ∧ Paired (It K G []) vs rs ∧ Φ rs P ∧
  ∀ v r G' H', P r → Ex G' H' → Step G H [] G' H' [] → Rv K H G' H' [] v r → Q v H'
/-- the first argument is a list that may be changed -/
def spL (K : PySem.W.Frag) (n : Nat) (Φ : List PyData → List R → (R → List PyData → Prop) → Prop) : Sp := fun vs H Q _ => vs.length = n ∧ ∃ (G : Hp) (a : Addr) (ws : List V) (bs : List PyData) (rs : List R) (P : R → List PyData → Prop),
  vs = .ref a :: ws ∧ Cells K G H [a] [.l bs] ∧ Paired (It K G []) ws rs ∧ Φ bs rs P ∧
  ∀ v r bs' G' H', P r bs' → Cells K G' H' [a] [.l bs'] → Step G H [a] G' H' [a] → Rv K H G' H' [a] v r → Q v H'
def wCall (Φ : List R → (R → Prop) → Prop) (wa : DTA) : DTE := fun ρ κ P => wa ρ κ fun rs κ1 => Opt (args κ1 rs) fun q => Φ q.1 fun r => P r q.2
def lend (κ : Kap) : List R → Option (Nat × List PyData × List R × Kap)
  | .c k :: rs => match args κ rs with
    | some (xs, κ1) => match κ1[k]? with
      | some (.l bs) => some (k, bs, xs, κ1)
      | _ => none
    | none => none
  | _ => none
/-- the def's own cell is the caller's k-th -/
def R.lab (k : Nat) : R → R
  | .c _ => .c k
  | r => r
def wCallL (Φ : List PyData → List R → (R → List PyData → Prop) → Prop) (wa : DTA) : DTE := fun ρ κ P => wa ρ κ fun rs κ1 => Opt (lend κ1 rs) fun q => Φ q.2.1 q.2.2.1 fun r bs => P (r.lab q.1) (q.2.2.2.set q.1 (.l bs))
section
variable {K : PySem.W.Frag} {G H G' H' G1 H1 H0 : Hp} {As As' As1 : List Addr} {σ : L2.St} {ρ : Rho} {κ κ' : Kap} {v : V} {r : R}
/-- behind a call that changes none of the cells -/
theorem Cells.call (c : Cells K G H As κ) (s : Step G H [] G' H' []) (e : Ex G' H') : Cells K G' H' As κ where
  ext := e
  len := c.len
  nd := c.nd
  al := fun a h => by
    obtain ⟨o, q⟩ := c.al a h
    exact ⟨o, s.fr a o (by simp) q⟩
  ok := fun k x a e1 e2 => by
    have w := c.ok k x a e1 e2
    cases x with
    | l ds =>
      obtain ⟨w1, ws, w2, w3⟩ := w
      refine ⟨?_, ws, s.fr a _ (by simp) w2, RpA.mono s.ex _ _ w3⟩
      rcases s.gn a w1 with z | z | z
      · exact z
      · rw [w2] at z; cases z
      · cases z
    | z x => exact Rp.mono s.ex _ _ w
theorem Step.wide (s : Step G H [] G' H' []) : Step G H As G' H' As :=
  ⟨s.ex, ⟨[], by simp⟩, fun _ h => .inl h, fun b o _ h => s.fr b o (by simp) h, s.dom, fun b h => by
    rcases s.gn b h with z | z | z
    · exact .inl z
    · exact .inr (.inl z)
    · cases z⟩
theorem Rv.wide (c : Cells K G H As κ) (h : Rv K H G' H' [] v r) : Rv K H G' H' As v r := by
  cases r with
  | f xs =>
    obtain ⟨p, vs, e, h0, g0, _, q⟩ := h
    exact ⟨p, vs, e, h0, g0, c.notin h0, q⟩
  | d x => exact h
  | s ns => exact h
  | c k =>
    obtain ⟨a, z, _⟩ := h
    simp at z
/-- the cell that is lent -/
theorem Cells.one {k : Nat} {a : Addr} {ds : List PyData} (c : Cells K G H As κ) (hk : κ[k]? = some (.l ds)) (ha : As[k]? = some a) : Cells K G H [a] [.l ds] where
  ext := c.ext
  len := rfl
  nd := by simp
  al := fun b h => by
    rw [List.mem_singleton] at h
    subst h
    exact c.al b (List.mem_of_getElem? ha)
  ok := fun j x b e1 e2 => by
    cases j with
    | zero =>
      cases e1
      cases e2
      exact c.ok k _ _ hk ha
    | succ j => simp at e1
theorem Cells.lent {k : Nat} {a : Addr} {ds es : List PyData} (c : Cells K G H As κ) (hk : κ[k]? = some (.l ds)) (ha : As[k]? = some a) (s : Step G H [a] G' H' [a]) (c1 : Cells K G' H' [a] [.l es]) : Cells K G' H' As (κ.set k (.l es)) where
  ext := c1.ext
  len := by rw [List.length_set]; exact c.len
  nd := c.nd
  al := fun b h => by
    obtain ⟨o, q⟩ := c.al b h
    cases z : H' b with
    | none => rw [s.dom b z] at q; cases q
    | some u => exact ⟨u, rfl⟩
  ok := fun j x b e1 e2 => by
    by_cases hj : j = k
    · subst hj
      rw [ha] at e2; cases e2
      rw [List.getElem?_set_self (List.getElem?_eq_some_iff.mp hk).1] at e1
      cases e1
      exact c1.ok 0 _ _ rfl rfl
    · rw [List.getElem?_set_ne (fun z => hj z.symm)] at e1
      have w := c.ok j x b e1 e2
      have ne : b ≠ a := fun z => hj (by
        subst z
        obtain ⟨l1, q1⟩ := List.getElem?_eq_some_iff.mp e2
        obtain ⟨l2, q2⟩ := List.getElem?_eq_some_iff.mp ha
        exact (List.getElem_inj c.nd).mp (q1.trans q2.symm))
      have ni : b ∉ [a] := by rw [List.mem_singleton]; exact ne
      cases x with
      | l ds' =>
        obtain ⟨w1, ws, w2, w3⟩ := w
        refine ⟨?_, ws, s.fr b _ ni w2, RpA.mono s.ex _ _ w3⟩
        rcases s.gn b w1 with z | z | z
        · exact z
        · rw [w2] at z; cases z
        · exact absurd z ni
      | z x => exact Rp.mono s.ex _ _ w
theorem Step.lent {a : Addr} (hm : a ∈ As) (s : Step G H [a] G' H' [a]) : Step G H As G' H' As :=
  ⟨s.ex, ⟨[], by simp⟩, fun _ h => .inl h, fun b o hb h => s.fr b o (fun z => hb (by rw [List.mem_singleton] at z; rw [z]; exact hm)) h, s.dom, fun b h => by
    rcases s.gn b h with z | z | z
    · exact .inl z
    · exact .inr (.inl z)
    · exact .inr (.inr (by rw [List.mem_singleton] at z; rw [z]; exact hm))⟩
theorem Rv.lent {k : Nat} {a : Addr} (c : Cells K G H As κ) (ha : As[k]? = some a) (h : Rv K H G' H' [a] v r) : Rv K H G' H' As v (r.lab k) := by
  cases r with
  | f xs =>
    obtain ⟨p, vs, e, h0, g0, _, q⟩ := h
    exact ⟨p, vs, e, h0, g0, c.notin h0, q⟩
  | d x => exact h
  | s ns => exact h
  | c j =>
    obtain ⟨b, e1, e2⟩ := h
    cases j with
    | zero => cases e1; exact ⟨a, ha, e2⟩
    | succ j => simp at e1
end
section
variable {X : Cx} {CX : CXT} {k : Nat} {f : Addr} {fd : FuncData} {ps : List Str} {n : Nat} {E : XK} {x : Str} {p pos : Pos} {e : Expr} {es : List Expr} {wr : DTA}
theorem de_call {Φ : List R → (R → Prop) → Prop} (F : FnOk X.prog X.w X.K X.mg X.base CX k f fd ps (spD X.K n Φ)) (hr : Room k X.A) (hm : X.mg x = some (.ref f)) (hk : PySem.W.keepIn X.K (.ref f) = true) (hb : Binds X.K fd ps []) (hx : Passes CX X E)
    (hn : n = (e :: es).length) (ha : DA X (e :: es) wr) (hg : Gl X x := by rfl) (hdb : (x == ("__debug__" : Str)) = false := by decide) (he : starEach (e :: es) X.env = (false, eval e X.env) :: starEach es X.env := by rfl) (hpl : (backTo pos (starEach es X.env)).any (·.1) = false := by rfl) :
    DE X (.Call (.Name x p) (e :: es) [] pos) (wCall Φ wr) := by
  obtain ⟨t, pt, h⟩ := ha
  refine ⟨_, pe_call F hr hg hm hk hb .nil hx pt hdb he hpl, fun G H As σ ρ κ P Q c pl w kk => ?_⟩
  refine h G H As σ ρ κ _ _ c pl w fun vs rs G1 H1 As1 κ1 s1 c1 p1 i1 el w1 => ?_
  obtain ⟨⟨xs, κ2⟩, ea, w2⟩ := w1.ex
  obtain ⟨G2, s2, c2, i2⟩ := args_ok c1 i1 ea
  rw [List.append_nil]
  refine ⟨by rw [Paired.length i1, hn]; exact el, G2, xs, _, c2.ext, i2, w2, fun v r G' H' hP hE s3 rv => ?_⟩
  have st : Step G H As G' H' As1 := (s1.trans s2).trans s3.wide
  exact kk v r G' H' As1 κ2 st (c2.call s3 hE) (pl.step st) ((rv.wide c2).back (s1.trans s2)) hP
theorem de_callL {Φ : List PyData → List R → (R → List PyData → Prop) → Prop} (F : FnOk X.prog X.w X.K X.mg X.base CX k f fd ps (spL X.K n Φ)) (hr : Room k X.A) (hm : X.mg x = some (.ref f)) (hk : PySem.W.keepIn X.K (.ref f) = true) (hb : Binds X.K fd ps []) (hx : Passes CX X E)
    (hn : n = (e :: es).length) (ha : DA X (e :: es) wr) (hg : Gl X x := by rfl) (hdb : (x == ("__debug__" : Str)) = false := by decide) (he : starEach (e :: es) X.env = (false, eval e X.env) :: starEach es X.env := by rfl) (hpl : (backTo pos (starEach es X.env)).any (·.1) = false := by rfl) :
    DE X (.Call (.Name x p) (e :: es) [] pos) (wCallL Φ wr) := by
  obtain ⟨t, pt, h⟩ := ha
  refine ⟨_, pe_call F hr hg hm hk hb .nil hx pt hdb he hpl, fun G H As σ ρ κ P Q c pl w kk => ?_⟩
  refine h G H As σ ρ κ _ _ c pl w fun vs rs G1 H1 As1 κ1 s1 c1 p1 i1 el w1 => ?_
  obtain ⟨⟨kc, bs, xs, κ2⟩, ea, w2⟩ := w1.ex
  cases rs with
  | nil => cases ea
  | cons r rs =>
    cases r with
    | d y => cases ea
    | f y => cases ea
    | s y => cases ea
    | c kk' =>
      cases i1 with
      | cons i1 i1r =>
        unfold lend at ea
        simp only at ea
        cases q2 : args κ1 rs with
        | none => rw [q2] at ea; cases ea
        | some pp =>
          obtain ⟨ys, κ3⟩ := pp
          rw [q2] at ea
          simp only at ea
          cases q3 : κ3[kk']? with
          | none => rw [q3] at ea; cases ea
          | some c3 =>
            cases c3 with
            | z y => rw [q3] at ea; cases ea
            | l ds =>
              rw [q3] at ea
              cases ea
              obtain ⟨G2, s2, c2, i2⟩ := args_ok c1 i1r q2
              obtain ⟨a, ha1, rfl⟩ := i1
              rw [List.append_nil]
              refine ⟨by rw [List.length_cons, Paired.length i1r, hn]; exact el, G2, a, _, _, _, _, rfl, c2.one q3 ha1, i2, w2, fun v r bs' G' H' hP hE s3 rv => ?_⟩
              have st : Step G H As G' H' As1 := (s1.trans s2).trans (s3.lent (List.mem_of_getElem? ha1))
              exact kk v _ G' H' As1 _ st (c2.lent q3 ha1 s3 hE) (pl.step st) ((rv.lent c2 ha1).back (s1.trans s2)) hP
end
end DL
/-! DLc: tests, targets, statements, loops, comprehensions, defs, over plain data. -/
namespace DL
open PySem PySem.Spec PyProof.Rows L2

/-! ### a value is kept: as plain data, or (m) a fresh list as a cell -/
def sto (m : Bool) (r : R) (κ : Kap) : R × Kap := match m, r with
  | true, .f xs => (.c κ.length, κ ++ [.l xs])
  | _, r => (r.st, κ)
section
variable {K : PySem.W.Frag} {G H G' H' G1 H1 H0 : Hp} {As As' As1 : List Addr} {σ : L2.St} {ρ : Rho} {κ κ' : Kap} {v : V} {r : R}
theorem sto_ok (m : Bool) (s : Step G1 H1 As1 G H As) (c : Cells K G H As κ) (h : Rv K H1 G H As v r) : ∃ G' As', Step G1 H1 As1 G' H As' ∧ Cells K G' H As' (sto m r κ).2 ∧ It K G' As' v (sto m r κ).1 ∧ Ex G G' ∧ ∃ bs, As' = As ++ bs := by
  have dflt : (sto m r κ) = (r.st, κ) → ∃ G' As', Step G1 H1 As1 G' H As' ∧ Cells K G' H As' (sto m r κ).2 ∧ It K G' As' v (sto m r κ).1 ∧ Ex G G' ∧ ∃ bs, As' = As ++ bs := fun e => by
    obtain ⟨G', s', c', _, i', e'⟩ := settle (σ := []) (ρ := []) s c ⟨rfl, fun i r h => by simp at h⟩ h
    rw [e]
    exact ⟨G', As, s', c', i', e', [], by simp⟩
  cases m with
  | false => exact dflt (by cases r <;> rfl)
  | true =>
    cases r with
    | d x => exact dflt rfl
    | c k => exact dflt rfl
    | s ns => exact dflt rfl
    | f xs =>
      obtain ⟨q, vs, rfl, h0, g0, nin, hq, rp⟩ := h
      refine ⟨G, As ++ [q], ?_, c.more g0 nin hq rp, ⟨q, ?_, rfl⟩, Ex.refl G, [q], rfl⟩
      · obtain ⟨bs, e⟩ := s.pre
        refine ⟨s.ex, ⟨bs ++ [q], by rw [e, List.append_assoc]⟩, fun a ha => ?_, s.fr, s.dom, s.gn⟩
        rcases List.mem_append.mp ha with z | z
        · exact s.new a z
        · rw [List.mem_singleton] at z
          subst z; exact .inr h0
      · show (As ++ [q])[κ.length]? = some q
        rw [← c.len, List.getElem?_append_right (Nat.le_refl _), Nat.sub_self]
        rfl
theorem Places.mono (p : Places K G As σ ρ) (e : Ex G G') (hp : ∃ bs, As' = As ++ bs) : Places K G' As' σ ρ :=
  ⟨p.len, fun i r h => by
    obtain ⟨v, h1, h2⟩ := p.ok i r h
    exact ⟨v, h1, h2.mono e hp⟩⟩
theorem Places.put (p : Places K G As σ ρ) (i : Nat) (h : It K G As v r) : Places K G As (σ.set i (some v)) (ρ.set i (some r)) :=
  ⟨by rw [List.length_set, List.length_set]; exact p.len, fun j q e => by
    by_cases hj : i = j
    · subst hj
      by_cases hi : i < ρ.length
      · rw [List.getElem?_set_self hi] at e
        cases e
        exact ⟨v, List.getElem?_set_self (by rw [p.len]; exact hi), h⟩
      · rw [List.getElem?_eq_none (by rw [List.length_set]; omega)] at e; cases e
    · rw [List.getElem?_set_ne hj] at e ⊢
      exact p.ok j q e⟩
end
def wConsM (m : Bool) (wa : DTE) (wr : DTA) : DTA := fun ρ κ P => wa ρ κ fun r κ1 => wr ρ (sto m r κ1).2 fun rs κ2 => P ((sto m r κ1).1 :: rs) κ2
section
variable {X : Cx} {e a b : Expr} {es : List Expr} {wa wb : DTE} {wr : DTA} {pos : Pos} {wt wu : DTT}
theorem da_consM (m : Bool) (ha : DE X e wa) (hr : DA X es wr) (hs : starEach (e :: es) X.env = (false, eval e X.env) :: starEach es X.env := by rfl) : DA X (e :: es) (wConsM m wa wr) := by
  obtain ⟨ta, pa, ha⟩ := ha
  obtain ⟨tr, pr, hr⟩ := hr
  refine ⟨_, pa_cons pa pr hs, fun G H As σ ρ κ P Q c p w k => ?_⟩
  refine ha G H As σ ρ κ _ _ c p w fun v1 r1 G1 H1 As1 κ1 s1 c1 p1 i1 w1 => ?_
  obtain ⟨G1', As1', s1', c1', i1', e1, e2⟩ := sto_ok m s1 c1 i1
  refine hr G1' H1 As1' σ ρ _ _ _ c1' (p1.mono e1 e2) w1 fun vs rs G2 H2 As2 κ2 s2 c2 p2 i2 l2 w2 => ?_
  exact k _ _ G2 H2 As2 κ2 (s1'.trans s2) c2 p2 (.cons (s2.it i1') i2) (congrArg (· + 1) l2) w2

/-! ### tests -/
def truth : PyData → Option Bool
  | .none => some false
  | .bool b => some b
  | .int i => some (i != 0)
  | .str z => if z.length ≤ sizeLine then some ((z.length : Int) != 0) else none
  | .list xs => some (!xs.isEmpty)
  | .tuple xs => some (!xs.isEmpty)
  | .dict _ => none
def wTru (wa : DTE) : DTT := fun ρ κ P => wa ρ κ fun r κ1 => Opt (val κ1 r.st) fun x => Opt (truth x) fun b => P b κ1
def wB (wa : DTE) : DTT := fun ρ κ P => wa ρ κ fun r κ1 => match r with
  | .d (.bool b) => P b κ1
  | _ => False
theorem tru_of {K : PySem.W.Frag} {G H : Hp} {v : V} {x : PyData} {b : Bool} (ext : Ex G H) (h : Vw K G H v x) (e : truth x = some b) : TruV K v H b := by
  have emp : ∀ {vs : List V} {ds : List PyData}, RpA K G vs ds → (!vs.isEmpty) = !ds.isEmpty := fun r => by cases r <;> rfl
  cases x with
  | none => cases e; cases h; rfl
  | bool c => cases e; cases h; rfl
  | int i => cases e; cases h; rfl
  | str z =>
    cases h
    unfold truth at e
    simp only at e
    split at e
    · cases e; exact ⟨by assumption, rfl⟩
    · cases e
  | list xs =>
    cases e
    obtain ⟨a, vs, rfl, h1, h2⟩ := h
    exact .inl ⟨vs, sql_of h1, (emp h2).symm⟩
  | tuple xs =>
    cases e
    obtain ⟨a, vs, rfl, h1, h2⟩ := h.tup ext
    exact .inr (.inl ⟨vs, h1, (emp h2).symm⟩)
  | dict _ => cases e
theorem dt_tru (ha : DE X a wa) (he : ∀ whole, isTrue a X.env whole = (do let v ← whole; standAt a.pos; holding [v] (truthy v)) := by intro _; rfl) : DT X a (wTru wa) := by
  obtain ⟨ta, pa, ha⟩ := ha
  refine ⟨_, pt_truth pa he, fun G H As σ ρ κ P Q c p w k => ?_⟩
  refine ha G H As σ ρ κ _ _ c p w fun v1 r1 G1 H1 As1 κ1 s1 c1 p1 i1 w1 => ?_
  obtain ⟨G1', s1', c1', p1', i1', _⟩ := settle s1 c1 p1 i1
  obtain ⟨x, ex, w2⟩ := w1.ex
  obtain ⟨b, eb, w3⟩ := w2.ex
  exact ⟨b, tru_of c1'.ext (i1'.vw c1' ex) eb, k b G1' H1 As1 κ1 s1' c1' p1' w3⟩
theorem dt_cmp {op : CmpOp} {r2 : R2} {g : PyData → PyData → Option Out} (ho : OpR X (compareOp op) r2) (hg : OpD X.K r2 g) (ha : DE X a wa) (hb : DE X b wb) (hm : behindInMarks op b = false) : DT X (.Compare a [op] [b] pos) (wB (wBin g wa wb)) := by
  obtain ⟨ta, pa, ha⟩ := ha
  obtain ⟨tb, pb, hb⟩ := hb
  refine ⟨_, pt_cmpR ho pa pb hm, fun G H As σ ρ κ P Q c p w k => ?_⟩
  refine bin_reads hg ha hb G H As σ ρ κ _ _ c p w fun v r G1 H1 As1 κ1 s1 c1 p1 i1 w1 => ?_
  cases r with
  | d x =>
    cases x with
    | bool z =>
      have i1 : Rp X.K G1 v (.bool z) := i1
      cases i1
      exact ⟨z, rfl, k z G1 H1 As1 κ1 s1 c1 p1 w1⟩
    | _ => exact w1.elim
  | _ => exact w1.elim
def wNot (wt : DTT) : DTT := fun ρ κ P => wt ρ κ fun b κ1 => P (!b) κ1
def wAnd (wt wu : DTT) : DTT := fun ρ κ P => wt ρ κ fun b κ1 => if b = true then wu ρ κ1 P else P false κ1
def wOr (wt wu : DTT) : DTT := fun ρ κ P => wt ρ κ fun b κ1 => if b = true then P true κ1 else wu ρ κ1 P
theorem dt_not (h : DT X a wt) : DT X (.UnaryOp .Not a pos) (wNot wt) := by
  obtain ⟨t, pt, h⟩ := h
  exact ⟨_, pt_not pt, fun G H As σ ρ κ P Q c p w k => h G H As σ ρ κ _ _ c p w fun b => k (!b)⟩
theorem dw_pt (h : DW X a wt) : DT X a wt := by
  obtain ⟨t, pt, h⟩ := h
  exact ⟨_, pt.pt, h⟩
theorem dw_and1 (h : DT X a wt) : DW X (.BoolOp .And [a] pos) wt := by
  obtain ⟨t, pt, h⟩ := h
  exact ⟨_, pw_and1 pt, h⟩
theorem dw_or1 (h : DT X a wt) : DW X (.BoolOp .Or [a] pos) wt := by
  obtain ⟨t, pt, h⟩ := h
  exact ⟨_, pw_or1 pt, h⟩
theorem dw_and (h : DT X a wt) (hb : DW X (.BoolOp .And (b :: es) pos) wu) : DW X (.BoolOp .And (a :: b :: es) pos) (wAnd wt wu) := by
  obtain ⟨t, pt, h⟩ := h
  obtain ⟨u, pu, hb⟩ := hb
  refine ⟨_, pw_and pt pu, fun G H As σ ρ κ P Q c p w k => ?_⟩
  refine h G H As σ ρ κ _ _ c p w fun z G1 H1 As1 κ1 s1 c1 p1 w1 => ?_
  cases z with
  | true =>
    rw [if_pos rfl] at w1 ⊢
    exact hb G1 H1 As1 σ ρ κ1 _ _ c1 p1 w1 fun y G2 H2 As2 κ2 s2 c2 p2 w2 => k y G2 H2 As2 κ2 (s1.trans s2) c2 p2 w2
  | false =>
    rw [if_neg (by decide)] at w1 ⊢
    exact k false G1 H1 As1 κ1 s1 c1 p1 w1
theorem dw_or (h : DT X a wt) (hb : DW X (.BoolOp .Or (b :: es) pos) wu) : DW X (.BoolOp .Or (a :: b :: es) pos) (wOr wt wu) := by
  obtain ⟨t, pt, h⟩ := h
  obtain ⟨u, pu, hb⟩ := hb
  refine ⟨_, pw_or pt pu, fun G H As σ ρ κ P Q c p w k => ?_⟩
  refine h G H As σ ρ κ _ _ c p w fun z G1 H1 As1 κ1 s1 c1 p1 w1 => ?_
  cases z with
  | false =>
    rw [if_neg (by decide)] at w1 ⊢
    exact hb G1 H1 As1 σ ρ κ1 _ _ c1 p1 w1 fun y G2 H2 As2 κ2 s2 c2 p2 w2 => k y G2 H2 As2 κ2 (s1.trans s2) c2 p2 w2
  | true =>
    rw [if_pos rfl] at w1 ⊢
    exact k true G1 H1 As1 κ1 s1 c1 p1 w1
/-! and, or, not, a if t else b as values -/
def wAndV (wa wb : DTE) : DTE := fun ρ κ P => wa ρ κ fun r κ1 => match r with
  | .d (.bool z) => if z = true then wb ρ κ1 P else P (.d (.bool false)) κ1
  | _ => False
def wOrV (wa wb : DTE) : DTE := fun ρ κ P => wa ρ κ fun r κ1 => match r with
  | .d (.bool z) => if z = true then P (.d (.bool true)) κ1 else wb ρ κ1 P
  | _ => False
def wNotV (wa : DTE) : DTE := fun ρ κ P => wa ρ κ fun r κ1 => match r with
  | .d (.bool z) => P (.d (.bool (!z))) κ1
  | _ => False
def wIf (wt : DTT) (wa wb : DTE) : DTE := fun ρ κ P => wt ρ κ fun z κ1 => if z = true then wa ρ κ1 P else wb ρ κ1 P
theorem de_one {op : BoolOp} (h : DE X a wa) : DE X (.BoolOp op [a] pos) wa := by
  obtain ⟨t, pt, h⟩ := h
  exact ⟨_, pe_one pt, h⟩
theorem de_and (ha : DE X a wa) (hb : DE X (.BoolOp .And (b :: es) pos) wb) : DE X (.BoolOp .And (a :: b :: es) pos) (wAndV wa wb) := by
  obtain ⟨t, pt, ha⟩ := ha
  obtain ⟨u, pu, hb⟩ := hb
  refine ⟨_, pe_and pt pu, fun G H As σ ρ κ P Q c p w k => ?_⟩
  refine ha G H As σ ρ κ _ _ c p w fun v r G1 H1 As1 κ1 s1 c1 p1 i1 w1 => ?_
  cases r with
  | d x =>
    cases x with
    | bool z =>
      have i1 : Rp X.K G1 v (.bool z) := i1
      cases i1
      refine ⟨z, rfl, ?_⟩
      cases z with
      | true =>
        simp only [if_pos] at w1
        rw [if_pos rfl]
        exact hb G1 H1 As1 σ ρ κ1 _ _ c1 p1 w1 fun y r2 G2 H2 As2 κ2 s2 c2 p2 i2 w2 => k y r2 G2 H2 As2 κ2 (s1.trans s2) c2 p2 (i2.back s1) w2
      | false =>
        simp only [if_neg (show ¬ false = true by decide)] at w1
        rw [if_neg (by decide)]
        exact k _ (.d (.bool false)) G1 H1 As1 κ1 s1 c1 p1 (.bl false) w1
    | _ => exact w1.elim
  | _ => exact w1.elim
theorem de_or (ha : DE X a wa) (hb : DE X (.BoolOp .Or (b :: es) pos) wb) : DE X (.BoolOp .Or (a :: b :: es) pos) (wOrV wa wb) := by
  obtain ⟨t, pt, ha⟩ := ha
  obtain ⟨u, pu, hb⟩ := hb
  refine ⟨_, pe_or pt pu, fun G H As σ ρ κ P Q c p w k => ?_⟩
  refine ha G H As σ ρ κ _ _ c p w fun v r G1 H1 As1 κ1 s1 c1 p1 i1 w1 => ?_
  cases r with
  | d x =>
    cases x with
    | bool z =>
      have i1 : Rp X.K G1 v (.bool z) := i1
      cases i1
      refine ⟨z, rfl, ?_⟩
      cases z with
      | false =>
        simp only [if_neg (show ¬ false = true by decide)] at w1
        rw [if_neg (by decide)]
        exact hb G1 H1 As1 σ ρ κ1 _ _ c1 p1 w1 fun y r2 G2 H2 As2 κ2 s2 c2 p2 i2 w2 => k y r2 G2 H2 As2 κ2 (s1.trans s2) c2 p2 (i2.back s1) w2
      | true =>
        simp only [if_pos] at w1
        rw [if_pos rfl]
        exact k _ (.d (.bool true)) G1 H1 As1 κ1 s1 c1 p1 (.bl true) w1
    | _ => exact w1.elim
  | _ => exact w1.elim
theorem de_not (ha : DE X a wa) : DE X (.UnaryOp .Not a pos) (wNotV wa) := by
  obtain ⟨t, pt, ha⟩ := ha
  refine ⟨_, pe_not pt, fun G H As σ ρ κ P Q c p w k => ?_⟩
  refine ha G H As σ ρ κ _ _ c p w fun v r G1 H1 As1 κ1 s1 c1 p1 i1 w1 => ?_
  cases r with
  | d x =>
    cases x with
    | bool z =>
      have i1 : Rp X.K G1 v (.bool z) := i1
      cases i1
      exact ⟨z, rfl, k _ (.d (.bool (!z))) G1 H1 As1 κ1 s1 c1 p1 (.bl (!z)) w1⟩
    | _ => exact w1.elim
  | _ => exact w1.elim
theorem de_ifx {t : Expr} (ht : DT X t wt) (ha : DE X a wa) (hb : DE X b wb) : DE X (.IfExp t a b pos) (wIf wt wa wb) := by
  obtain ⟨tt, pt, ht⟩ := ht
  obtain ⟨ta, pa, ha⟩ := ha
  obtain ⟨tb, pb, hb⟩ := hb
  refine ⟨_, pe_ifExp pt pa pb, fun G H As σ ρ κ P Q c p w k => ?_⟩
  refine ht G H As σ ρ κ _ _ c p w fun z G1 H1 As1 κ1 s1 c1 p1 w1 => ?_
  cases z with
  | true =>
    rw [if_pos rfl] at w1 ⊢
    exact ha G1 H1 As1 σ ρ κ1 _ _ c1 p1 w1 fun y r2 G2 H2 As2 κ2 s2 c2 p2 i2 w2 => k y r2 G2 H2 As2 κ2 (s1.trans s2) c2 p2 (i2.back s1) w2
  | false =>
    rw [if_neg (by decide)] at w1 ⊢
    exact hb G1 H1 As1 σ ρ κ1 _ _ c1 p1 w1 fun y r2 G2 H2 As2 κ2 s2 c2 p2 i2 w2 => k y r2 G2 H2 As2 κ2 (s1.trans s2) c2 p2 (i2.back s1) w2
end

/-! ### targets -/
def Wr (js : List Nat) (σ σ' : L2.St) : Prop := σ'.length = σ.length ∧ ∀ i, i ∉ js → σ'[i]? = σ[i]?
def DG (X : Cx) (e : Expr) (js : List Nat) (w : DTG) : Prop := ∃ g, PG X e g ∧ ∀ (G H : Hp) (As : List Addr) (σ : L2.St) (ρ : Rho) (κ : Kap) (v : V) (r : R) (P : Rho → Kap → Prop) (Q : L2.St → Hp → Prop), Cells X.K G H As κ → Places X.K G As σ ρ → It X.K G As v r → w r ρ κ P →
  (∀ σ' ρ' G' H' As' κ', Wr js σ σ' → Step G H As G' H' As' → Cells X.K G' H' As' κ' → Places X.K G' As' σ' ρ' → P ρ' κ' → Q σ' H') → g v σ H Q
def DGs (X : Cx) (es : List Expr) (js : List Nat) (w : List PyData → Rho → Kap → (Rho → Kap → Prop) → Prop) : Prop := ∃ g, PGs X es g ∧ ∀ (G H : Hp) (As : List Addr) (σ : L2.St) (ρ : Rho) (κ : Kap) (vs : List V) (xs : List PyData) (P : Rho → Kap → Prop) (Q : L2.St → Hp → Prop), Cells X.K G H As κ → Places X.K G As σ ρ → RpA X.K G vs xs → w xs ρ κ P →
  (∀ σ' ρ' G' H' As' κ', Wr js σ σ' → Step G H As G' H' As' → Cells X.K G' H' As' κ' → Places X.K G' As' σ' ρ' → P ρ' κ' → Q σ' H') → g vs σ H Q
theorem Wr.refl {js : List Nat} {σ : L2.St} : Wr js σ σ := ⟨rfl, fun _ _ => rfl⟩
theorem Wr.trans {js is : List Nat} {σ σ1 σ2 : L2.St} (a : Wr js σ σ1) (b : Wr is σ1 σ2) : Wr (js ++ is) σ σ2 :=
  ⟨b.1.trans a.1, fun i h => (b.2 i fun z => h (List.mem_append_right _ z)).trans (a.2 i fun z => h (List.mem_append_left _ z))⟩
theorem wipe_in {σ : L2.St} {i : Nat} : ∀ {vs : List Nat}, i ∈ vs → (wipe σ vs)[i]? = if i < σ.length then some none else none
  | [], h => by cases h
  | v :: vs, h => by
    unfold wipe
    by_cases e : v = i
    · subst e
      by_cases hl : v < σ.length
      · rw [if_pos hl, List.getElem?_set_self (by rw [wipe_length]; exact hl)]
      · rw [if_neg hl, List.getElem?_eq_none (by rw [List.length_set, wipe_length]; omega)]
    · rw [List.getElem?_set_ne e]
      rcases List.mem_cons.mp h with z | z
      · exact absurd z.symm e
      · exact wipe_in z
theorem Wr.wipe {js vs : List Nat} {σ σ' : L2.St} (w : Wr js σ σ') (h : ∀ j, j ∈ js → j ∈ vs) : wipe σ' vs = wipe σ vs := by
  refine List.ext_getElem? fun i => ?_
  by_cases hi : i ∈ vs
  · rw [wipe_in hi, wipe_in hi, w.1]
  · rw [wipe_out hi, wipe_out hi]
    exact w.2 i fun z => hi (h i z)
def wName (i : Nat) : DTG := fun r ρ κ P => P (ρ.set i (some r)) κ
def wgNil : List PyData → Rho → Kap → (Rho → Kap → Prop) → Prop := fun xs ρ κ P => match xs with
  | [] => P ρ κ
  | _ => False
def wgCons (g : DTG) (gs : List PyData → Rho → Kap → (Rho → Kap → Prop) → Prop) : List PyData → Rho → Kap → (Rho → Kap → Prop) → Prop := fun xs ρ κ P => match xs with
  | x :: xs => g (.d x) ρ κ fun ρ1 κ1 => gs xs ρ1 κ1 P
  | [] => False
def wTupG (n : Nat) (gs : List PyData → Rho → Kap → (Rho → Kap → Prop) → Prop) : DTG := fun r ρ κ P => match r with
  | .d (.tuple xs) => xs.length = n ∧ gs xs ρ κ P
  | _ => False
/-- a written tuple of names that a LIST goes to -/
def wTupL (n : Nat) (gs : List PyData → Rho → Kap → (Rho → Kap → Prop) → Prop) : DTG := fun r ρ κ P => Opt (val κ r) fun x => match x with
  | .list xs => xs.length = n ∧ gs xs ρ κ P
  | _ => False
section
variable {X : Cx} {pos : Pos} {e : Expr} {es : List Expr} {js is : List Nat} {wg : DTG} {gs : List PyData → Rho → Kap → (Rho → Kap → Prop) → Prop}
theorem dg_name (i : Nat) {x : Str} (hN : X.N.Nodup) (hi : X.N[i]? = some x := by rfl) (hx : Loc X.env.scope x := by first | exact Or.inl rfl | exact Or.inr rfl) (hf : X.fn x = true ∨ X.env.scope.names.lookup x = some .local := by first | exact .inl rfl | exact .inr rfl) : DG X (.Name x pos) [i] (wName i) := by
  refine ⟨_, pg_name hN hi hx hf, fun G H As σ ρ κ v r P Q c p h w k => ?_⟩
  refine k _ _ G H As κ ⟨by rw [List.length_set], fun j hj => List.getElem?_set_ne fun z => hj (by rw [z]; exact List.mem_singleton.mpr rfl)⟩ Step.refl c (p.put i h) w
theorem dgs_nil : DGs X [] [] wgNil := by
  refine ⟨_, pgs_nil, fun G H As σ ρ κ vs xs P Q c p h w k => ?_⟩
  cases h with
  | nil => exact ⟨rfl, k σ ρ G H As κ Wr.refl Step.refl c p w⟩
  | cons _ _ => exact w.elim
theorem dgs_cons (h1 : DG X e js wg) (h2 : DGs X es is gs) (hs : (assignEach (e :: es) X.env).map (·.2) = assign e X.env :: (assignEach es X.env).map (·.2) := by rfl) : DGs X (e :: es) (js ++ is) (wgCons wg gs) := by
  obtain ⟨g, pg, h1⟩ := h1
  obtain ⟨u, pu, h2⟩ := h2
  refine ⟨_, pgs_cons pg pu hs, fun G H As σ ρ κ vs xs P Q c p h w k => ?_⟩
  cases h with
  | nil => exact w.elim
  | cons r1 r2 =>
    refine ⟨_, _, rfl, ?_⟩
    refine h1 G H As σ ρ κ _ (.d _) _ _ c p r1 w fun σ1 ρ1 G1 H1 As1 κ1 a1 s1 c1 p1 w1 => ?_
    refine h2 G1 H1 As1 σ1 ρ1 κ1 _ _ _ _ c1 p1 (RpA.mono s1.ex _ _ r2) w1 fun σ2 ρ2 G2 H2 As2 κ2 a2 s2 c2 p2 w2 => ?_
    exact k σ2 ρ2 G2 H2 As2 κ2 (a1.trans a2) (s1.trans s2) c2 p2 w2
theorem dg_tup {k n : Nat} (hc : X.calm = true) (h : DGs X es js gs) (hn : (assignEach es X.env).length = n := by rfl) (hst : (assignEach es X.env).findIdx? (·.1) = none := by rfl) : DG X (.Tuple es k pos) js (wTupG n gs) := by
  obtain ⟨g, pg, h⟩ := h
  refine ⟨_, pg_tup hc pg hn hst, fun G H As σ ρ κ v r P Q c p i w k => ?_⟩
  unfold wTupG at w
  split at w
  · rename_i xs
    obtain ⟨hl, w⟩ := w
    have i : Rp X.K G v (.tuple xs) := i
    cases i with
    | tup h1 h2 => exact ⟨_, _, rfl, ex_st c.ext h1, h2.len.trans hl, h G H As σ ρ κ _ _ P Q c p h2 w k⟩
  · exact w.elim
theorem dg_tupL {k n : Nat} (hc : X.calm = true) (h : DGs X es js gs) (hn : (assignEach es X.env).length = n := by rfl) (hst : (assignEach es X.env).findIdx? (·.1) = none := by rfl) : DG X (.Tuple es k pos) js (wTupL n gs) := by
  obtain ⟨g, pg, h⟩ := h
  refine ⟨_, pg_unl hc pg hn hst, fun G H As σ ρ κ v r P Q c p i w k => ?_⟩
  obtain ⟨x, ex, w⟩ := w.ex
  cases x with
  | list xs =>
    obtain ⟨hl, w⟩ := w
    obtain ⟨a, vs, rfl, h1, h2⟩ := i.vw c ex
    exact ⟨a, vs, rfl, sql_of h1, h2.len.trans hl, h G H As σ ρ κ _ _ P Q c p h2 w k⟩
  | _ => exact w.elim
end

/-! ### statements -/
def wNext : DTS := fun E ρ κ => E.nx ρ κ
def wSeq (a b : DTS) : DTS := fun E ρ κ => a { E with nx := b E } ρ κ
def wAsg (we : DTE) (wg : DTG) : DTS := fun E ρ κ => we ρ κ fun r κ1 => wg r.st ρ κ1 E.nx
def wSet (m : Bool) (i : Nat) (we : DTE) : DTS := fun E ρ κ => we ρ κ fun r κ1 => E.nx (ρ.set i (some (sto m r κ1).1)) (sto m r κ1).2
def wPar (i j : Nat) (wa : DTA) : DTS := fun E ρ κ => wa ρ κ fun rs κ1 => match rs with
  | [r, q] => E.nx ((ρ.set i (some r)).set j (some q)) κ1
  | _ => False
def setN : List Nat → List R → Rho → Rho
  | i :: is, r :: rs, ρ => setN is rs (ρ.set i (some r))
  | _, _, ρ => ρ
def wTT (is : List Nat) (wa : DTA) : DTS := fun E ρ κ => wa ρ κ fun rs κ1 => rs.length = is.length ∧ is.length ≤ sizeLine ∧ E.nx (setN is rs ρ) κ1
def wDrop (we : DTE) : DTS := fun E ρ κ => we ρ κ fun _ κ1 => E.nx ρ κ1
def wRet (we : DTE) : DTS := fun E ρ κ => we ρ κ E.rt
def wRetN : DTS := fun E _ κ => E.rt (.d .none) κ
def wIfS (wt : DTT) (a b : DTS) : DTS := fun E ρ κ => wt ρ κ fun z κ1 => if z = true then a E ρ κ1 else b E ρ κ1
def wBrk : DTS := fun E ρ κ => E.bk ρ κ
def wCnt : DTS := fun E ρ κ => E.ct ρ κ
section
variable {X : Cx} {pos : Pos} {e a b tg : Expr} {es : List Expr} {st : Stmt} {sts sts2 : List Stmt} {w u : DTS} {we wa : DTE} {wr : DTA} {wt : DTT} {wg : DTG} {js : List Nat}
theorem dss_nil : DSs X [] wNext := ⟨_, pss_nil, fun G H As σ ρ κ E D c p w r => r.nx σ ρ G H As κ Step.refl c p w⟩
theorem dss_cons (h1 : DS X st w) (h2 : DSs X sts u) : DSs X (st :: sts) (wSeq w u) := by
  obtain ⟨t1, p1, h1⟩ := h1
  obtain ⟨t2, p2, h2⟩ := h2
  refine ⟨_, pss_cons p1 p2, fun G H As σ ρ κ E D c p w r => ?_⟩
  refine h1 G H As σ ρ κ { E with nx := u E } _ c p w ⟨fun σ1 ρ1 G1 H1 As1 κ1 s1 c1 pl1 w1 => ?_, r.bk, r.ct, r.rt⟩
  exact h2 G1 H1 As1 σ1 ρ1 κ1 E D c1 pl1 w1 (r.step s1)
theorem dss_one (h1 : DS X st w) : DSs X [st] w := by
  obtain ⟨t1, p1, h1⟩ := h1
  exact ⟨_, pss_one p1, h1⟩
theorem ds_pass : DS X (.Pass pos) wNext := ⟨_, ps_pass, fun G H As σ ρ κ E D c p w r => r.nx σ ρ G H As κ Step.refl c p w⟩
theorem ds_break : DS X (.Break pos) wBrk := ⟨_, ps_break, fun G H As σ ρ κ E D c p w r => r.bk σ ρ G H As κ Step.refl c p w⟩
theorem ds_continue : DS X (.Continue pos) wCnt := ⟨_, ps_continue, fun G H As σ ρ κ E D c p w r => r.ct σ ρ G H As κ Step.refl c p w⟩
theorem ds_asg (he : DE X e we) (hg : DG X tg js wg) (hs : swapsWithSole [tg] e pos.line X.env = pure false := by rfl) (hw : swappedStores [tg] e X.env = pure none := by rfl) (h1 : (assignEach [tg] X.env).map (·.2) = [assign tg X.env] := by rfl) : DS X (.Assign [tg] e pos) (wAsg we wg) := by
  obtain ⟨t, pt, he⟩ := he
  obtain ⟨g, pg, hg⟩ := hg
  refine ⟨_, ps_asg pt pg hs hw h1, fun G H As σ ρ κ E D c p w r => ?_⟩
  refine he G H As σ ρ κ _ _ c p w fun v q G1 H1 As1 κ1 s1 c1 p1 i1 w1 => ?_
  obtain ⟨G1', s1', c1', p1', i1', _⟩ := settle s1 c1 p1 i1
  refine hg G1' H1 As1 σ ρ κ1 _ _ _ _ c1' p1' i1' w1 fun σ2 ρ2 G2 H2 As2 κ2 _ s2 c2 p2 w2 => ?_
  exact r.nx σ2 ρ2 G2 H2 As2 κ2 (s1'.trans s2) c2 p2 w2
theorem ds_set (m : Bool) (i : Nat) {x : Str} {pos' : Pos} (hN : X.N.Nodup) (he : DE X e we) (hi : X.N[i]? = some x := by rfl) (hx : Loc X.env.scope x := by first | exact Or.inl rfl | exact Or.inr rfl) (hs : swapsWith e (some (.Name x pos')) pos.line X.env = pure false := by rfl)
    (hf : X.fn x = true ∨ X.env.scope.names.lookup x = some .local := by first | exact .inl rfl | exact .inr rfl) : DS X (.Assign [.Name x pos'] e pos) (wSet m i we) := by
  obtain ⟨t, pt, he⟩ := he
  refine ⟨_, ps_set hN hi hx pt hs hf, fun G H As σ ρ κ E D c p w r => ?_⟩
  refine he G H As σ ρ κ _ _ c p w fun v q G1 H1 As1 κ1 s1 c1 p1 i1 w1 => ?_
  obtain ⟨G1', As1', s1', c1', i1', e1, e2⟩ := sto_ok m s1 c1 i1
  exact r.nx _ _ G1' H1 As1' _ s1' c1' ((p1.mono e1 e2).put i i1') w1
theorem ds_par (i j : Nat) {x y : Str} {px py pt : Pos} {kt k2 : Nat} {pt2 : Pos} (hc : X.calm = true) (hN : X.N.Nodup) (ha : DA X [a, b] wr) (hi : X.N[i]? = some x := by rfl) (hj : X.N[j]? = some y := by rfl) (hij : i ≠ j := by decide)
    (hx : X.env.scope.names.lookup x = some .local := by rfl) (hy : X.env.scope.names.lookup y = some .local := by rfl)
    (hw : swappedStores [.Tuple [.Name x px, .Name y py] kt pt] (.Tuple [a, b] k2 pt2) X.env = pure (some [x, y]) := by rfl)
    (hs : swapsWithSole [.Tuple [.Name x px, .Name y py] kt pt] (.Tuple [a, b] k2 pt2) pos.line X.env = pure false := by rfl) :
    DS X (.Assign [.Tuple [.Name x px, .Name y py] kt pt] (.Tuple [a, b] k2 pt2) pos) (wPar i j wr) := by
  obtain ⟨t, ptt, ha⟩ := ha
  refine ⟨_, ps_par hc hN hi hj hij hx hy ptt hw hs, fun G H As σ ρ κ E D c p w r => ?_⟩
  refine ha G H As σ ρ κ _ _ c p w fun vs rs G1 H1 As1 κ1 s1 c1 p1 i1 l1 w1 => ?_
  match rs, vs, i1, w1 with
  | [q1, q2], _, .cons h1 (.cons h2 .nil), w1 => exact ⟨_, _, rfl, r.nx _ _ G1 H1 As1 κ1 s1 c1 ((p1.put i h1).put j h2) w1⟩
  | [], _, _, w1 => exact w1.elim
  | [_], _, _, w1 => exact w1.elim
  | _ :: _ :: _ :: _, _, _, w1 => exact w1.elim
theorem ds_expr (he : DE X e we) (hs : swapsWith e none pos.line X.env = pure false := by rfl) : DS X (.Expr e pos) (wDrop we) := by
  obtain ⟨t, pt, he⟩ := he
  refine ⟨_, ps_expr pt hs, fun G H As σ ρ κ E D c p w r => ?_⟩
  exact he G H As σ ρ κ _ _ c p w fun v q G1 H1 As1 κ1 s1 c1 p1 i1 w1 => r.nx σ ρ G1 H1 As1 κ1 s1 c1 p1 w1
theorem ds_ret (he : DE X e we) : DS X (.Return (some e) pos) (wRet we) := by
  obtain ⟨t, pt, he⟩ := he
  refine ⟨_, ps_ret pt, fun G H As σ ρ κ E D c p w r => ?_⟩
  exact he G H As σ ρ κ _ _ c p w fun v q G1 H1 As1 κ1 s1 c1 p1 i1 w1 => r.rt v q G1 H1 As1 κ1 s1 c1 i1 w1
theorem ds_retN : DS X (.Return none pos) wRetN := ⟨_, ps_retN, fun G H As σ ρ κ E D c p w r => r.rt _ (.d .none) G H As κ Step.refl c .non w⟩
theorem ds_if {t : Expr} (ht : DT X t wt) (ha : DSs X sts w) (hb : DSs X sts2 u) : DS X (.If t sts sts2 pos) (wIfS wt w u) := by
  obtain ⟨tt, pt, ht⟩ := ht
  obtain ⟨ta, pa, ha⟩ := ha
  obtain ⟨tb, pb, hb⟩ := hb
  refine ⟨_, ps_if pt pa pb, fun G H As σ ρ κ E D c p w r => ?_⟩
  refine ht G H As σ ρ κ _ _ c p w fun z G1 H1 As1 κ1 s1 c1 p1 w1 => ?_
  cases z with
  | true =>
    rw [if_pos rfl] at w1 ⊢
    exact ha G1 H1 As1 σ ρ κ1 E D c1 p1 w1 (r.step s1)
  | false =>
    rw [if_neg (by decide)] at w1 ⊢
    exact hb G1 H1 As1 σ ρ κ1 E D c1 p1 w1 (r.step s1)
end
end DL
/-! DLd: walks, for, while, comprehensions, lists changed in place, a def's body, over plain data. -/
namespace DL
open PySem PySem.Spec PyProof.Rows L2

/-! ### what a for walks -/
def WalkOk (K : PySem.W.Frag) (G : Hp) (As : List Addr) (J : L2.It) (xs : List PyData) (ok : Kap → Prop) : Prop := ∀ (G' H' : Hp) (As' : List Addr) (κ' : Kap), Ex G G' → (∃ bs, As' = As ++ bs) → Cells K G' H' As' κ' → ok κ' →
  (∀ i, i < xs.length → J.go i H') ∧ J.stop xs.length H' ∧ ∀ i v H'' x, J.yld i H' v H'' → xs[i]? = some x → ∃ G'', Step G' H' As' G'' H'' As' ∧ Cells K G'' H'' As' κ' ∧ Rp K G'' v x
abbrev DTI := Rho → Kap → (List PyData → (Kap → Prop) → Kap → Prop) → Prop
def DI (X : Cx) (tg it : Expr) (w : DTI) : Prop := ∃ t, PI X tg it t ∧ ∀ (G H : Hp) (As : List Addr) (σ : L2.St) (ρ : Rho) (κ : Kap) (P : List PyData → (Kap → Prop) → Kap → Prop) (R : L2.It → Hp → Prop), Cells X.K G H As κ → Places X.K G As σ ρ → w ρ κ P →
  (∀ J xs ok G' H' As' κ', Step G H As G' H' As' → Cells X.K G' H' As' κ' → Places X.K G' As' σ ρ → WalkOk X.K G' As' J xs ok → ok κ' → P xs ok κ' → R J H') → t σ H R
/-- a list, a tuple, a text -/
def iSeq (K : PySem.W.Frag) (tl : TE) : TI := fun σ H R => tl σ H fun x H1 => (∃ a xs, x = .ref a ∧ SqL K H1 a xs ∧ R (Itl K a) H1) ∨ (∃ a xs, x = .ref a ∧ SqT K H1 a xs ∧ R (Itt K a) H1) ∨ ∃ z, x = .str z ∧ R (Its z) H1
section
variable {X : Cx} {tg l : Expr}
theorem pi_seq {tl : TE} (hl : PE X l tl) : PI X tg l (iSeq X.K tl) := by
  refine ⟨fun pins s σ H R I h => ?_⟩
  refine thn (hl.run pins s σ H _ I h) fun v s1 ⟨x, H1, I1, r1, q1⟩ => ?_
  rcases q1 with ⟨a, xs, ex, hq, q⟩ | ⟨a, xs, ex, hq, q⟩ | ⟨z, ex, q⟩
  · subst ex
    cases r1
    obtain ⟨its, rv, pl, hz⟩ := I1.list hq
    refine wpAny_pyIter_list pl.isList ⟨s1.heap.objs.size, [s1.heap.objs.size], _, _, H1, rfl, I1.kept (t' := s1.toks) fun b o e => Heap.get?_push_of_some _ e, turn_list a _, ⟨_, Heap.get?_push_size _ rfl, rfl, rfl⟩, fun b hb => ?_, q⟩
    have e : b = s1.heap.objs.size := by simpa using hb
    subst e
    exact I1.fpOk (Nat.le_refl _) (I1.hok.fresh (Nat.le_refl _))
  · subst ex
    cases r1
    obtain ⟨its, rv, pl, hz⟩ := I1.tuple hq
    refine wpAny_pyIter_tuple (show s1.heap.IsTuple a its.toArray from pl) ⟨s1.heap.objs.size, [s1.heap.objs.size], _, _, H1, rfl, I1.kept (t' := s1.toks) fun b o e => Heap.get?_push_of_some _ e, turn_tuple a _, ⟨_, Heap.get?_push_size _ rfl, rfl, rfl⟩, fun b hb => ?_, q⟩
    have e : b = s1.heap.objs.size := by simpa using hb
    subst e
    exact I1.fpOk (Nat.le_refl _) (I1.hok.fresh (Nat.le_refl _))
  · subst ex
    obtain ⟨t, rfl⟩ := r1
    cases ha : z.cps.all (· < 128)
    · exact wpAny_pyIter_wide ha (pi_one (tk := s1.toks) I1 _ (turn_str _ z t "str_iterator" (.inr rfl)) ⟨_, Heap.get?_push_size _ rfl, rfl, rfl⟩ q)
    · exact wpAny_pyIter_ascii ha (pi_one (tk := s1.toks) I1 _ (turn_str _ z t "str_ascii_iterator" (.inl rfl)) ⟨_, Heap.get?_push_size _ rfl, rfl, rfl⟩ q)
end
def wSq (we : DTE) : DTI := fun ρ κ P => we ρ κ fun r κ1 => Opt (val κ1 r.st) fun x => match x with
  | .list xs => P xs (fun κ' => val κ' r.st = some (.list xs)) κ1
  | .tuple xs => P xs (fun κ' => val κ' r.st = some (.tuple xs)) κ1
  | .str z => P (z.cps.toList.map fun c => .str ⟨#[c]⟩) (fun _ => True) κ1
  | _ => False
section
variable {K : PySem.W.Frag} {G H G' H' : Hp} {As As' : List Addr} {κ : Kap} {v : V} {r : R}
theorem walk_list {a : Addr} {xs : List PyData} (i0 : It K G As (.ref a) r) : WalkOk K G As (Itl K a) xs fun κ' => val κ' r = some (.list xs) := by
  intro G' H' As' κ' e p c h
  obtain ⟨b, vs, ev, h1, h2⟩ := (i0.mono e p).vw c h
  cases ev
  refine ⟨fun i hi => ?_, ⟨vs, sql_of h1, by rw [h2.len]; exact Nat.le_refl _⟩, fun i v H'' x y hx => ?_⟩
  · obtain ⟨v, e1, _⟩ := h2.get (List.getElem?_eq_getElem hi)
    exact ⟨vs, v, sql_of h1, e1⟩
  · obtain ⟨rfl, y⟩ := y
    obtain ⟨d, e1, e2⟩ := h2.getV (y vs (sql_of h1))
    rw [e1] at hx
    cases hx
    exact ⟨G', Step.refl, c, e2⟩
theorem walk_tuple {a : Addr} {xs : List PyData} (i0 : It K G As (.ref a) r) : WalkOk K G As (Itt K a) xs fun κ' => val κ' r = some (.tuple xs) := by
  intro G' H' As' κ' e p c h
  obtain ⟨b, vs, ev, h1, h2⟩ := (i0.mono e p).vw c h |>.tup c.ext
  cases ev
  refine ⟨fun i hi => ?_, ⟨vs, h1, by rw [h2.len]; exact Nat.le_refl _⟩, fun i v H'' x y hx => ?_⟩
  · obtain ⟨v, e1, _⟩ := h2.get (List.getElem?_eq_getElem hi)
    exact ⟨vs, v, h1, e1⟩
  · obtain ⟨rfl, y⟩ := y
    obtain ⟨d, e1, e2⟩ := h2.getV (y vs h1)
    rw [e1] at hx
    cases hx
    exact ⟨G', Step.refl, c, e2⟩
theorem walk_str {z : Str} : WalkOk K G As (Its z) (z.cps.toList.map fun c => .str ⟨#[c]⟩) fun _ => True := by
  intro G' H' As' κ' e p c _
  refine ⟨fun i hi => by simpa [Its] using hi, by simp [Its], fun i v H'' x y hx => ?_⟩
  obtain ⟨rfl, c0, e1, rfl⟩ := y
  rw [List.getElem?_map, Array.getElem?_toList, e1] at hx
  cases hx
  exact ⟨G', Step.refl, c, .str _⟩
theorem walk_range {lo : Int} {n : Nat} : WalkOk K G As (Itr lo n) ((List.range n).map fun (i : Nat) => .int (lo + (i : Int))) fun _ => True := by
  intro G' H' As' κ' e p c _
  refine ⟨fun i hi => by simpa [Itr] using hi, by simp [Itr], fun i v H'' x y hx => ?_⟩
  obtain ⟨rfl, rfl⟩ := y
  rw [List.getElem?_map] at hx
  cases q : (List.range n)[i]? with
  | none => rw [q] at hx; cases hx
  | some j =>
    rw [q] at hx
    have : j = i := by
      obtain ⟨h1, h2⟩ := List.getElem?_eq_some_iff.mp q
      rw [List.getElem_range] at h2
      exact h2.symm
    subst this
    cases hx
    exact ⟨G', Step.refl, c, .int _⟩
theorem walk_rev {a : Addr} {xs : List PyData} (i0 : It K G As (.ref a) r) : WalkOk K G As (Itv K a xs.length) xs.reverse fun κ' => val κ' r = some (.list xs) := by
  intro G' H' As' κ' e p c h
  obtain ⟨b, vs, ev, h1, h2⟩ := (i0.mono e p).vw c h
  cases ev
  have hl := h2.len
  refine ⟨fun i hi => ?_, ?_, fun i v H'' x y hx => ?_⟩
  · rw [List.length_reverse] at hi
    have : xs.length - 1 - i < vs.length := by omega
    exact ⟨hi, vs, vs[xs.length - 1 - i], sql_of h1, List.getElem?_eq_getElem this⟩
  · show xs.length ≤ xs.reverse.length
    rw [List.length_reverse]; exact Nat.le_refl _
  · obtain ⟨rfl, y⟩ := y
    have hi : i < xs.length := by
      have := (List.getElem?_eq_some_iff.mp hx).1
      rwa [List.length_reverse] at this
    obtain ⟨d, e1, e2⟩ := h2.getV (y vs (sql_of h1))
    rw [List.getElem?_reverse hi, e1] at hx
    cases hx
    exact ⟨G', Step.refl, c, e2⟩
def zipD : List PyData → List PyData → List PyData
  | x :: xs, y :: ys => .tuple [x, y] :: zipD xs ys
  | _, _ => []
theorem zipD_get : ∀ {xs ys : List PyData} {i : Nat} {d : PyData}, (zipD xs ys)[i]? = some d → ∃ x y, xs[i]? = some x ∧ ys[i]? = some y ∧ d = .tuple [x, y]
  | [], _, _, _, h => by simp [zipD] at h
  | _ :: _, [], _, _, h => by simp [zipD] at h
  | x :: xs, y :: ys, 0, d, h => by
    simp [zipD] at h
    exact ⟨x, y, rfl, rfl, h.symm⟩
  | x :: xs, y :: ys, i + 1, d, h => by
    obtain ⟨a, b, h1, h2, h3⟩ := zipD_get (xs := xs) (ys := ys) (i := i) (by simpa [zipD] using h)
    exact ⟨a, b, by simpa using h1, by simpa using h2, h3⟩
theorem zipD_len : ∀ (xs ys : List PyData), (zipD xs ys).length = min xs.length ys.length
  | [], _ => by simp [zipD]
  | _ :: _, [] => by simp [zipD]
  | x :: xs, y :: ys => by
    show (zipD xs ys).length + 1 = min (xs.length + 1) (ys.length + 1)
    rw [zipD_len xs ys]; omega
/-- a new pair that a walk hands over -/
theorem pair_new {T : Addr} {u w : V} {x y : PyData} {H' : Hp} (c : Cells K G H As κ) (hT : H T = none) (hu : Rp K G u x) (hw : Rp K G w y) : ∃ G'', Step G H As G'' (upd H T (.tup [u, w])) As ∧ Cells K G'' (upd H T (.tup [u, w])) As κ ∧ Rp K G'' (.ref T) (.tuple [x, y]) := by
  have eG : Ex G (upd G T (.tup [u, w])) := Ex.new (c.ext.free hT)
  exact ⟨upd G T (.tup [u, w]), Step.laid c.ext hT, c.laid hT, .tup (sqt_of upd_same) (.cons (Rp.mono eG _ _ hu) (.cons (Rp.mono eG _ _ hw) .nil))⟩
theorem walk_zipL {r2 : R} {a b : Addr} {xs ys : List PyData} (i1 : It K G As (.ref a) r) (i2 : It K G As (.ref b) r2) : WalkOk K G As (Itz K a b) (zipD xs ys) fun κ' => val κ' r = some (.list xs) ∧ val κ' r2 = some (.list ys) := by
  intro G' H' As' κ' e p c ⟨h, h'⟩
  obtain ⟨_, vs, ev, h1, h2⟩ := (i1.mono e p).vw c h
  cases ev
  obtain ⟨_, ws, ev, h3, h4⟩ := (i2.mono e p).vw c h'
  cases ev
  have l1 := h2.len
  have l2 := h4.len
  refine ⟨fun i hi => ?_, ⟨vs, ws, sql_of h1, sql_of h3, ?_⟩, fun i v H'' x y hx => ?_⟩
  · rw [zipD_len] at hi
    have q1 : i < vs.length := by omega
    have q2 : i < ws.length := by omega
    exact ⟨vs, ws, _, _, sql_of h1, sql_of h3, List.getElem?_eq_getElem q1, List.getElem?_eq_getElem q2⟩
  · rw [zipD_len]; omega
  · obtain ⟨T, u, w, rfl, hT, rfl, f1, f2⟩ := y
    obtain ⟨d1, e1, r1⟩ := h2.getV (f1 vs (sql_of h1))
    obtain ⟨d2, e2, r2⟩ := h4.getV (f2 ws (sql_of h3))
    obtain ⟨x1, x2, g1, g2, rfl⟩ := zipD_get hx
    rw [e1] at g1; cases g1
    rw [e2] at g2; cases g2
    exact pair_new (H' := H') c hT r1 r2
theorem walk_zipT {r2 : R} {a b : Addr} {xs ys : List PyData} (i1 : It K G As (.ref a) r) (i2 : It K G As (.ref b) r2) : WalkOk K G As (RZ.ItzT K a b) (zipD xs ys) fun κ' => val κ' r = some (.tuple xs) ∧ val κ' r2 = some (.tuple ys) := by
  intro G' H' As' κ' e p c ⟨h, h'⟩
  obtain ⟨_, vs, ev, h1, h2⟩ := (i1.mono e p).vw c h |>.tup c.ext
  cases ev
  obtain ⟨_, ws, ev, h3, h4⟩ := (i2.mono e p).vw c h' |>.tup c.ext
  cases ev
  have l1 := h2.len
  have l2 := h4.len
  refine ⟨fun i hi => ?_, ⟨vs, ws, h1, h3, ?_⟩, fun i v H'' x y hx => ?_⟩
  · rw [zipD_len] at hi
    have q1 : i < vs.length := by omega
    have q2 : i < ws.length := by omega
    exact ⟨vs, ws, _, _, h1, h3, List.getElem?_eq_getElem q1, List.getElem?_eq_getElem q2⟩
  · rw [zipD_len]; omega
  · obtain ⟨T, u, w, rfl, hT, rfl, f1, f2⟩ := y
    obtain ⟨d1, e1, r1⟩ := h2.getV (f1 vs h1)
    obtain ⟨d2, e2, r2⟩ := h4.getV (f2 ws h3)
    obtain ⟨x1, x2, g1, g2, rfl⟩ := zipD_get hx
    rw [e1] at g1; cases g1
    rw [e2] at g2; cases g2
    exact pair_new (H' := H') c hT r1 r2
def enumD : Nat → List PyData → List PyData
  | _, [] => []
  | i, x :: xs => .tuple [.int i, x] :: enumD (i + 1) xs
theorem enumD_get : ∀ {xs : List PyData} {k i : Nat} {d : PyData}, (enumD k xs)[i]? = some d → ∃ x, xs[i]? = some x ∧ d = .tuple [.int ((k + i : Nat) : Int), x]
  | [], _, _, _, h => by simp [enumD] at h
  | x :: xs, k, 0, d, h => by
    simp [enumD] at h
    exact ⟨x, rfl, h.symm⟩
  | x :: xs, k, i + 1, d, h => by
    obtain ⟨a, h1, h2⟩ := enumD_get (xs := xs) (k := k + 1) (i := i) (by simpa [enumD] using h)
    refine ⟨a, by simpa using h1, ?_⟩
    rw [h2, show k + 1 + i = k + (i + 1) by omega]
theorem enumD_len : ∀ (k : Nat) (xs : List PyData), (enumD k xs).length = xs.length
  | _, [] => rfl
  | k, _ :: xs => congrArg (· + 1) (enumD_len (k + 1) xs)
theorem walk_enum {a : Addr} {xs : List PyData} (i1 : It K G As (.ref a) r) : WalkOk K G As (Ite K a) (enumD 0 xs) fun κ' => val κ' r = some (.list xs) := by
  intro G' H' As' κ' e p c h
  obtain ⟨_, vs, ev, h1, h2⟩ := (i1.mono e p).vw c h
  cases ev
  have l1 := h2.len
  refine ⟨fun i hi => ?_, ⟨vs, sql_of h1, by rw [enumD_len]; omega⟩, fun i v H'' x y hx => ?_⟩
  · rw [enumD_len] at hi
    have q1 : i < vs.length := by omega
    exact ⟨vs, _, sql_of h1, List.getElem?_eq_getElem q1⟩
  · obtain ⟨T, u, rfl, hT, rfl, f1⟩ := y
    obtain ⟨d1, e1, r1⟩ := h2.getV (f1 vs (sql_of h1))
    obtain ⟨x1, g1, rfl⟩ := enumD_get hx
    rw [e1] at g1; cases g1
    rw [Nat.zero_add]
    exact pair_new (H' := H') c hT (.int _) r1
end
section
variable {X : Cx} {tg l : Expr} {we : DTE} {pos p : Pos}
theorem di_seq (he : DE X l we) : DI X tg l (wSq we) := by
  obtain ⟨t, pt, he⟩ := he
  refine ⟨_, pi_seq pt, fun G H As σ ρ κ P R c p w k => ?_⟩
  refine he G H As σ ρ κ _ _ c p w fun v r G1 H1 As1 κ1 s1 c1 p1 i1 w1 => ?_
  obtain ⟨G1', s1', c1', p1', i1', _⟩ := settle s1 c1 p1 i1
  obtain ⟨x, ex, w2⟩ := w1.ex
  cases x with
  | list xs =>
    obtain ⟨a, vs, rfl, h1, h2⟩ := i1'.vw c1' ex
    exact .inl ⟨a, vs, rfl, sql_of h1, k _ xs _ G1' H1 As1 κ1 s1' c1' p1' (walk_list i1') ex w2⟩
  | tuple xs =>
    obtain ⟨a, vs, rfl, h1, h2⟩ := i1'.vw c1' ex |>.tup c1'.ext
    exact .inr (.inl ⟨a, vs, rfl, h1, k _ xs _ G1' H1 As1 κ1 s1' c1' p1' (walk_tuple i1') ex w2⟩)
  | str z =>
    have h := i1'.vw c1' ex
    cases h
    exact .inr (.inr ⟨z, rfl, k _ _ _ G1' H1 As1 κ1 s1' c1' p1' walk_str trivial w2⟩)
  | none => exact w2.elim
  | bool _ => exact w2.elim
  | int _ => exact w2.elim
  | dict _ => exact w2.elim
def wRng1 (wa : DTA) : DTI := fun ρ κ P => wa ρ κ fun rs κ1 => match rs with
  | [.d (.int n)] => -(2 ^ 62) ≤ n ∧ n < 2 ^ 62 ∧ P ((List.range n.toNat).map fun (i : Nat) => .int (0 + (i : Int))) (fun _ => True) κ1
  | _ => False
def wRng2 (wa : DTA) : DTI := fun ρ κ P => wa ρ κ fun rs κ1 => match rs with
  | [.d (.int m), .d (.int n)] => (-(2 ^ 62) ≤ m ∧ m < 2 ^ 62 ∧ -(2 ^ 62) ≤ n ∧ n < 2 ^ 62) ∧ P ((List.range (n - m).toNat).map fun (i : Nat) => .int (m + (i : Int))) (fun _ => True) κ1
  | _ => False
def wRev (wa : DTA) : DTI := fun ρ κ P => wa ρ κ fun rs κ1 => match rs with
  | [r] => Opt (val κ1 r) fun x => match x with
    | .list xs => P xs.reverse (fun κ' => val κ' r = some (.list xs)) κ1
    | _ => False
  | _ => False
def wEnum (wa : DTA) : DTI := fun ρ κ P => wa ρ κ fun rs κ1 => match rs with
  | [r] => Opt (val κ1 r) fun x => match x with
    | .list xs => P (enumD 0 xs) (fun κ' => val κ' r = some (.list xs)) κ1
    | _ => False
  | _ => False
def wZip (wa : DTA) : DTI := fun ρ κ P => wa ρ κ fun rs κ1 => match rs with
  | [r, q] => Opt (val κ1 r) fun x => Opt (val κ1 q) fun y => match x, y with
    | .list xs, .list ys => P (zipD xs ys) (fun κ' => val κ' r = some (.list xs) ∧ val κ' q = some (.list ys)) κ1
    | .tuple xs, .tuple ys => P (zipD xs ys) (fun κ' => val κ' r = some (.tuple xs) ∧ val κ' q = some (.tuple ys)) κ1
    | _, _ => False
  | _ => False
variable {wr : DTA} {a b : Expr}
theorem di_range1 (hm : X.mg "range" = none) (ha : DA X [a] wr) (hg : Gl X "range" := by rfl) (hs : starEach [a] X.env = [(false, eval a X.env)] := by rfl) : DI X tg (.Call (.Name "range" p) [a] [] pos) (wRng1 wr) := by
  obtain ⟨t, pt, ha⟩ := ha
  refine ⟨_, pi_range1 hg hm pt hs, fun G H As σ ρ κ P R c p w k => ?_⟩
  refine ha G H As σ ρ κ _ _ c p w fun vs rs G1 H1 As1 κ1 s1 c1 p1 i1 l1 w1 => ?_
  split at w1
  · rename_i n
    obtain ⟨h1, h2, w1⟩ := w1
    match vs, i1 with
    | [_], .cons z .nil =>
      have z : Rp X.K G1 _ (.int n) := z
      cases z
      exact ⟨n, rfl, h1, h2, k _ _ _ G1 H1 As1 κ1 s1 c1 p1 walk_range trivial w1⟩
  · exact w1.elim
theorem di_range2 (hm : X.mg "range" = none) (ha : DA X [a, b] wr) (hg : Gl X "range" := by rfl) (hs : starEach [a, b] X.env = [(false, eval a X.env), (false, eval b X.env)] := by rfl) (hs2 : starEach [b] X.env = [(false, eval b X.env)] := by rfl) : DI X tg (.Call (.Name "range" p) [a, b] [] pos) (wRng2 wr) := by
  obtain ⟨t, pt, ha⟩ := ha
  refine ⟨_, pi_range2 hg hm pt hs hs2, fun G H As σ ρ κ P R c p w k => ?_⟩
  refine ha G H As σ ρ κ _ _ c p w fun vs rs G1 H1 As1 κ1 s1 c1 p1 i1 l1 w1 => ?_
  split at w1
  · rename_i m n
    obtain ⟨h1, w1⟩ := w1
    match vs, i1 with
    | [_, _], .cons z (.cons y .nil) =>
      have z : Rp X.K G1 _ (.int m) := z
      have y : Rp X.K G1 _ (.int n) := y
      cases z
      cases y
      exact ⟨m, n, rfl, h1, k _ _ _ G1 H1 As1 κ1 s1 c1 p1 walk_range trivial w1⟩
  · exact w1.elim
theorem di_rev (hm : X.mg "reversed" = none) (ha : DA X [a] wr) (hg : Gl X "reversed" := by rfl) (hs : starEach [a] X.env = [(false, eval a X.env)] := by rfl) : DI X tg (.Call (.Name "reversed" p) [a] [] pos) (wRev wr) := by
  obtain ⟨t, pt, ha⟩ := ha
  refine ⟨_, pi_reversed hg hm pt hs, fun G H As σ ρ κ P R c p w k => ?_⟩
  refine ha G H As σ ρ κ _ _ c p w fun vs rs G1 H1 As1 κ1 s1 c1 p1 i1 l1 w1 => ?_
  split at w1
  · rename_i r
    obtain ⟨x, ex, w2⟩ := w1.ex
    match vs, i1 with
    | [_], .cons z .nil =>
      cases x with
      | list xs =>
        obtain ⟨a, ws, rfl, h1, h2⟩ := z.vw c1 ex
        refine ⟨a, ws, rfl, sql_of h1, ?_⟩
        rw [h2.len]
        exact k _ _ _ G1 H1 As1 κ1 s1 c1 p1 (walk_rev z) ex w2
      | _ => exact w2.elim
  · exact w1.elim
theorem di_enum {elts : List Expr} {kk : Nat} {tpos : Pos} (hm : X.mg "enumerate" = none) (ha : DA X [a] wr) (hg : Gl X "enumerate" := by rfl) (hs : starEach [a] X.env = [(false, eval a X.env)] := by rfl) : DI X (.Tuple elts kk tpos) (.Call (.Name "enumerate" p) [a] [] pos) (wEnum wr) := by
  obtain ⟨t, pt, ha⟩ := ha
  refine ⟨_, pi_enum hg hm pt hs, fun G H As σ ρ κ P R c p w k => ?_⟩
  refine ha G H As σ ρ κ _ _ c p w fun vs rs G1 H1 As1 κ1 s1 c1 p1 i1 l1 w1 => ?_
  split at w1
  · rename_i r
    obtain ⟨x, ex, w2⟩ := w1.ex
    match vs, i1 with
    | [_], .cons z .nil =>
      cases x with
      | list xs =>
        obtain ⟨a, ws, rfl, h1, h2⟩ := z.vw c1 ex
        exact ⟨a, ws, rfl, sql_of h1, k _ _ _ G1 H1 As1 κ1 s1 c1 p1 (walk_enum z) ex w2⟩
      | _ => exact w2.elim
  · exact w1.elim
theorem di_zip {elts : List Expr} {kk : Nat} {tpos : Pos} (hm : X.mg "zip" = none) (ha : DA X [a, b] wr) (hg : Gl X "zip" := by rfl) (hs : starEach [a, b] X.env = (false, eval a X.env) :: starEach [b] X.env := by rfl) (hpl : (backTo pos (starEach [b] X.env)).any (·.1) = false := by rfl) :
    DI X (.Tuple elts kk tpos) (.Call (.Name "zip" p) [a, b] [] pos) (wZip wr) := by
  obtain ⟨t, pt, ha⟩ := ha
  refine ⟨_, RZ.pi_zipA hg hm pt hs hpl, fun G H As σ ρ κ P R c p w k => ?_⟩
  refine ha G H As σ ρ κ _ _ c p w fun vs rs G1 H1 As1 κ1 s1 c1 p1 i1 l1 w1 => ?_
  split at w1
  · rename_i r q
    obtain ⟨x, ex, w2⟩ := w1.ex
    obtain ⟨y, ey, w2⟩ := w2.ex
    match vs, i1 with
    | [_, _], .cons z1 (.cons z2 .nil) =>
      split at w2
      · obtain ⟨a, ws, rfl, h1, h2⟩ := z1.vw c1 ex
        obtain ⟨b, us, rfl, h3, h4⟩ := z2.vw c1 ey
        exact ⟨a, b, ws, us, rfl, .inl ⟨sql_of h1, sql_of h3, k _ _ _ G1 H1 As1 κ1 s1 c1 p1 (walk_zipL z1 z2) ⟨ex, ey⟩ w2⟩⟩
      · obtain ⟨a, ws, rfl, h1, h2⟩ := z1.vw c1 ex |>.tup c1.ext
        obtain ⟨b, us, rfl, h3, h4⟩ := z2.vw c1 ey |>.tup c1.ext
        exact ⟨a, b, ws, us, rfl, .inr ⟨h1, h3, k _ _ _ G1 H1 As1 κ1 s1 c1 p1 (walk_zipT z1 z2) ⟨ex, ey⟩ w2⟩⟩
      · exact w2.elim
  · exact w1.elim
end

/-! ### for -/
def forL (ok : Kap → Prop) (g : DTG) (b : DTS) (E : DEnds) : List PyData → Rho → Kap → Prop
  | [], ρ, κ => E.nx ρ κ
  | x :: xs, ρ, κ => g (.d x) ρ κ fun ρ1 κ1 => b { nx := fun ρ2 κ2 => ok κ2 ∧ forL ok g b E xs ρ2 κ2, rt := E.rt, bk := E.nx, ct := fun ρ2 κ2 => ok κ2 ∧ forL ok g b E xs ρ2 κ2 } ρ1 κ1
def wFor (wi : DTI) (g : DTG) (b : DTS) : DTS := fun E ρ κ => wi ρ κ fun xs ok κ1 => forL ok g b E xs ρ κ1
def whileN (t : DTT) (b : DTS) (E : DEnds) : Nat → Rho → Kap → Prop
  | 0, _, _ => False
  | n + 1, ρ, κ => t ρ κ fun z κ1 => if z = true then b { nx := whileN t b E n, rt := E.rt, bk := E.nx, ct := whileN t b E n } ρ κ1 else E.nx ρ κ1
def wWhile (t : DTT) (b : DTS) : DTS := fun E ρ κ => ∃ n, whileN t b E n ρ κ
section
variable {X : Cx} {tg it c : Expr} {body : List Stmt} {wi : DTI} {g : DTG} {b : DTS} {js : List Nat} {pos : Pos} {wt : DTT}
theorem ds_for (hp : PassesOwn (model X.prog X.w) X.A X.env X.xe) (hc : X.calm = true) (hi : DI X tg it wi) (hg : DG X tg js g) (hb : DSs X body b) (hs : ∀ x, foldedSetIterable it X.env x = pure x := by intro _; rfl) : DS X (.For tg it body [] pos) (wFor wi g b) := by
  obtain ⟨ti, pi, hi⟩ := hi
  obtain ⟨tg', pg, hg⟩ := hg
  obtain ⟨tb, pb, hb⟩ := hb
  refine ⟨_, ps_for hp hc pi pg pb hs, fun G H As σ ρ κ E D cc p w r => ?_⟩
  refine hi G H As σ ρ κ _ _ cc p w fun J xs ok G1 H1 As1 κ1 s1 c1 p1 wk o1 w1 => ?_
  refine ⟨fun i m σ' H' => i + m = xs.length ∧ ∃ G' As' ρ' κ', Step G1 H1 As1 G' H' As' ∧ Cells X.K G' H' As' κ' ∧ Places X.K G' As' σ' ρ' ∧ ok κ' ∧ forL ok g b E (xs.drop i) ρ' κ',
    ⟨xs.length, by omega, G1, As1, ρ, κ1, Step.refl, c1, p1, o1, w1⟩, fun i m σ' H' hW => ?_⟩
  obtain ⟨em, G', As', ρ', κ', s', c', p', o', f⟩ := hW
  obtain ⟨wgo, wst, wyl⟩ := wk G' H' As' κ' s'.ex s'.pre c' o'
  cases m with
  | zero =>
    have ei : i = xs.length := by omega
    subst ei
    rw [List.drop_length] at f
    exact .inl ⟨wst, r.nx _ _ G' H' As' κ' (s1.trans s') c' p' f⟩
  | succ m =>
    have hi' : i < xs.length := by omega
    rw [List.drop_eq_getElem_cons hi'] at f
    refine .inr ⟨wgo i hi', fun σ2 H2 => ∃ G2 As2 ρ2 κ2, Step G1 H1 As1 G2 H2 As2 ∧ Cells X.K G2 H2 As2 κ2 ∧ Places X.K G2 As2 σ2 ρ2 ∧ ok κ2 ∧ forL ok g b E (xs.drop (i + 1)) ρ2 κ2,
      fun σ2 H2 ⟨G2, As2, ρ2, κ2, q⟩ => ⟨m, by omega, by omega, G2, As2, ρ2, κ2, q⟩, fun v H2 hy => ?_⟩
    obtain ⟨G2, s2, c2, r2⟩ := wyl i v H2 _ hy (List.getElem?_eq_getElem hi')
    refine hg G2 H2 As' σ' ρ' κ' v (.d xs[i]) _ _ c2 (p'.step s2) r2 f fun σ3 ρ3 G3 H3 As3 κ3 _ s3 c3 p3 w3 => ?_
    have st : Step G1 H1 As1 G3 H3 As3 := (s'.trans s2).trans s3
    refine hb G3 H3 As3 σ3 ρ3 κ3 _ _ c3 p3 w3 ⟨fun a b' c d e f' x y z q => ⟨c, e, b', f', st.trans x, y, z, q.1, q.2⟩, fun a b' c d e f' x y z q => r.nx a b' c d e f' ((s1.trans st).trans x) y z q, fun a b' c d e f' x y z q => ⟨c, e, b', f', st.trans x, y, z, q.1, q.2⟩, fun a b' c d e f' x y z q => r.rt a b' c d e f' ((s1.trans st).trans x) y (z.back (s1.trans st)) q⟩
theorem ds_while (hp : PassesOwn (model X.prog X.w) X.A X.env X.xe) (ht : DT X c wt) (hb : DSs X body b) : DS X (.While c body [] pos) (wWhile wt b) := by
  obtain ⟨tt, pt, ht⟩ := ht
  obtain ⟨tb, pb, hb⟩ := hb
  refine ⟨_, ps_while hp pt pb, fun G H As σ ρ κ E D cc p w r => ?_⟩
  obtain ⟨n, w⟩ := w
  refine ⟨fun m σ' H' => ∃ G' As' ρ' κ', Step G H As G' H' As' ∧ Cells X.K G' H' As' κ' ∧ Places X.K G' As' σ' ρ' ∧ whileN wt b E m ρ' κ', ⟨n, G, As, ρ, κ, Step.refl, cc, p, w⟩, fun m σ' H' hW => ?_⟩
  obtain ⟨G', As', ρ', κ', s', c', p', f⟩ := hW
  cases m with
  | zero => exact f.elim
  | succ m =>
    refine ht G' H' As' σ' ρ' κ' _ _ c' p' f fun z G1 H1 As1 κ1 s1 c1 p1 w1 => ?_
    cases z with
    | false =>
      rw [if_neg (by decide)] at w1 ⊢
      exact r.nx _ _ G1 H1 As1 κ1 (s'.trans s1) c1 p1 w1
    | true =>
      rw [if_pos rfl] at w1 ⊢
      have st : Step G H As G1 H1 As1 := s'.trans s1
      refine ⟨fun σ2 H2 => ∃ G2 As2 ρ2 κ2, Step G H As G2 H2 As2 ∧ Cells X.K G2 H2 As2 κ2 ∧ Places X.K G2 As2 σ2 ρ2 ∧ whileN wt b E m ρ2 κ2, fun σ2 H2 q => ⟨m, Nat.lt_succ_self m, q⟩, ?_⟩
      exact hb G1 H1 As1 σ' ρ' κ1 _ _ c1 p1 w1 ⟨fun a b' c d e f' x y z q => ⟨c, e, b', f', st.trans x, y, z, q⟩, fun a b' c d e f' x y z q => r.nx a b' c d e f' (st.trans x) y z q, fun a b' c d e f' x y z q => ⟨c, e, b', f', st.trans x, y, z, q⟩, fun a b' c d e f' x y z q => r.rt a b' c d e f' (st.trans x) y (z.back st) q⟩
end

/-! ### comprehensions -/
def wipeR (ρ : Rho) : List Nat → Rho
  | [] => ρ
  | v :: vs => (wipeR ρ vs).set v none
theorem wipeR_some {ρ : Rho} {i : Nat} {x : R} : ∀ {vs : List Nat}, (wipeR ρ vs)[i]? = some (some x) → ρ[i]? = some (some x) ∧ i ∉ vs
  | [], h => ⟨h, by simp⟩
  | v :: vs, h => by
    unfold wipeR at h
    by_cases hi : v = i
    · subst hi
      by_cases hv : v < (wipeR ρ vs).length
      · rw [List.getElem?_set_self hv] at h; cases h
      · rw [List.getElem?_eq_none (by rw [List.length_set]; omega)] at h; cases h
    · rw [List.getElem?_set_ne hi] at h
      obtain ⟨h1, h2⟩ := wipeR_some h
      exact ⟨h1, by simp only [List.mem_cons, not_or]; exact ⟨fun e => hi e.symm, h2⟩⟩
theorem wipeR_len (ρ : Rho) : ∀ vs : List Nat, (wipeR ρ vs).length = ρ.length
  | [] => rfl
  | v :: vs => by unfold wipeR; rw [List.length_set, wipeR_len ρ vs]
theorem Places.wipe {K : PySem.W.Frag} {G : Hp} {As : List Addr} {σ : L2.St} {ρ : Rho} (p : Places K G As σ ρ) (vs : List Nat) : Places K G As (wipe σ vs) (wipeR ρ vs) :=
  ⟨by rw [wipe_length, wipeR_len]; exact p.len, fun i r h => by
    obtain ⟨h1, h2⟩ := wipeR_some h
    obtain ⟨v, e, q⟩ := p.ok i r h1
    exact ⟨v, by rw [wipe_out h2]; exact e, q⟩⟩
def lcL (ok : Kap → Prop) (g : DTG) (t : DTT) (e : DTE) (ρw : Rho) (P : R → Kap → Prop) : List PyData → List PyData → Kap → Prop
  | [], acc, κ => P (.f acc) κ
  | x :: xs, acc, κ => g (.d x) ρw κ fun ρ1 κ1 => t ρ1 κ1 fun b κ2 => if b = true then e ρ1 κ2 fun r κ3 => Opt (dat κ3 r.st) fun q => acc.length < sizeLine ∧ ok q.2 ∧ lcL ok g t e ρw P xs (acc ++ [q.1]) q.2 else ok κ2 ∧ lcL ok g t e ρw P xs acc κ2
def wLc (wi : DTI) (g : DTG) (t : DTT) (e : DTE) (vs : List Nat) : DTE := fun ρ κ P => wi ρ κ fun xs ok κ1 => lcL ok g t e (wipeR ρ vs) P xs [] κ1
def wYes : DTT := fun _ κ P => P true κ
def DTs (X : Cx) (ifs : List Expr) (w : DTT) : Prop := ∃ t, PTs X ifs t ∧ ∀ (G H : Hp) (As : List Addr) (σ : L2.St) (ρ : Rho) (κ : Kap) (P : Bool → Kap → Prop) (Q : Bool → Hp → Prop), Cells X.K G H As κ → Places X.K G As σ ρ → w ρ κ P →
  (∀ b G' H' As' κ', Step G H As G' H' As' → Cells X.K G' H' As' κ' → Places X.K G' As' σ ρ → P b κ' → Q b H') → t σ H Q
section
variable {X : Cx}
theorem dts_nil : DTs X [] wYes := ⟨_, pts_nil, fun G H As σ ρ κ P Q c p w k => k true G H As κ Step.refl c p w⟩
theorem dts_one {c : Expr} {wt : DTT} (h : DT X c wt) : DTs X [c] wt := by
  obtain ⟨t, pt, h⟩ := h
  exact ⟨_, pts_one pt, h⟩
/-- where a block's parts are read: its context, whatever it is -/
structure BI where
  s : Shared
  H : Hp
  C : Addr
  cl : List (Str × Addr)
  fp : List Addr
abbrev BI.cx (i : BI) (X : Cx) (scope : Scope) : Cx := X.blk i.s i.H scope (compEnvC scope i.cl i.C X.env) i.fp
/-- one reading for all contexts -/
theorem uni_G {scope : Scope} {tg : Expr} {js : List Nat} {w : DTG} (h : ∀ i : BI, DG (i.cx X scope) tg js w) : ∃ g, (∀ i : BI, PG (i.cx X scope) tg g) ∧ ∀ (G H : Hp) (As : List Addr) (σ : L2.St) (ρ : Rho) (κ : Kap) (v : V) (r : R) (P : Rho → Kap → Prop) (Q : L2.St → Hp → Prop), Cells X.K G H As κ → Places X.K G As σ ρ → It X.K G As v r → w r ρ κ P →
    (∀ σ' ρ' G' H' As' κ', Wr js σ σ' → Step G H As G' H' As' → Cells X.K G' H' As' κ' → Places X.K G' As' σ' ρ' → P ρ' κ' → Q σ' H') → g v σ H Q := by
  obtain ⟨f, hf⟩ := Classical.skolem.mp h
  exact ⟨fun v σ H Q => ∀ i, f i v σ H Q, fun i => ⟨fun pins s σ H v u Q I r q => (hf i).1.run pins s σ H v u Q I r (q i)⟩, fun G H As σ ρ κ v r P Q c p i0 w k i => (hf i).2 G H As σ ρ κ v r P Q c p i0 w k⟩
theorem uni_T {scope : Scope} {ifs : List Expr} {w : DTT} (h : ∀ i : BI, DTs (i.cx X scope) ifs w) : ∃ t, (∀ i : BI, PTs (i.cx X scope) ifs t) ∧ ∀ (G H : Hp) (As : List Addr) (σ : L2.St) (ρ : Rho) (κ : Kap) (P : Bool → Kap → Prop) (Q : Bool → Hp → Prop), Cells X.K G H As κ → Places X.K G As σ ρ → w ρ κ P →
    (∀ b G' H' As' κ', Step G H As G' H' As' → Cells X.K G' H' As' κ' → Places X.K G' As' σ ρ → P b κ' → Q b H') → t σ H Q := by
  obtain ⟨f, hf⟩ := Classical.skolem.mp h
  exact ⟨fun σ H Q => ∀ i, f i σ H Q, fun i => ⟨fun pins s σ H Q I q => (hf i).1.run pins s σ H Q I (q i)⟩, fun G H As σ ρ κ P Q c p w k i => (hf i).2 G H As σ ρ κ P Q c p w k⟩
theorem uni_E {scope : Scope} {e : Expr} {w : DTE} (h : ∀ i : BI, DE (i.cx X scope) e w) : ∃ t, (∀ i : BI, PE (i.cx X scope) e t) ∧ ∀ (G H : Hp) (As : List Addr) (σ : L2.St) (ρ : Rho) (κ : Kap) (P : R → Kap → Prop) (Q : VK), Cells X.K G H As κ → Places X.K G As σ ρ → w ρ κ P →
    (∀ v r G' H' As' κ', Step G H As G' H' As' → Cells X.K G' H' As' κ' → Places X.K G' As' σ ρ → Rv X.K H G' H' As' v r → P r κ' → Q v H') → t σ H Q := by
  obtain ⟨f, hf⟩ := Classical.skolem.mp h
  exact ⟨fun σ H Q => ∀ i, f i σ H Q, fun i => ⟨fun pins s σ H Q I q => (hf i).1.run pins s σ H Q I (q i)⟩, fun G H As σ ρ κ P Q c p w k i => (hf i).2 G H As σ ρ κ P Q c p w k⟩
variable {elt tg iter : Expr} {ifs : List Expr} {scope : Scope} {own : List (Str × Nat)} {pos : Pos} {wi : DTI} {g : DTG} {wt : DTT} {we : DTE} {js : List Nat}
theorem lc_reads {ti : TI} {gg : TG} {tt : TT} {te : TE} {vs : List Nat} (hj : ∀ j, j ∈ js → j ∈ vs)
    (hi : ∀ (G H : Hp) (As : List Addr) (σ : L2.St) (ρ : Rho) (κ : Kap) (P : List PyData → (Kap → Prop) → Kap → Prop) (R : L2.It → Hp → Prop), Cells X.K G H As κ → Places X.K G As σ ρ → wi ρ κ P → (∀ J xs ok G' H' As' κ', Step G H As G' H' As' → Cells X.K G' H' As' κ' → Places X.K G' As' σ ρ → WalkOk X.K G' As' J xs ok → ok κ' → P xs ok κ' → R J H') → ti σ H R)
    (hg : ∀ (G H : Hp) (As : List Addr) (σ : L2.St) (ρ : Rho) (κ : Kap) (v : V) (r : R) (P : Rho → Kap → Prop) (Q : L2.St → Hp → Prop), Cells X.K G H As κ → Places X.K G As σ ρ → It X.K G As v r → g r ρ κ P → (∀ σ' ρ' G' H' As' κ', Wr js σ σ' → Step G H As G' H' As' → Cells X.K G' H' As' κ' → Places X.K G' As' σ' ρ' → P ρ' κ' → Q σ' H') → gg v σ H Q)
    (ht : ∀ (G H : Hp) (As : List Addr) (σ : L2.St) (ρ : Rho) (κ : Kap) (P : Bool → Kap → Prop) (Q : Bool → Hp → Prop), Cells X.K G H As κ → Places X.K G As σ ρ → wt ρ κ P → (∀ b G' H' As' κ', Step G H As G' H' As' → Cells X.K G' H' As' κ' → Places X.K G' As' σ ρ → P b κ' → Q b H') → tt σ H Q)
    (he : ∀ (G H : Hp) (As : List Addr) (σ : L2.St) (ρ : Rho) (κ : Kap) (P : R → Kap → Prop) (Q : VK), Cells X.K G H As κ → Places X.K G As σ ρ → we ρ κ P → (∀ v r G' H' As' κ', Step G H As G' H' As' → Cells X.K G' H' As' κ' → Places X.K G' As' σ ρ → Rv X.K H G' H' As' v r → P r κ' → Q v H') → te σ H Q)
    (G H : Hp) (As : List Addr) (σ : L2.St) (ρ : Rho) (κ : Kap) (P : R → Kap → Prop) (Q : VK) (c : Cells X.K G H As κ) (p : Places X.K G As σ ρ) (w : wLc wi g wt we vs ρ κ P)
    (k : ∀ v r G' H' As' κ', Step G H As G' H' As' → Cells X.K G' H' As' κ' → Places X.K G' As' σ ρ → Rv X.K H G' H' As' v r → P r κ' → Q v H') : tLc ti gg tt te vs σ H Q := by
  refine hi G H As σ ρ κ _ _ c p w fun J xs ok G1 H1 As1 κ1 s1 c1 p1 wk o1 w1 => fun D hD => ?_
  have gD1 : G1 D = none := c1.ext.free hD
  have nD1 : D ∉ As1 := c1.notin hD
  -- the list that is made stands at D, is known to nobody, and only the turns change it
  let W : Nat → Hp → Prop := fun i H' => ∃ G' As' κ' acc vs', Step G1 H1 As1 G' H' As' ∧ Cells X.K G' H' As' κ' ∧ G' D = none ∧ D ∉ As' ∧ H' D = some (.lst vs') ∧ RpA X.K G' vs' acc ∧ ok κ' ∧ lcL ok g wt we (wipeR ρ vs) P (xs.drop i) acc κ'
  -- a step keeps the list at D as it is
  have keep : ∀ {Ga Ha Asa Gb Hb Asb} {vs' : List V}, Step Ga Ha Asa Gb Hb Asb → Ga D = none → D ∉ Asa → Ha D = some (.lst vs') → Gb D = none ∧ D ∉ Asb ∧ Hb D = some (.lst vs') := fun s g0 n0 h0 => by
    refine ⟨?_, fun hm => ?_, s.fr D _ n0 h0⟩
    · rcases s.gn D g0 with z | z | z
      · exact z
      · rw [h0] at z; cases z
      · exact absurd z n0
    · rcases s.new D hm with z | z
      · exact n0 z
      · rw [h0] at z; cases z
  -- a turn's end: the item goes onto the list
  have grow : ∀ {G' H' As' κ' acc vs' v y i}, Step G1 H1 As1 G' H' As' → Cells X.K G' H' As' κ' → G' D = none → D ∉ As' → H' D = some (.lst vs') → RpA X.K G' vs' acc → Rp X.K G' v y → ok κ' → lcL ok g wt we (wipeR ρ vs) P (xs.drop i) (acc ++ [y]) κ' → W i (upd H' D (.lst (vs' ++ [v]))) := fun {G' H' As' κ' acc vs' v y i} s c g0 n0 h0 rp rv o f => by
    refine ⟨G', As', κ', acc ++ [y], vs' ++ [v], ⟨s.ex, s.pre, s.new, fun b u hb e => ?_, fun b e => ?_, s.gn⟩, ⟨c.ext.mut g0, c.len, c.nd, fun a ha => ?_, fun j x a e1 e2 => ?_⟩, g0, n0, upd_same, rp.app (.cons rv .nil), o, f⟩
    · by_cases q : b = D
      · subst q; rw [hD] at e; cases e
      · rw [upd_ne q]; exact s.fr b u hb e
    · by_cases q : b = D
      · subst q; rw [upd_same] at e; cases e
      · rw [upd_ne q] at e; exact s.dom b e
    · by_cases q : a = D
      · subst q; exact ⟨_, upd_same⟩
      · rw [upd_ne q]; exact c.al a ha
    · have z := c.ok j x a e1 e2
      cases x with
      | l ds =>
        obtain ⟨z1, ws, z2, z3⟩ := z
        have ne : a ≠ D := fun q => n0 (by rw [← q]; exact List.mem_of_getElem? e2)
        exact ⟨z1, ws, by rw [upd_ne ne]; exact z2, z3⟩
      | z x => exact z
  refine ⟨fun i m H' => i + m = xs.length ∧ W i H', ⟨xs.length, by omega, G1, As1, κ1, [], [], Step.fresh hD, c1.fresh hD, gD1, nD1, upd_same, .nil, o1, w1⟩, fun i m H' hW => ?_⟩
  obtain ⟨em, G', As', κ', acc, vs', s', c', g', n', h', rp, o', f⟩ := hW
  obtain ⟨wgo, wst, wyl⟩ := wk G' H' As' κ' s'.ex s'.pre c' o'
  cases m with
  | zero =>
    have ei : i = xs.length := by omega
    subst ei
    rw [List.drop_length] at f
    have st := s1.trans s'
    exact .inl ⟨wst, k _ (.f acc) G' H' As' κ' st c' (p.step st) ⟨D, vs', rfl, s1.dom D hD, g', n', h', rp⟩ f⟩
  | succ m =>
    have hi' : i < xs.length := by omega
    rw [List.drop_eq_getElem_cons hi'] at f
    refine .inr ⟨wgo i hi', W (i + 1), fun H2 q => ⟨m, by omega, by omega, q⟩, fun v H2 hy => ?_⟩
    obtain ⟨G2, s2, c2, r2⟩ := wyl i v H2 _ hy (List.getElem?_eq_getElem hi')
    obtain ⟨g2, n2, h2⟩ := keep s2 g' n' h'
    refine hg G2 H2 As' (wipe σ vs) (wipeR ρ vs) κ' v (.d xs[i]) _ _ c2 ((p.step ((s1.trans s').trans s2)).wipe vs) r2 f fun σ3 ρ3 G3 H3 As3 κ3 a3 s3 c3 p3 w3 => ⟨?_, ?_⟩
    · have hw : wipe (wipe σ vs) vs = wipe σ vs := by
        refine List.ext_getElem? fun j => ?_
        by_cases hj : j ∈ vs
        · rw [wipe_in hj, wipe_in hj, wipe_length]
        · rw [wipe_out hj]
      rw [← hw]
      have q := a3.wipe hj
      rw [q]
    · obtain ⟨g3, n3, h3⟩ := keep s3 g2 n2 h2
      refine ht G3 H3 As3 σ3 ρ3 κ3 _ _ c3 p3 w3 fun z G4 H4 As4 κ4 s4 c4 p4 w4 => ?_
      obtain ⟨g4, n4, h4⟩ := keep s4 g3 n3 h3
      have st4 : Step G1 H1 As1 G4 H4 As4 := ((s'.trans s2).trans s3).trans s4
      cases z with
      | false =>
        rw [if_neg (by decide)] at w4 ⊢
        exact ⟨G4, As4, κ4, acc, vs', st4, c4, g4, n4, h4, RpA.mono (((s2.trans s3).trans s4)).ex _ _ rp, w4.1, w4.2⟩
      | true =>
        rw [if_pos rfl] at w4 ⊢
        refine he G4 H4 As4 σ3 ρ3 κ4 _ _ c4 p4 w4 fun v5 r5 G5 H5 As5 κ5 s5 c5 p5 i5 w5 => ?_
        obtain ⟨G5', s5', c5', p5', i5', _⟩ := settle s5 c5 p5 i5
        obtain ⟨⟨y, κ6⟩, e6, hl, ho, w6⟩ := w5.ex
        obtain ⟨G6, s6, c6, r6⟩ := dat_ok c5' i5' e6
        have st6 := s5'.trans s6
        obtain ⟨g6, n6, h6⟩ := keep st6 g4 n4 h4
        have rp6 := RpA.mono ((((s2.trans s3).trans s4)).trans st6).ex _ _ rp
        refine ⟨vs', h6, by rw [rp6.len]; exact hl, ?_⟩
        exact grow (st4.trans st6) c6 g6 n6 h6 rp6 r6 ho w6
theorem de_lc (hc : X.calm = true) (hN : X.N.Nodup) (hi : DI X tg iter wi) (ok : BlkOk X.N X.env.scope scope own) (hg : ∀ i : BI, DG (i.cx X scope) tg js g) (ht : ∀ i : BI, DTs (i.cx X scope) ifs wt) (he : ∀ i : BI, DE (i.cx X scope) elt we)
    (hj : ∀ j, j ∈ js → j ∈ own.map (·.2) := by decide) (hs : ∀ x, foldedSetIterable iter X.env x = pure x := by intro _; rfl) : DE X (.ListComp elt [⟨tg, iter, ifs, 0⟩] scope pos) (wLc wi g wt we (own.map (·.2))) := by
  obtain ⟨ti, pi, hi⟩ := hi
  obtain ⟨gg, pg, hg⟩ := uni_G hg
  obtain ⟨tt, pt, ht⟩ := uni_T ht
  obtain ⟨te, pe, he⟩ := uni_E he
  exact ⟨_, pe_lc hc hN pi ok (fun s H C cl fp => pg ⟨s, H, C, cl, fp⟩) (fun s H C cl fp => pt ⟨s, H, C, cl, fp⟩) (fun s H C cl fp => pe ⟨s, H, C, cl, fp⟩) hs, lc_reads hj hi hg ht he⟩
/-- name = [..] -/
theorem ds_setLc (m : Bool) (i : Nat) {y : Str} {py spos : Pos} (hc : X.calm = true) (hN : X.N.Nodup) (hsw : swapsWith (.ListComp elt [⟨tg, iter, ifs, 0⟩] scope pos) (some (.Name y py)) spos.line X.env = pure true) (hi : DI X tg iter wi) (ok : BlkOk X.N X.env.scope scope own) (hg : ∀ i : BI, DG (i.cx X scope) tg js g) (ht : ∀ i : BI, DTs (i.cx X scope) ifs wt) (he : ∀ i : BI, DE (i.cx X scope) elt we)
    (hy : X.N[i]? = some y := by rfl) (hyl : X.env.scope.names.lookup y = some .local := by rfl) (hj : ∀ j, j ∈ js → j ∈ own.map (·.2) := by decide) (hs : ∀ x, foldedSetIterable iter X.env x = pure x := by intro _; rfl) :
    DS X (.Assign [.Name y py] (.ListComp elt [⟨tg, iter, ifs, 0⟩] scope pos) spos) (wSet m i (wLc wi g wt we (own.map (·.2)))) := by
  obtain ⟨ti, pi, hi⟩ := hi
  obtain ⟨gg, pg, hg⟩ := uni_G hg
  obtain ⟨tt, pt, ht⟩ := uni_T ht
  obtain ⟨te, pe, he⟩ := uni_E he
  refine ⟨_, ps_setLc hc hN hy hyl hsw pi ok (fun s H C cl fp => pg ⟨s, H, C, cl, fp⟩) (fun s H C cl fp => pt ⟨s, H, C, cl, fp⟩) (fun s H C cl fp => pe ⟨s, H, C, cl, fp⟩) hs, fun G H As σ ρ κ E D c p w r => ?_⟩
  refine lc_reads hj hi hg ht he G H As σ ρ κ _ _ c p w fun v q G1 H1 As1 κ1 s1 c1 p1 i1 w1 => ?_
  obtain ⟨G1', As1', s1', c1', i1', e1, e2⟩ := sto_ok m s1 c1 i1
  exact r.nx _ _ G1' H1 As1' _ s1' c1' ((p1.mono e1 e2).put i i1') w1
end

/-! ### lists changed in place -/
def wAppend (wo wa : DTE) : DTE := fun ρ κ P => wo ρ κ fun ro κ1 => (match ro with
  | .c k => (∃ zs, κ1[k]? = some (.l zs)) ∧ wa ρ κ1 fun r κ2 => Opt (dat κ2 r.st) fun q => match q.2[k]? with
    | some (.l xs) => xs.length < sizeLine ∧ P (.d .none) (q.2.set k (.l (xs ++ [q.1])))
    | _ => False
  | _ => False)
/-- o[i] = v -/
def wSub (wo wi : DTE) : DTG := fun r ρ κ P => Opt (dat κ r) fun q => wo ρ q.2 fun ro κ1 => match ro with
  | .c k => wi ρ κ1 fun ri κ2 => match ri, κ2[k]? with
    | .d (.int i), some (.l xs) => Opt (ixN xs.length i) fun j => P ρ (κ2.set k (.l (xs.set j q.1)))
    | _, _ => False
  | _ => False
section
variable {X : Cx} {o a i : Expr} {wo wa wi : DTE} {apos cpos pos : Pos}
theorem de_append (ho : DE X o wo) (ha : DE X a wa) (hbase : attributeBase o "append" X.env (eval o X.env) = eval o X.env := by rfl)
    (hfew : ((backTo cpos (starEach [a] X.env)).all (fun x => !x.1) && (backToKw cpos (keywordEach [] X.env)).all (fun x => x.1.isSome) && decide (([a] : List Expr).length + ([] : List Keyword).length + (if ([] : List Keyword).isEmpty then 0 else 1) < 30)) = true := by rfl)
    (hline : (apos.endLine == cpos.line) = true := by rfl) (hs : starEach [a] X.env = (false, eval a X.env) :: starEach [] X.env := by rfl) (hplain : (backTo cpos (starEach [] X.env)).any (·.1) = false := by rfl) :
    DE X (.Call (.Attribute o "append" apos) [a] [] cpos) (wAppend wo wa) := by
  obtain ⟨to, po, ho⟩ := ho
  obtain ⟨ta, pa, ha⟩ := ha
  refine ⟨_, pe_bm PySem.F.plainAttrs_list PySem.F.slot_list_append PySem.F.type_list_append mt_append po (pa_cons pa pa_nil hs) hbase hfew hline hs hplain, fun G H As σ ρ κ P Q c p w k => ?_⟩
  refine ho G H As σ ρ κ _ _ c p w fun v1 r1 G1 H1 As1 κ1 s1 c1 p1 i1 w1 => ?_
  cases r1 with
  | c kk =>
    obtain ⟨l, hl, rfl⟩ := i1
    obtain ⟨⟨zs, ez⟩, w1⟩ := w1
    obtain ⟨_, zv, z2, _⟩ := c1.ok kk _ l ez hl
    refine ⟨.inl ⟨rfl, zv, sql_of z2⟩, ?_⟩
    refine ha G1 H1 As1 σ ρ κ1 _ _ c1 p1 w1 fun v2 r2 G2 H2 As2 κ2 s2 c2 p2 i2 w2 => ?_
    obtain ⟨G2', s2', c2', p2', i2', _⟩ := settle s2 c2 p2 i2
    obtain ⟨⟨x, κ3⟩, e3, w3⟩ := w2.ex
    obtain ⟨G3, s3, c3, r3⟩ := dat_ok c2' i2' e3
    have st := s2'.trans s3
    obtain ⟨bs, eb⟩ := st.pre
    have hl3 : As2[kk]? = some l := by rw [eb, List.getElem?_append_left (List.getElem?_eq_some_iff.mp hl).1]; exact hl
    simp only at w3
    cases q : κ3[kk]? with
    | none => rw [q] at w3; exact w3.elim
    | some cc =>
      rw [q] at w3
      cases cc with
      | z y => exact w3.elim
      | l xs =>
        obtain ⟨w4, w5⟩ := w3
        obtain ⟨g0, vs, hq, rp⟩ := c3.ok kk _ l q hl3
        refine ⟨l, vs, v2, rfl, rfl, hq, by rw [rp.len]; exact w4, ?_⟩
        have sw : Step G3 H2 As2 G3 (upd H2 l (.lst (vs ++ [v2]))) As2 := Step.write (List.mem_of_getElem? hl3) hq
        have sa := (s1.trans st).trans sw
        exact k .non (.d .none) G3 _ As2 _ sa (c3.write q hl3 (rp.app (.cons r3 .nil))) (p.step sa) .non w5
  | _ => exact w1.elim
theorem dg_sub (ho : DE X o wo) (hi : DE X i wi) (hx : ∀ v, assign (.Subscript o i pos) X.env v = (do
      let ov ← holding [v] (eval o X.env)
      let iv ← holding [v, ov] (eval i X.env)
      standAt pos
      holding [v, ov, iv] (setItem ov iv v)
      release [v, ov, iv] []) := by intro _; rfl) : DG X (.Subscript o i pos) [] (wSub wo wi) := by
  obtain ⟨to, po, ho⟩ := ho
  obtain ⟨ti, pi, hi⟩ := hi
  refine ⟨_, pg_sub po pi set_list hx, fun G H As σ ρ κ v r P Q c p i0 w k => ?_⟩
  obtain ⟨⟨x, κ0⟩, e0, w⟩ := w.ex
  obtain ⟨G0, s0, c0, r0⟩ := dat_ok c i0 e0
  refine ho G0 H As σ ρ κ0 _ _ c0 (p.step s0) w fun v1 r1 G1 H1 As1 κ1 s1 c1 p1 i1 w1 => ?_
  cases r1 with
  | c kk =>
    obtain ⟨l, hl, rfl⟩ := i1
    refine hi G1 H1 As1 σ ρ κ1 _ _ c1 p1 w1 fun v2 r2 G2 H2 As2 κ2 s2 c2 p2 i2 w2 => ?_
    split at w2
    · rename_i o1 o2 ii xs hk
      obtain ⟨j, ej, w3⟩ := w2.ex
      have i2 : Rp X.K G2 v2 (.int ii) := i2
      cases i2
      obtain ⟨bs, eb⟩ := s2.pre
      have hl2 : As2[kk]? = some l := by rw [eb, List.getElem?_append_left (List.getElem?_eq_some_iff.mp hl).1]; exact hl
      obtain ⟨g0, vs, hq, rp⟩ := c2.ok kk _ l hk hl2
      refine ⟨l, vs, ii, j, rfl, rfl, hq, by rw [rp.len]; exact ej, ?_⟩
      have sw : Step G2 H2 As2 G2 (upd H2 l (.lst (vs.set j v))) As2 := Step.write (List.mem_of_getElem? hl2) hq
      have sa := ((s0.trans s1).trans s2).trans sw
      exact k σ ρ G2 _ As2 _ Wr.refl sa (c2.write hk hl2 (rp.set (Rp.mono (s1.trans s2).ex _ _ r0) j)) (p.step sa) w3
    · exact w2.elim
  | _ => exact w1.elim
end

/-! ### a def's body -/
def outR (κ : Kap) (n : Nat) : R → Option R
  | .c k => if k < n then some (.c k) else match κ[k]? with
    | some (.l xs) => some (.f xs)
    | some (.z x) => some (.d x)
    | none => none
  | r => some r
/-- a def's end: what its cell holds then, what it hands back -/
def endL (κ : Kap) (r : R) (Pd : R → List PyData → Prop) : Prop := match (κ[(0 : Nat)]? : Option Cell) with
  | some (.l bs) => Opt (outR κ 1 r) fun r' => Pd r' bs
  | _ => False
theorem endL_ex {κ : Kap} {r : R} {Pd : R → List PyData → Prop} (h : endL κ r Pd) : ∃ bs r', κ[(0 : Nat)]? = some (.l bs) ∧ outR κ 1 r = some r' ∧ Pd r' bs := by
  unfold endL at h
  split at h
  · rename_i bs e
    obtain ⟨r', e', q⟩ := h.ex
    exact ⟨bs, r', e, e', q⟩
  · exact h.elim
section
variable {P : Program} {w : World} {K : PySem.W.Frag} {mg : Str → Option Value} {base : Heap} {x qual : Str} {st : Stmt} {f : Addr} {fd : FuncData} {N ps : List Str} {k : Nat}
theorem out_rv {K : PySem.W.Frag} {G0 H0 G H : Hp} {As0 As : List Addr} {κ : Kap} {v : V} {r r' : R} {n : Nat} (hn : As0.length = n) (s : Step G0 H0 As0 G H As) (c : Cells K G H As κ) (h : Rv K H0 G H As v r) (e : outR κ n r = some r') : Rv K H0 G H As0 v r' := by
  obtain ⟨bs, eb⟩ := s.pre
  cases r with
  | d x => cases e; exact h
  | s ns => cases e; exact h
  | f xs =>
    cases e
    obtain ⟨p, vs, ev, h0, g0, nin, q⟩ := h
    exact ⟨p, vs, ev, h0, g0, fun z => nin (by rw [eb]; exact List.mem_append_left _ z), q⟩
  | c j =>
    obtain ⟨a, ha, rfl⟩ := h
    unfold outR at e
    simp only at e
    split at e
    · rename_i hj
      cases e
      refine ⟨a, ?_, rfl⟩
      rw [eb, List.getElem?_append_left (by omega)] at ha
      exact ha
    · rename_i hj
      have hna : a ∉ As0 := fun hm => by
        have nd := c.nd
        rw [eb] at nd ha
        obtain ⟨i, hi, ei⟩ := List.getElem_of_mem hm
        have h1 : (As0 ++ bs)[i]? = some a := by rw [List.getElem?_append_left hi, List.getElem?_eq_getElem hi, ei]
        obtain ⟨l1, q1⟩ := List.getElem?_eq_some_iff.mp h1
        obtain ⟨l2, q2⟩ := List.getElem?_eq_some_iff.mp ha
        have := (List.getElem_inj nd).mp (q1.trans q2.symm)
        omega
      split at e
      · rename_i xs hk
        cases e
        obtain ⟨g0, vs, hq, rp⟩ := c.ok j _ a hk ha
        refine ⟨a, vs, rfl, ?_, g0, hna, hq, rp⟩
        rcases s.new a (List.mem_of_getElem? ha) with z | z
        · exact absurd z hna
        · exact z
      · rename_i x hk
        cases e
        exact c.ok j _ a hk ha
      · cases e
theorem Step.short {G0 H0 G H : Hp} {As0 As : List Addr} (s : Step G0 H0 As0 G H As) : Step G0 H0 As0 G H As0 :=
  ⟨s.ex, ⟨[], by simp⟩, fun _ h => .inl h, s.fr, s.dom, s.gn⟩
/-- the slots at the entry -/
theorem places_start {K : PySem.W.Frag} {G : Hp} {As : List Addr} {vs : List V} {rs : List R} (h : Paired (It K G As) vs rs) (m : Nat) : Places K G As (vs.map some ++ List.replicate m none) (rs.map some ++ List.replicate m none) := by
  have hl := Paired.length h
  refine ⟨by rw [List.length_append, List.length_append, List.length_map, List.length_map, List.length_replicate, List.length_replicate, hl], fun i r e => ?_⟩
  by_cases hi : i < rs.length
  · rw [List.getElem?_append_left (by rw [List.length_map]; exact hi), List.getElem?_map, List.getElem?_eq_getElem hi] at e
    cases e
    have get : ∀ {vs : List V} {rs : List R} {i : Nat} (hi : i < rs.length), Paired (It K G As) vs rs → ∃ v, vs[i]? = some v ∧ It K G As v rs[i] := fun {vs} => by
      induction vs with
      | nil => intro rs i hi h; cases h; exact absurd hi (by simp)
      | cons v vs ih =>
        intro rs i hi h
        cases h with
        | cons r t =>
          cases i with
          | zero => exact ⟨v, rfl, r⟩
          | succ i => exact ih (i := i) (by simpa using hi) t
    obtain ⟨v, e1, e2⟩ := get hi h
    refine ⟨v, ?_, e2⟩
    rw [List.getElem?_append_left (by rw [List.length_map, hl]; exact hi), List.getElem?_map, e1]
    rfl
  · rw [List.getElem?_append_right (by rw [List.length_map]; omega), List.getElem?_replicate] at e
    split at e <;> cases e
theorem dfn {Φ : List R → (R → Prop) → Prop} (F : Fun K x qual st f fd) (S : FnScope N ps (defScope st))
    (hb : ∀ (cdv : Value) (A : Around) (outer : List Env) (s : Shared) (H : Hp) (E : XK), Room k (A.deeper (envOfC qual (defScope st) s.heap.objs.size f cdv)) →
      ∃ wd, DSs (cxOf CX0 P w K mg base N qual (defScope st) f cdv A outer s H E).nox (defBody st) wd ∧ ∀ rs Pd, Φ rs Pd → rs.length = ps.length → wd { nx := fun _ _ => Pd (.d .none), rt := fun r κ => Opt (outR κ 0 r) Pd } (rs.map some ++ List.replicate (N.length - ps.length) none) []) :
    FnOk P w K mg base CX0 (k + 1) f fd ps (spD K ps.length Φ) := by
  refine F.ok S (fun vs H Q E h => h.1) (fun cdv A outer s H vs Q E hr h => ?_)
  obtain ⟨hl, G, rs, Pd, ext, i0, hΦ, kk⟩ := h
  obtain ⟨wd, ⟨t, pt, ht⟩, hw⟩ := hb cdv A outer s H E hr
  have hl2 : rs.length = ps.length := (Paired.length i0).symm.trans hl
  refine ⟨t, pt, ?_⟩
  have c0 : Cells K G H [] [] := ⟨ext, rfl, by simp, fun a h => (List.not_mem_nil h).elim, fun j c a h => by simp at h⟩
  have p0 := places_start i0 (N.length - ps.length)
  unfold L2.start
  rw [hl]
  refine ht G H [] _ _ [] _ _ c0 p0 (hw rs Pd hΦ hl2) ⟨fun σ' ρ' G' H' As' κ' s' c' _ q => ?_, fun _ _ _ _ _ _ _ _ _ q => q.elim, fun _ _ _ _ _ _ _ _ _ q => q.elim, fun v r G' H' As' κ' s' c' rv q => ?_⟩
  · exact kk .non (.d .none) G' H' q c'.ext s'.short .non
  · obtain ⟨r', e, q⟩ := q.ex
    exact kk v r' G' H' q c'.ext s'.short (out_rv rfl s' c' rv e)
theorem dfnL {Φ : List PyData → List R → (R → List PyData → Prop) → Prop} {n : Nat} (F : Fun K x qual st f fd) (S : FnScope N ps (defScope st)) (hn : ps.length = n + 1)
    (hb : ∀ (cdv : Value) (A : Around) (outer : List Env) (s : Shared) (H : Hp) (E : XK), Room k (A.deeper (envOfC qual (defScope st) s.heap.objs.size f cdv)) →
      ∃ wd, DSs (cxOf CX0 P w K mg base N qual (defScope st) f cdv A outer s H E).nox (defBody st) wd ∧ ∀ bs rs Pd, Φ bs rs Pd → rs.length = n → wd { nx := fun _ κ => endL κ (.d .none) Pd, rt := fun r κ => endL κ r Pd } (some (.c 0) :: (rs.map some ++ List.replicate (N.length - ps.length) none)) [.l bs]) :
    FnOk P w K mg base CX0 (k + 1) f fd ps (spL K ps.length Φ) := by
  refine F.ok S (fun vs H Q E h => h.1) (fun cdv A outer s H vs Q E hr h => ?_)
  obtain ⟨hl, G, a, ws, bs, rs, Pd, rfl, c0, i0, hΦ, kk⟩ := h
  obtain ⟨wd, ⟨t, pt, ht⟩, hw⟩ := hb cdv A outer s H E hr
  have hl2 : rs.length = n := by
    have e1 := Paired.length i0
    rw [List.length_cons] at hl
    omega
  refine ⟨t, pt, ?_⟩
  have i1 : Paired (It K G [a]) (V.ref a :: ws) (R.c 0 :: rs) := .cons ⟨a, rfl, rfl⟩ (Paired.mapP i0 fun _ _ z => z.mono (Ex.refl G) ⟨[a], rfl⟩)
  have p0 := places_start i1 (N.length - ps.length)
  have one : ∀ {G' H' As' κ' bs'}, Step G H [a] G' H' As' → Cells K G' H' As' κ' → κ'[0]? = some (.l bs') → Cells K G' H' [a] [.l bs'] := fun s' c' e => by
    obtain ⟨zs, ez⟩ := s'.pre
    exact c'.one e (by rw [ez]; rfl)
  unfold L2.start
  rw [hl]
  refine ht G H [a] _ _ [.l bs] _ _ c0 p0 (hw bs rs Pd hΦ hl2) ⟨fun σ' ρ' G' H' As' κ' s' c' _ q => ?_, fun _ _ _ _ _ _ _ _ _ q => q.elim, fun _ _ _ _ _ _ _ _ _ q => q.elim, fun v r G' H' As' κ' s' c' rv q => ?_⟩
  · obtain ⟨bs', r', e, e', q⟩ := endL_ex q
    cases e'
    exact kk .non (.d .none) bs' G' H' q (one s' c' e) s'.short .non
  · obtain ⟨bs', r', e0, e, q⟩ := endL_ex q
    exact kk v r' bs' G' H' q (one s' c' e0) s'.short (out_rv rfl s' c' rv e)
end
end DL
/-! DLe: operators, comparisons, subscripts, slices, built-ins, over plain data. -/
namespace DL
open PySem PySem.Spec PyProof.Rows L2

section
variable {K : PySem.W.Frag} {G H : Hp} {v : V}
theorem vw_int {i : Int} (h : Vw K G H v (.int i)) : v = .int i := by
  have h : Rp K G v (.int i) := h
  cases h; rfl
theorem vw_str {z : Str} (h : Vw K G H v (.str z)) : v = .str z := by
  have h : Rp K G v (.str z) := h
  cases h; rfl
theorem vw_bool {b : Bool} (h : Vw K G H v (.bool b)) : v = .bl b := by
  have h : Rp K G v (.bool b) := h
  cases h; rfl
theorem vw_none (h : Vw K G H v .none) : v = .non := by
  have h : Rp K G v .none := h
  cases h; rfl
end

/-! ### operators -/
def addD : PyData → PyData → Option Out
  | .int i, .int j => some (.v (.int (i + j)))
  | .str x, .str y => if x.length + y.length ≤ sizeLine then some (.v (.str (x ++ y))) else none
  | .list xs, .list ys => if xs.length + ys.length ≤ sizeLine then some (.n (xs ++ ys)) else none
  | .tuple xs, .tuple ys => if xs.length + ys.length ≤ sizeLine then some (.t (xs ++ ys)) else none
  | _, _ => none
def rAddD (K : PySem.W.Frag) : R2 := fun x y H Q => (∃ i j, x = .int i ∧ y = .int j ∧ Q (.int (i + j)) H) ∨ (∃ i j, x = .str i ∧ y = .str j ∧ i.length + j.length ≤ sizeLine ∧ Q (.str (i ++ j)) H) ∨ rCat x y H Q ∨ rCatA K x y H Q
theorem op_addD {X : Cx} : OpR X (binaryOp .Add) (rAddD X.K) := by
  intro pins s σ H x y v u Q I rx ry h
  rcases h with h | h | h | h
  · exact op_add pins s σ H x y v u Q I rx ry h
  · exact op_add_str pins s σ H x y v u Q I rx ry h
  · exact op_cat pins s σ H x y v u Q I rx ry h
  · exact op_catA pins s σ H x y v u Q I rx ry h
theorem add_ok {K : PySem.W.Frag} : OpD K (rAddD K) addD := by
  intro G H v u x y o Q ext hx hy e k
  unfold addD at e
  split at e
  · cases e
    rw [vw_int hx, vw_int hy]
    exact .inl ⟨_, _, rfl, rfl, k _ (.int _)⟩
  · split at e
    · cases e
      rw [vw_str hx, vw_str hy]
      exact .inr (.inl ⟨_, _, rfl, rfl, by assumption, k _ (.str _)⟩)
    · cases e
  · split at e
    · cases e
      obtain ⟨a, vs, rfl, h1, h2⟩ := hx
      obtain ⟨b, ws, rfl, h3, h4⟩ := hy
      exact .inr (.inr (.inl ⟨a, b, vs, ws, rfl, rfl, h1, h3, by rw [h2.len, h4.len]; assumption, fun p hp => k p _ hp (h2.app h4)⟩))
    · cases e
  · split at e
    · cases e
      have hx' := hx
      have hy' := hy
      obtain ⟨a, vs, rfl, h1, h2⟩ := hx.tup ext
      obtain ⟨b, ws, rfl, h3, h4⟩ := hy.tup ext
      refine .inr (.inr (.inr ⟨a, b, vs, ws, rfl, rfl, h1, h3, by rw [h2.len, h4.len]; assumption, fun z => ?_, fun _ z => ?_, fun _ _ p hp => k.1 p _ hp (h2.app h4)⟩))
      · subst z
        cases h2
        exact k.2 _ hy'
      · subst z
        cases h4
        rw [List.append_nil] at k
        exact k.2 _ hx'
    · cases e
  · cases e

def intD (f : Int → Int → Option PyData) : PyData → PyData → Option Out
  | .int i, .int j => (f i j).map .v
  | _, _ => none
theorem int_ok {K : PySem.W.Frag} {r : R2} {f : Int → Int → Option PyData} (h : ∀ (i j : Int) (z : PyData) (H : Hp) (Q : VK), f i j = some z → (∀ w, (∀ G, Rp K G w z) → Q w H) → r (.int i) (.int j) H Q) : OpD K r (intD f) := by
  intro G H v u x y o Q ext hx hy e k
  unfold intD at e
  split at e
  · rename_i i j
    cases q : f i j with
    | none => rw [q] at e; cases e
    | some z =>
      rw [q] at e
      cases e
      rw [vw_int hx, vw_int hy]
      exact h i j z H Q q fun w hw => k w (hw G)
  · cases e
def subD := intD fun i j => some (.int (i - j))
theorem sub_ok {K : PySem.W.Frag} : OpD K (rI0 fun i j => .int (i - j)) subD := int_ok fun i j z H Q e k => by
  cases e; exact ⟨i, j, rfl, rfl, k _ fun _ => .int _⟩
open Classical in
noncomputable def modD := intD fun i j => if 0 < j then some (.int (i % j)) else none
theorem mod_ok {K : PySem.W.Frag} : OpD K (rI (fun _ j => 0 < j) fun i j => .int (i % j)) modD := int_ok fun i j z H Q e k => by
  split at e
  · cases e; exact ⟨i, j, rfl, rfl, by assumption, k _ fun _ => .int _⟩
  · cases e
open Classical in
noncomputable def fdivD := intD fun i j => if 0 < j ∧ j < 1073741824 then some (.int (i / j)) else none
theorem fdiv_ok {K : PySem.W.Frag} : OpD K (rI CDiv fun i j => .int (i / j)) fdivD := int_ok fun i j z H Q e k => by
  split at e
  · cases e; exact ⟨i, j, rfl, rfl, by assumption, k _ fun _ => .int _⟩
  · cases e
open Classical in
noncomputable def powD := intD fun i j => if 0 ≤ j ∧ j ≤ 1000000 ∧ i.natAbs < 2 ^ 64 then some (.int (i ^ j.toNat)) else none
theorem pow_ok {K : PySem.W.Frag} : OpD K (rI CPow fun i j => .int (i ^ j.toNat)) powD := int_ok fun i j z H Q e k => by
  split at e
  · cases e; exact ⟨i, j, rfl, rfl, by assumption, k _ fun _ => .int _⟩
  · cases e
open Classical in
/-- ints, and a list so many times -/
noncomputable def mulD : PyData → PyData → Option Out
  | .int i, .int j => if CMul i j then some (.v (.int (i * j))) else none
  | .list xs, .int k => if -(2 ^ 63) ≤ k ∧ k < 2 ^ 63 ∧ xs.length * k.toNat ≤ sizeLine then some (.n (List.replicate k.toNat xs).flatten) else none
  | _, _ => none
def rMulD : R2 := fun x y H Q => rI CMul (fun i j => .int (i * j)) x y H Q ∨ rRep x y H Q
theorem op_mulD {X : Cx} : OpR X (binaryOp .Mult) rMulD := by
  intro pins s σ H x y v u Q I rx ry h
  rcases h with h | h
  · exact op_mul pins s σ H x y v u Q I rx ry h
  · exact op_rep pins s σ H x y v u Q I rx ry h
theorem RpA.rep {K : PySem.W.Frag} {H : Hp} {vs : List V} {ds : List PyData} (h : RpA K H vs ds) : ∀ n : Nat, RpA K H (List.replicate n vs).flatten (List.replicate n ds).flatten
  | 0 => .nil
  | n + 1 => by
    rw [List.replicate_succ, List.replicate_succ, List.flatten_cons, List.flatten_cons]
    exact h.app (RpA.rep h n)
theorem mul_ok {K : PySem.W.Frag} : OpD K rMulD mulD := by
  intro G H v u x y o Q ext hx hy e k
  unfold mulD at e
  split at e
  · split at e
    · cases e
      rw [vw_int hx, vw_int hy]
      exact .inl ⟨_, _, rfl, rfl, by assumption, k _ (.int _)⟩
    · cases e
  · split at e
    · rename_i hc
      cases e
      obtain ⟨a, vs, rfl, h1, h2⟩ := hx
      rw [vw_int hy]
      refine .inr ⟨a, _, vs, rfl, rfl, h1, hc.1, hc.2.1, by rw [h2.len]; exact hc.2.2, fun p hp => k p _ hp ?_⟩
      exact h2.rep _
    · cases e
  · cases e
def negD : PyData → Option Out
  | .int i => some (.v (.int (-i)))
  | _ => none
theorem neg_ok {K : PySem.W.Frag} : UnD K (rU fun i => .int (-i)) negD := by
  intro G H v x o Q ext hx e k
  unfold negD at e
  split at e
  · cases e
    rw [vw_int hx]
    exact ⟨_, rfl, k _ (.int _)⟩
  · cases e

/-! ### comparisons -/
def eqD (neg : Bool) (x y : PyData) : Option Out := if SeqAt.shaped x = true ∧ SeqAt.shaped y = true then some (.v (.bool (if neg then !PyData.eqv x y else PyData.eqv x y))) else none
theorem eq_ok {K : PySem.W.Frag} : OpD K (rEqD K) (eqD false) := by
  intro G H v u x y o Q ext hx hy e k
  unfold eqD at e
  split at e
  · rename_i hs
    cases e
    exact ⟨x, y, Rp.dp _ _ (hx.rp ext), Rp.dp _ _ (hy.rp ext), hs.1, hs.2, k _ (.bl _)⟩
  · cases e
theorem ne_ok {K : PySem.W.Frag} : OpD K (rNeD K) (eqD true) := by
  intro G H v u x y o Q ext hx hy e k
  unfold eqD at e
  split at e
  · rename_i hs
    cases e
    exact ⟨x, y, Rp.dp _ _ (hx.rp ext), Rp.dp _ _ (hy.rp ext), hs.1, hs.2, k _ (.bl _)⟩
  · cases e
/-- <, <=, >, >= of ints and of texts -/
def ordD (fi : Int → Int → Bool) (fs : List Nat → List Nat → Bool) : PyData → PyData → Option Out
  | .int i, .int j => some (.v (.bool (fi i j)))
  | .str x, .str y => some (.v (.bool (fs x.cps.toList y.cps.toList)))
  | _, _ => none
def rOrdD (fi : Int → Int → Bool) (fs : List Nat → List Nat → Bool) : R2 := fun x y H Q => (∃ i j, x = .int i ∧ y = .int j ∧ Q (.bl (fi i j)) H) ∨ ∃ i j, x = .str i ∧ y = .str j ∧ Q (.bl (fs i.cps.toList j.cps.toList)) H
theorem ord_ok {K : PySem.W.Frag} {fi : Int → Int → Bool} {fs : List Nat → List Nat → Bool} : OpD K (rOrdD fi fs) (ordD fi fs) := by
  intro G H v u x y o Q ext hx hy e k
  unfold ordD at e
  split at e
  · cases e
    rw [vw_int hx, vw_int hy]
    exact .inl ⟨_, _, rfl, rfl, k _ (.bl _)⟩
  · cases e
    rw [vw_str hx, vw_str hy]
    exact .inr ⟨_, _, rfl, rfl, k _ (.bl _)⟩
  · cases e
def ltI (i j : Int) : Bool := decide (i < j)
def leI (i j : Int) : Bool := decide (i ≤ j)
def gtI (i j : Int) : Bool := decide (j < i)
def geI (i j : Int) : Bool := decide (j ≤ i)
def ltS (i j : List Nat) : Bool := decide (i < j)
section
variable {X : Cx}
theorem op_ltD : OpR X (compareOp .Lt) (rOrdD ltI ltS) := by
  intro pins s σ H x y v u Q I rx ry h
  rcases h with h | h
  · exact op_lt pins s σ H x y v u Q I rx ry h
  · exact op_lt_str pins s σ H x y v u Q I rx ry h
theorem op_leD : OpR X (compareOp .LtE) (rOrdD leI fun _ _ => false) ∨ True := .inr trivial
end
/-- <=, >, >= of ints -/
def ciD (f : Int → Int → Bool) := intD fun i j => some (.bool (f i j))
theorem ci_ok {K : PySem.W.Frag} {f : Int → Int → Bool} : OpD K (rI0 fun i j => .bl (f i j)) (ciD f) := int_ok fun i j z H Q e k => by
  cases e; exact ⟨i, j, rfl, rfl, k _ fun _ => .bl _⟩
section
variable {X : Cx}
theorem op_leI : OpR X (compareOp .LtE) (rI0 fun i j => .bl (leI i j)) := op_le
theorem op_gtI : OpR X (compareOp .Gt) (rI0 fun i j => .bl (gtI i j)) := op_gt
theorem op_geI : OpR X (compareOp .GtE) (rI0 fun i j => .bl (geI i j)) := op_ge
end
/-- is None, is not None -/
def isND (neg : Bool) : PyData → PyData → Option Out
  | x, .none => some (.v (.bool (match x with
    | .none => !neg
    | _ => neg)))
  | _, _ => none
theorem isN_ok {K : PySem.W.Frag} {neg : Bool} : OpD K (fun x y H Q => y = .non ∧ Q (.bl (if neg then !decide (x = .non) else decide (x = .non))) H) (isND neg) := by
  intro G H v u x y o Q ext hx hy e k
  unfold isND at e
  split at e
  · cases e
    refine ⟨vw_none hy, ?_⟩
    have nr : ∀ {a : Addr}, decide (V.ref a = V.non) = false := fun {a} => decide_eq_false fun q => nomatch q
    cases x with
    | none =>
      rw [vw_none hx]
      cases neg
      · exact k _ (.bl _)
      · exact k _ (.bl _)
    | bool b => rw [vw_bool hx]; cases neg <;> exact k _ (.bl _)
    | int i => rw [vw_int hx]; cases neg <;> exact k _ (.bl _)
    | str z => rw [vw_str hx]; cases neg <;> exact k _ (.bl _)
    | list xs =>
      obtain ⟨a, vs, rfl, _⟩ := hx
      rw [nr]
      cases neg <;> exact k _ (.bl _)
    | tuple xs =>
      obtain ⟨a, vs, rfl, _⟩ := hx.tup ext
      rw [nr]
      cases neg <;> exact k _ (.bl _)
    | dict xs =>
      have hx : Rp K G v (.dict xs) := hx
      cases hx
  · cases e
section
variable {X : Cx}
theorem op_isND : OpR X (compareOp .Is) (fun x y H Q => y = .non ∧ Q (.bl (if false = true then !decide (x = .non) else decide (x = .non))) H) := fun pins s σ H x y v u Q I rx ry h => op_isN pins s σ H x y v u Q I rx ry h
theorem op_notND : OpR X (compareOp .IsNot) (fun x y H Q => y = .non ∧ Q (.bl (if true = true then !decide (x = .non) else decide (x = .non))) H) := fun pins s σ H x y v u Q I rx ry h => op_notN pins s σ H x y v u Q I rx ry h
end
/-- x in a list of data, in a tuple of flat data, in a text -/
def flatD : PyData → Bool
  | .none => true
  | .bool _ => true
  | .int _ => true
  | .str _ => true
  | _ => false
def inD (neg : Bool) : PyData → PyData → Option Out
  | x, .list ys => if SeqAt.shaped x = true ∧ SeqAt.shaped (.list ys) = true then some (.v (.bool (if neg then !ys.any fun z => PyData.eqv z x else ys.any fun z => PyData.eqv z x))) else none
  | x, .tuple ys => if flatD x = true ∧ ys.all flatD = true then some (.v (.bool (if neg then !ys.any fun z => PyData.eqv z x else ys.any fun z => PyData.eqv z x))) else none
  | .str i, .str j => some (.v (.bool (if neg then !(!(Builtin.Str.occurrences j i 0 j.length 1).isEmpty) else !(Builtin.Str.occurrences j i 0 j.length 1).isEmpty)))
  | _, _ => none
def rInA (K : PySem.W.Frag) (neg : Bool) : R2 := fun x y H Q => (∃ d ds, Dp K H x d ∧ Dp K H y (.list ds) ∧ SeqAt.shaped d = true ∧ SeqAt.shaped (.list ds) = true ∧ Q (.bl (if neg then !ds.any fun z => PyData.eqv z d else ds.any fun z => PyData.eqv z d)) H) ∨ rIn K neg x y H Q ∨
  ∃ i j, x = .str i ∧ y = .str j ∧ Q (.bl (if neg then !(!(Builtin.Str.occurrences j i 0 j.length 1).isEmpty) else !(Builtin.Str.occurrences j i 0 j.length 1).isEmpty)) H
section
variable {X : Cx}
theorem op_inA (hu : X.A.units + 65 < cLine) : OpR X (compareOp .In) (rInA X.K false) := by
  intro pins s σ H x y v u Q I rx ry h
  rcases h with h | h | h
  · exact op_inD hu pins s σ H x y v u Q I rx ry h
  · exact op_in_seq pins s σ H x y v u Q I rx ry h
  · exact op_in_str pins s σ H x y v u Q I rx ry h
theorem op_notInA (hu : X.A.units + 65 < cLine) : OpR X (compareOp .NotIn) (rInA X.K true) := by
  intro pins s σ H x y v u Q I rx ry h
  rcases h with h | h | h
  · exact op_notInD hu pins s σ H x y v u Q I rx ry h
  · exact op_notIn_seq pins s σ H x y v u Q I rx ry h
  · exact op_notIn_str pins s σ H x y v u Q I rx ry h
end
theorem flat_V {K : PySem.W.Frag} {G : Hp} {v : V} {x : PyData} (h : Rp K G v x) (f : flatD x = true) : flatV v = true := by
  cases h <;> first | rfl | cases f
theorem flat_eq {K : PySem.W.Frag} {G : Hp} {v u : V} {x y : PyData} (h : Rp K G v x) (f : flatD x = true) (h' : Rp K G u y) (f' : flatD y = true) : eqV v u = PyData.eqv x y := by
  cases h <;> first | (cases f; done) | (cases h' <;> first | (cases f'; done) | (simp [eqV, PyData.eqv]))
theorem flat_any {K : PySem.W.Frag} {G : Hp} {u : V} {y : PyData} (h' : Rp K G u y) (f' : flatD y = true) : ∀ {vs : List V} {ds : List PyData}, RpA K G vs ds → ds.all flatD = true → (vs.all flatV = true ∧ inV u vs = ds.any fun z => PyData.eqv z y)
  | _, _, .nil, _ => ⟨rfl, rfl⟩
  | _, _, .cons r t, f => by
    rw [List.all_cons, Bool.and_eq_true] at f
    obtain ⟨h1, h2⟩ := flat_any h' f' t f.2
    refine ⟨by rw [List.all_cons, flat_V r f.1, h1]; rfl, ?_⟩
    unfold inV at h2 ⊢
    rw [List.any_cons, List.any_cons, flat_eq r f.1 h' f', h2]
theorem in_ok {K : PySem.W.Frag} {neg : Bool} : OpD K (rInA K neg) (inD neg) := by
  intro G H v u x y o Q ext hx hy e k
  unfold inD at e
  split at e
  · split at e
    · rename_i hs
      cases e
      exact .inl ⟨_, _, Rp.dp _ _ (hx.rp ext), Rp.dp _ _ (hy.rp ext), hs.1, hs.2, k _ (.bl _)⟩
    · cases e
  · rename_i ys
    split at e
    · rename_i hs
      cases e
      obtain ⟨a, vs, rfl, h1, h2⟩ := hy.tup ext
      have hx' : Rp K G v x := by
        cases x <;> first | exact hx | exact absurd hs.1 (by simp [flatD])
      obtain ⟨q1, q2⟩ := flat_any hx' hs.1 h2 hs.2
      refine .inr (.inl ⟨a, vs, rfl, .inr h1, flat_V hx' hs.1, q1, ?_⟩)
      rw [q2]
      exact k _ (.bl _)
    · cases e
  · cases e
    rw [vw_str hx, vw_str hy]
    exact .inr (.inr ⟨_, _, rfl, rfl, k _ (.bl _)⟩)
  · cases e

/-! ### subscripts -/
def ixD : PyData → PyData → Option Out
  | .list xs, .int i => (atI xs i).map .v
  | .tuple xs, .int i => (atI xs i).map .v
  | .str z, .int i => if z.length ≤ sizeLine then (atI z.cps.toList i).map fun c => .v (.str ⟨#[c]⟩) else none
  | _, _ => none
theorem RpA.at {K : PySem.W.Frag} {G : Hp} {vs : List V} {ds : List PyData} {i : Int} {x : PyData} (h : RpA K G vs ds) (e : atI ds i = some x) : ∃ v, atI vs i = some v ∧ Rp K G v x := by
  unfold atI at e ⊢
  rw [h.len]
  cases q : ixN ds.length i with
  | none => rw [q] at e; cases e
  | some j =>
    rw [q] at e
    exact h.get e
theorem ix_ok {K : PySem.W.Frag} : OpD K (rIx K) ixD := by
  intro G H v u x y o Q ext hx hy e k
  unfold ixD at e
  split at e
  · rename_i xs i
    cases q : atI xs i with
    | none => rw [q] at e; cases e
    | some z =>
      rw [q] at e
      cases e
      obtain ⟨a, vs, rfl, h1, h2⟩ := hx
      obtain ⟨w, e1, e2⟩ := h2.at q
      rw [vw_int hy]
      exact .inl ⟨a, vs, i, w, rfl, rfl, sql_of h1, e1, k w e2⟩
  · rename_i xs i
    cases q : atI xs i with
    | none => rw [q] at e; cases e
    | some z =>
      rw [q] at e
      cases e
      obtain ⟨a, vs, rfl, h1, h2⟩ := hx.tup ext
      obtain ⟨w, e1, e2⟩ := h2.at q
      rw [vw_int hy]
      exact .inr (.inl ⟨a, vs, i, w, rfl, rfl, h1, e1, k w e2⟩)
  · rename_i z i
    split at e
    · cases q : atI z.cps.toList i with
      | none => rw [q] at e; cases e
      | some c =>
        rw [q] at e
        cases e
        rw [vw_str hx, vw_int hy]
        exact .inr (.inr ⟨z, i, c, rfl, rfl, by assumption, q, k _ (.str _)⟩)
    · cases e
  · cases e
/-- the script at a place -/
def wScr (wa wb : DTE) : DTE := fun ρ κ P => wa ρ κ fun r κ1 => match r with
  | .s ns => wb ρ κ1 fun q κ2 => match q with
    | .d (.int i) => Opt (atI ns i) fun n => P (.d (.int n)) κ2
    | _ => False
  | _ => False
/-! slices -/
def cut {α : Type} (xs : List α) (lo hi : Option Int) : List α := (xs.drop (HT.sIx xs.length 0 lo)).take (HT.sIx xs.length xs.length hi - HT.sIx xs.length 0 lo)
theorem RpA.cut {K : PySem.W.Frag} {G : Hp} {vs : List V} {ds : List PyData} (h : RpA K G vs ds) (lo hi : Option Int) : RpA K G (cutV vs lo hi) (cut ds lo hi) := by
  unfold cutV DL.cut
  rw [h.len]
  exact (h.drop _).take _
def slD : PyData → Option Int → Option Int → Option Out
  | .list xs, lo, hi => some (.n (cut xs lo hi))
  | .tuple xs, lo, hi => some (.t (cut xs lo hi))
  | .str z, lo, hi => if z.length ≤ sizeLine then some (.v (.str (cutS z lo hi))) else none
  | _, _, _ => none
def rSlD (K : PySem.W.Frag) : V → Option Int → Option Int → Hp → VK → Prop := fun x lo hi H Q => rSlL K x lo hi H Q ∨ rSlA K x lo hi H Q ∨ rSlS x lo hi H Q
theorem sl_any {X : Cx} : SlR X (rSlD X.K) := by
  intro pins s σ H x v vl vu lo hi sl Q I rx hs pl pu h
  rcases h with h | h | h
  · exact sl_list pins s σ H x v vl vu lo hi sl Q I rx hs pl pu h
  · exact sl_tupA pins s σ H x v vl vu lo hi sl Q I rx hs pl pu h
  · exact sl_str pins s σ H x v vl vu lo hi sl Q I rx hs pl pu h
theorem cut_all {xs : List PyData} {lo hi : Option Int} (h : HT.sIx xs.length 0 lo = 0 ∧ HT.sIx xs.length xs.length hi = xs.length) : cut xs lo hi = xs := by
  unfold cut
  rw [h.1, h.2]
  simp
abbrev DTO := Rho → Kap → (Option Int → Kap → Prop) → Prop
def DO (X : Cx) (e : Option Expr) (w : DTO) : Prop := ∃ t, PO X e t ∧ ∀ (G H : Hp) (As : List Addr) (σ : L2.St) (ρ : Rho) (κ : Kap) (P : Option Int → Kap → Prop) (Q : Option Int → Hp → Prop), Cells X.K G H As κ → Places X.K G As σ ρ → w ρ κ P →
  (∀ o G' H' As' κ', Step G H As G' H' As' → Cells X.K G' H' As' κ' → Places X.K G' As' σ ρ → P o κ' → Q o H') → t σ H Q
def wNoP : DTO := fun _ κ P => P none κ
def wP (we : DTE) : DTO := fun ρ κ P => we ρ κ fun r κ1 => match r with
  | .d (.int i) => P (some i) κ1
  | _ => False
def wSl (we : DTE) (wl wh : DTO) : DTE := fun ρ κ P => we ρ κ fun r κ1 => wl ρ κ1 fun lo κ2 => wh ρ κ2 fun hi κ3 => Opt (val κ3 r.st) fun x => Opt (slD x lo hi) fun o => P o.r κ3
section
variable {X : Cx} {e : Expr} {lo hi : Option Expr} {we : DTE} {wl wh : DTO} {pos p2 : Pos}
theorem do_none : DO X none wNoP := ⟨_, po_none, fun G H As σ ρ κ P Q c p w k => k none G H As κ Step.refl c p w⟩
theorem do_some (he : DE X e we) : DO X (some e) (wP we) := by
  obtain ⟨t, pt, he⟩ := he
  refine ⟨_, po_some pt, fun G H As σ ρ κ P Q c p w k => ?_⟩
  refine he G H As σ ρ κ _ _ c p w fun v r G1 H1 As1 κ1 s1 c1 p1 i1 w1 => ?_
  cases r with
  | d x =>
    cases x with
    | int i =>
      have i1 : Rp X.K G1 v (.int i) := i1
      cases i1
      exact ⟨i, rfl, k _ G1 H1 As1 κ1 s1 c1 p1 w1⟩
    | _ => exact w1.elim
  | _ => exact w1.elim
theorem de_sl (he : DE X e we) (hl : DO X lo wl) (hh : DO X hi wh) : DE X (.Subscript e (.Slice lo hi none p2) pos) (wSl we wl wh) := by
  obtain ⟨t, pt, he⟩ := he
  obtain ⟨tl, pl, hl⟩ := hl
  obtain ⟨th, ph, hh⟩ := hh
  refine ⟨_, pe_slice sl_any pt pl ph, fun G H As σ ρ κ P Q c p w k => ?_⟩
  refine he G H As σ ρ κ _ _ c p w fun v r G1 H1 As1 κ1 s1 c1 p1 i1 w1 => ?_
  obtain ⟨G1', s1', c1', p1', i1', _⟩ := settle s1 c1 p1 i1
  refine hl G1' H1 As1 σ ρ κ1 _ _ c1' p1' w1 fun o2 G2 H2 As2 κ2 s2 c2 p2 w2 => ?_
  refine hh G2 H2 As2 σ ρ κ2 _ _ c2 p2 w2 fun o3 G3 H3 As3 κ3 s3 c3 p3 w3 => ?_
  obtain ⟨x, ex, w4⟩ := w3.ex
  obtain ⟨o, eo, w5⟩ := w4.ex
  have st := (s1'.trans s2).trans s3
  have vw := ((s2.trans s3).it i1').vw c3 ex
  have ok := out_ok (P := P) st c3 p3 o w5 k
  unfold slD at eo
  split at eo
  · cases eo
    obtain ⟨a, vs, rfl, h1, h2⟩ := vw
    exact .inl ⟨a, vs, rfl, sql_of h1, fun q hq => ok q _ hq (h2.cut _ _)⟩
  · cases eo
    have vw' := vw
    obtain ⟨a, vs, rfl, h1, h2⟩ := vw.tup c3.ext
    refine .inr (.inl ⟨a, vs, rfl, h1, fun z => ?_, fun _ q hq => ok.1 q _ hq (h2.cut _ _)⟩)
    rw [h2.len] at z
    rw [cut_all z] at ok
    exact ok.2 _ vw'
  · split at eo
    · cases eo
      rw [vw_str vw]
      exact .inr (.inr ⟨_, rfl, by assumption, ok _ (.str _)⟩)
    · cases eo
  · cases eo
end
end DL
/-! DLf: built-ins by name, isinstance, methods of texts and lists, sorted, the script, over plain data. -/
namespace DL
open PySem PySem.Spec PyProof.Rows L2

section
variable {K : PySem.W.Frag}
theorem one_of {G H : Hp} {vs : List V} {x : PyData} (h : Paired (Vw K G H) vs [x]) : ∃ v, vs = [v] ∧ Vw K G H v x := by
  cases h with
  | cons r t => cases t; exact ⟨_, rfl, r⟩
theorem two_of {G H : Hp} {vs : List V} {x y : PyData} (h : Paired (Vw K G H) vs [x, y]) : ∃ v u, vs = [v, u] ∧ Vw K G H v x ∧ Vw K G H u y := by
  cases h with
  | cons r t =>
    cases t with
    | cons r2 t => cases t; exact ⟨_, _, rfl, r, r2⟩
/-! ### built-ins by name -/
def lenD : List PyData → Option Out
  | [.str z] => if z.length ≤ sizeLine then some (.v (.int z.length)) else none
  | [.list xs] => some (.v (.int xs.length))
  | [.tuple xs] => some (.v (.int xs.length))
  | _ => none
theorem len_ok : CallD K (fun xs H Q => ∃ x n, xs = [x] ∧ LenV K x H n ∧ Q (.int n) H) lenD := by
  intro G H vs xs o Q ext h0 e k
  unfold lenD at e
  split at e
  · split at e
    · cases e
      obtain ⟨v, rfl, h⟩ := one_of h0
      rw [vw_str h]
      exact ⟨_, _, rfl, ⟨by assumption, rfl⟩, k _ (.int _)⟩
    · cases e
  · cases e
    obtain ⟨v, rfl, h⟩ := one_of h0
    obtain ⟨a, ws, rfl, h1, h2⟩ := h
    refine ⟨_, _, rfl, .inl ⟨ws, sql_of h1, rfl⟩, ?_⟩
    rw [h2.len]
    exact k _ (.int _)
  · cases e
    obtain ⟨v, rfl, h⟩ := one_of h0
    obtain ⟨a, ws, rfl, h1, h2⟩ := h.tup ext
    refine ⟨_, _, rfl, .inr ⟨ws, h1, rfl⟩, ?_⟩
    rw [h2.len]
    exact k _ (.int _)
  · cases e
def absD : List PyData → Option Out
  | [.int i] => some (.v (.int (if i < 0 then -i else i)))
  | _ => none
theorem abs_ok : CallD K (fun xs H Q => ∃ i, xs = [.int i] ∧ Q (.int (if i < 0 then -i else i)) H) absD := by
  intro G H vs xs o Q ext h0 e k
  unfold absD at e
  split at e
  · cases e
    obtain ⟨v, rfl, h⟩ := one_of h0
    rw [vw_int h]
    exact ⟨_, rfl, k _ (.int _)⟩
  · cases e
def intC : List PyData → Option Out
  | [.int i] => some (.v (.int i))
  | [.bool b] => some (.v (.int (if b then 1 else 0)))
  | _ => none
theorem intC_ok : CallD K (fun xs H Q => (∃ i, xs = [.int i] ∧ Q (.int i) H) ∨ ∃ k, xs = [.bl k] ∧ Q (.int (if k then 1 else 0)) H) intC := by
  intro G H vs xs o Q ext h0 e k
  unfold intC at e
  split at e
  · cases e
    obtain ⟨v, rfl, h⟩ := one_of h0
    rw [vw_int h]
    exact .inl ⟨_, rfl, k _ (.int _)⟩
  · cases e
    obtain ⟨v, rfl, h⟩ := one_of h0
    rw [vw_bool h]
    exact .inr ⟨_, rfl, k _ (.int _)⟩
  · cases e
def max2D : List PyData → Option Out
  | [.int i, .int j] => some (.v (.int (if j > i then j else i)))
  | _ => none
theorem max2_ok : CallD K (fun xs H Q => ∃ i j, xs = [.int i, .int j] ∧ Q (.int (if j > i then j else i)) H) max2D := by
  intro G H vs xs o Q ext h0 e k
  unfold max2D at e
  split at e
  · cases e
    obtain ⟨v, u, rfl, h1, h2⟩ := two_of h0
    rw [vw_int h1, vw_int h2]
    exact ⟨_, _, rfl, k _ (.int _)⟩
  · cases e
def min2D : List PyData → Option Out
  | [.int i, .int j] => some (.v (.int (if j < i then j else i)))
  | _ => none
theorem min2_ok : CallD K (fun xs H Q => ∃ i j, xs = [.int i, .int j] ∧ Q (.int (if j < i then j else i)) H) min2D := by
  intro G H vs xs o Q ext h0 e k
  unfold min2D at e
  split at e
  · cases e
    obtain ⟨v, u, rfl, h1, h2⟩ := two_of h0
    rw [vw_int h1, vw_int h2]
    exact ⟨_, _, rfl, k _ (.int _)⟩
  · cases e
def listC : List PyData → Option Out
  | [.list xs] => some (.n xs)
  | [.tuple xs] => some (.n xs)
  | _ => none
theorem listC_ok : CallD K (fun xs H Q => ∃ p ys, xs = [.ref p] ∧ (SqL K H p ys ∨ SqT K H p ys) ∧ ∀ l, H l = none → Q (.ref l) (upd H l (.lst ys))) listC := by
  intro G H vs xs o Q ext h0 e k
  unfold listC at e
  split at e
  · cases e
    obtain ⟨v, rfl, h⟩ := one_of h0
    obtain ⟨a, ws, rfl, h1, h2⟩ := h
    exact ⟨_, _, rfl, .inl (sql_of h1), fun l hl => k l _ hl h2⟩
  · cases e
    obtain ⟨v, rfl, h⟩ := one_of h0
    obtain ⟨a, ws, rfl, h1, h2⟩ := h.tup ext
    exact ⟨_, _, rfl, .inr h1, fun l hl => k l _ hl h2⟩
  · cases e
def tupC : List PyData → Option Out
  | [.list xs] => some (.t xs)
  | [.tuple xs] => some (.t xs)
  | _ => none
theorem tupC_ok : CallD K (fun xs H Q => ∃ p ys, xs = [.ref p] ∧ ((SqL K H p ys ∧ ∀ l, H l = none → Q (.ref l) (upd H l (.tup ys))) ∨ (SqT K H p ys ∧ Q (.ref p) H))) tupC := by
  intro G H vs xs o Q ext h0 e k
  unfold tupC at e
  split at e
  · cases e
    obtain ⟨v, rfl, h⟩ := one_of h0
    obtain ⟨a, ws, rfl, h1, h2⟩ := h
    exact ⟨_, _, rfl, .inl ⟨sql_of h1, fun l hl => k.1 l _ hl h2⟩⟩
  · cases e
    obtain ⟨v, rfl, h⟩ := one_of h0
    have h' := h
    obtain ⟨a, ws, rfl, h1, h2⟩ := h.tup ext
    exact ⟨_, _, rfl, .inr ⟨h1, k.2 _ h'⟩⟩
  · cases e
def bools : List PyData → Option (List Bool)
  | [] => some []
  | .bool b :: xs => (bools xs).map (b :: ·)
  | _ => none
theorem bools_map : ∀ bs : List Bool, bools (bs.map .bool) = some bs
  | [] => rfl
  | b :: bs => by
    show (bools (bs.map .bool)).map (b :: ·) = _
    rw [bools_map bs]; rfl
theorem bools_ok {G : Hp} : ∀ {ds : List PyData} {vs : List V} {bs : List Bool}, bools ds = some bs → RpA K G vs ds → vs = bs.map V.bl
  | [], _, _, e, h => by
    cases e; cases h; rfl
  | d :: ds, _, bs, e, h => by
    cases h with
    | cons h1 h2 =>
      cases d with
      | bool b =>
        unfold bools at e
        cases q : bools ds with
        | none => rw [q] at e; cases e
        | some cs =>
          rw [q] at e
          cases e
          cases h1
          rw [bools_ok q h2]
          rfl
      | _ => cases e
def allC (f : List Bool → Bool) : List PyData → Option Out
  | [.list xs] => (bools xs).map fun bs => .v (.bool (f bs))
  | _ => none
theorem allC_ok {f : List Bool → Bool} : CallD K (fun vs H Q => ∃ (a : Addr) (bs : List Bool), vs = [V.ref a] ∧ SqL K H a (bs.map V.bl) ∧ Q (.bl (f bs)) H) (allC f) := by
  intro G H vs xs o Q ext h0 e k
  unfold allC at e
  split at e
  · rename_i xs
    cases q : bools xs with
    | none => rw [q] at e; cases e
    | some bs =>
      rw [q] at e
      cases e
      obtain ⟨v, rfl, h⟩ := one_of h0
      obtain ⟨a, ws, rfl, h1, h2⟩ := h
      rw [bools_ok q h2] at h1
      exact ⟨a, bs, rfl, sql_of h1, k _ (.bl _)⟩
  · cases e
end

/-! ### sorted -/
def dLe (x y : PyData) : Bool := !PySem.W.dataLt y x
def SortOk (xs : List PyData) : Prop := PySem.W.AllAlike xs ∧ PySem.W.Sortable xs ∧ (∀ x ∈ xs, x.depth ≤ 64) ∧ xs.length ≤ sizeLine
open Classical in
noncomputable def sortC : List PyData → Option Out
  | [.list xs] => if SortOk xs then some (.n (xs.mergeSort dLe)) else none
  | [.tuple xs] => none
  | _ => none
def rSortD (K : PySem.W.Frag) : List V → Hp → VK → Prop := fun vs H Q => ∃ (a : Addr) (ps : List (V × PyData)), vs = [V.ref a] ∧ SqL K H a (ps.map (·.1)) ∧ (∀ p ∈ ps, Rp K H p.1 p.2) ∧ SortOk (ps.map (·.2)) ∧
  ∀ (qs : List (V × PyData)) (p : Addr), qs = ps.mergeSort (fun x y => dLe x.2 y.2) → H p = none → Q (.ref p) (upd H p (.lst (qs.map (·.1))))
theorem each_of {R : Value → V × PyData → Prop} : ∀ {ps : List (V × PyData)} {us : List Value}, Vals (ps.map (·.1)) us → (∀ p ∈ ps, ∀ u, RelV p.1 u → R u p) → PySem.W.EachIs R us ps
  | [], _, .nil, _ => .nil
  | p :: ps, _, .cons r t, h => .cons (h p (List.mem_cons_self ..) _ r) (each_of t fun q hq => h q (List.mem_cons_of_mem _ hq))
theorem of_each : ∀ {us : List Value} {ps : List (V × PyData)}, PySem.W.EachIs (fun u p => RelV p.1 u) us ps → Vals (ps.map (·.1)) us
  | _, _, .nil => .nil
  | _, _, .cons r t => .cons r (of_each t)
theorem cr_sortD {X : Cx} (hu : X.A.units + 80 < cLine) : CallR X (.builtin "sorted") (rSortD X.K) := by
  intro pins s σ H vs us Q I r h
  obtain ⟨a, ps, rfl, hs, hp, ⟨hal, hk, hd, hl⟩, q⟩ := h
  obtain ⟨its, rv, hL, hz⟩ := I.list hs
  rw [Vals.ref1 r]
  refine PySem.W.sorted_data (enc := fun p : V × PyData => p.2) hL.isList (each_of rv fun p _ u r => r) (each_of rv fun p hm u r => Dp.reads I _ _ _ (Rp.dp _ _ (hp p hm)) r) hal hk (by rw [List.length_map] at hl; exact hl) (fun b hb => ?_) fun out h1 h2 => ?_
  · have := hd b.2 (List.mem_map.mpr ⟨b, hb, rfl⟩)
    omega
  · obtain ⟨ep, he⟩ := PyProof.Rows.sortedAll_at s.heap its (List.toArray out)
    have rv2 := of_each h2
    have e0 : ps.mergeSort (PySem.W.dataLe false fun p : V × PyData => p.2) = ps.mergeSort (fun x y => dLe x.2 y.2) := rfl
    rw [e0] at rv2
    have hlen : ((ps.mergeSort (fun x y => dLe x.2 y.2)).map (·.1)).length ≤ sizeLine := by
      rw [List.length_map, List.length_mergeSort]
      rw [List.length_map] at hl
      exact hl
    exact ⟨.ref _, upd H (s.heap.objs.size + 1) (.lst ((ps.mergeSort (fun x y => dLe x.2 y.2)).map (·.1))), I.laid (t' := s.toks) (fun _ _ => PyProof.Rows.sortedAll_old) (Nat.le_succ _) ⟨hlen, (List.toArray out).toList, ep, rv2, he⟩, rfl, q _ _ rfl (I.hok.fresh (Nat.le_succ _))⟩
theorem pairs_of {K : PySem.W.Frag} {G : Hp} : ∀ {vs : List V} {ds : List PyData}, RpA K G vs ds → ∃ ps : List (V × PyData), ps.map (·.1) = vs ∧ ps.map (·.2) = ds ∧ ∀ p ∈ ps, Rp K G p.1 p.2
  | _, _, .nil => ⟨[], rfl, rfl, fun _ h => by cases h⟩
  | v :: vs, d :: ds, .cons r t => by
    obtain ⟨ps, h1, h2, h3⟩ := pairs_of t
    refine ⟨(v, d) :: ps, by rw [List.map_cons, h1], by rw [List.map_cons, h2], fun p hp => ?_⟩
    rcases List.mem_cons.mp hp with rfl | hp
    · exact r
    · exact h3 p hp
theorem rpa_of {K : PySem.W.Frag} {G : Hp} : ∀ {ps : List (V × PyData)}, (∀ p ∈ ps, Rp K G p.1 p.2) → RpA K G (ps.map (·.1)) (ps.map (·.2))
  | [], _ => .nil
  | p :: ps, h => .cons (h p (List.mem_cons_self ..)) (rpa_of fun q hq => h q (List.mem_cons_of_mem _ hq))
theorem sortC_ok {K : PySem.W.Frag} : CallD K (rSortD K) sortC := by
  intro G H vs xs o Q ext h0 e k
  unfold sortC at e
  split at e
  · split at e
    · rename_i xs hs
      cases e
      obtain ⟨v, rfl, h⟩ := one_of h0
      obtain ⟨a, ws, rfl, h1, h2⟩ := h
      obtain ⟨ps, e1, e2, h3⟩ := pairs_of h2
      refine ⟨a, ps, rfl, by rw [e1]; exact sql_of h1, fun p hp => Rp.mono ext _ _ (h3 p hp), by rw [e2]; exact hs, fun qs p eq hp => k p _ hp ?_⟩
      have m : (ps.mergeSort fun x y => dLe x.2 y.2).map (·.2) = xs.mergeSort dLe := by
        rw [← e2]
        exact List.map_mergeSort fun _ _ _ _ => rfl
      rw [← m, ← eq]
      refine rpa_of fun p hp => h3 p ?_
      rw [eq] at hp
      exact (List.mergeSort_perm _ _).mem_iff.mp hp
    · cases e
  · cases e
  · cases e

/-! ### isinstance -/
def tyN : PyData → String
  | .none => "NoneType"
  | .bool _ => "bool"
  | .int _ => "int"
  | .str _ => "str"
  | .list _ => "list"
  | .tuple _ => "tuple"
  | .dict _ => "dict"
inductive Ty where
  | int | bool | str | list | tuple
def Ty.n : Ty → String
  | .int => "int"
  | .bool => "bool"
  | .str => "str"
  | .list => "list"
  | .tuple => "tuple"
def isi : PyData → Ty → Bool
  | .bool _, .bool => true
  | .bool _, .int => true
  | .int _, .int => true
  | .str _, .str => true
  | .list _, .list => true
  | .tuple _, .tuple => true
  | _, _ => false
def tyAlls : List String := ["NoneType", "bool", "int", "str", "list", "tuple"]
theorem kit_all : ∀ T : Ty, kitB "NoneType" T.n = some false ∧ kitB "bool" T.n = some (isi (.bool true) T) ∧ kitB "int" T.n = some (isi (.int 0) T) ∧ kitB "str" T.n = some (isi (.str "") T) ∧ kitB "list" T.n = some (isi (.list []) T) ∧ kitB "tuple" T.n = some (isi (.tuple []) T) := by
  intro T
  cases T <;> decide +kernel
theorem kit_is {x : PyData} {T : Ty} (h : ∀ ds, x ≠ .dict ds) : kitB (tyN x) T.n = some (isi x T) := by
  obtain ⟨h1, h2, h3, h4, h5, h6⟩ := kit_all T
  cases x with
  | none => exact h1.trans (by cases T <;> rfl)
  | bool b => exact h2.trans (by cases T <;> rfl)
  | int i => exact h3.trans (by cases T <;> rfl)
  | str z => exact h4.trans (by cases T <;> rfl)
  | list xs => exact h5.trans (by cases T <;> rfl)
  | tuple xs => exact h6.trans (by cases T <;> rfl)
  | dict ds => exact absurd rfl (h ds)
theorem ty_of {K : PySem.W.Frag} {G H : Hp} {v : V} {x : PyData} (ext : Ex G H) (h : Vw K G H v x) : TyX K H v (.type (tyN x)) ∧ ∀ ds, x ≠ .dict ds := by
  cases x with
  | none => rw [vw_none h]; exact ⟨.base .non, fun _ z => nomatch z⟩
  | bool b => rw [vw_bool h]; exact ⟨.base (.bl b), fun _ z => nomatch z⟩
  | int i => rw [vw_int h]; exact ⟨.base (.int i), fun _ z => nomatch z⟩
  | str z => rw [vw_str h]; exact ⟨.base (.str z), fun _ z => nomatch z⟩
  | list xs =>
    obtain ⟨a, vs, rfl, h1, _⟩ := h
    exact ⟨.base (.lst h1), fun _ z => nomatch z⟩
  | tuple xs =>
    obtain ⟨a, vs, rfl, h1, _⟩ := h.tup ext
    refine ⟨?_, fun _ z => nomatch z⟩
    rcases h1 with (h1 | ⟨o, h1⟩) | ⟨o, _, _, e, c, _⟩
    · exact .base (.tup h1)
    · exact .fTuple h1
    · exact .kTuple e c
  | dict xs =>
    have h : Rp K G v (.dict xs) := h
    cases h
def wIsi (T : Ty) (wa : DTE) : DTE := fun ρ κ P => wa ρ κ fun r κ1 => Opt (val κ1 r.st) fun x => P (.d (.bool (isi x T))) κ1
def wIsi2 (T U : Ty) (wa : DTE) : DTE := fun ρ κ P => wa ρ κ fun r κ1 => Opt (val κ1 r.st) fun x => P (.d (.bool (isi x T || isi x U))) κ1
section
variable {X : Cx} {e : Expr} {wa : DTE} {p p2 p3 p4 pos : Pos} {tn un : Str} {kk : Nat}
theorem de_isi (T : Ty) (hm : X.mg "isinstance" = none) (ht : X.mg tn = none) (ha : DE X e wa) (htv : bootBuiltins tn = some (.type T.n) := by decide +kernel) (hg : Gl X "isinstance" := by rfl) (hgt : Gl X tn := by rfl) (hnt : tn ≠ "__name__" := by decide) (hdt : (tn == ("__debug__" : Str)) = false := by decide)
    (hs : starEach [e, .Name tn p2] X.env = (false, eval e X.env) :: starEach [.Name tn p2] X.env := by rfl) (hs2 : starEach [.Name tn p2] X.env = (false, eval (.Name tn p2) X.env) :: starEach [] X.env := by rfl) (hpl : (backTo pos (starEach [.Name tn p2] X.env)).any (·.1) = false := by rfl) :
    DE X (.Call (.Name "isinstance" p) [e, .Name tn p2] [] pos) (wIsi T wa) := by
  obtain ⟨t, pt, ha⟩ := ha
  refine ⟨_, pe_callB call_isi hg hm (by decide +kernel) (pa_cons pt (pa_cons (pe_bltn (v := .ty T.n) hgt ht htv rfl hnt hdt) pa_nil hs2) hs) (by decide) (by decide) hs hpl, fun G H As σ ρ κ P Q c pl w k => ?_⟩
  refine ha G H As σ ρ κ _ _ c pl w fun v r G1 H1 As1 κ1 s1 c1 p1 i1 w1 => ?_
  obtain ⟨G1', s1', c1', p1', i1', _⟩ := settle s1 c1 p1 i1
  obtain ⟨x, ex, w2⟩ := w1.ex
  obtain ⟨h1, h2⟩ := ty_of c1'.ext (i1'.vw c1' ex)
  exact ⟨v, .ty T.n, _, _, isi x T, rfl, .ty _, h1, kit_ty (kit_is h2), k _ (.d (.bool _)) G1' H1 As1 κ1 s1' c1' p1' (.bl _) w2⟩
theorem de_isi2 (T U : Ty) (hm : X.mg "isinstance" = none) (ht : X.mg tn = none) (hu : X.mg un = none) (ha : DE X e wa) (htv : bootBuiltins tn = some (.type T.n) := by decide +kernel) (huv : bootBuiltins un = some (.type U.n) := by decide +kernel) (hg : Gl X "isinstance" := by rfl) (hgt : Gl X tn := by rfl) (hgu : Gl X un := by rfl)
    (hnt : tn ≠ "__name__" := by decide) (hdt : (tn == ("__debug__" : Str)) = false := by decide) (hnu : un ≠ "__name__" := by decide) (hdu : (un == ("__debug__" : Str)) = false := by decide)
    (hs : starEach [e, .Tuple [.Name tn p2, .Name un p3] kk p4] X.env = (false, eval e X.env) :: starEach [.Tuple [.Name tn p2, .Name un p3] kk p4] X.env := by rfl) (hs2 : starEach [.Tuple [.Name tn p2, .Name un p3] kk p4] X.env = (false, eval (.Tuple [.Name tn p2, .Name un p3] kk p4) X.env) :: starEach [] X.env := by rfl)
    (hs3 : starEach [.Name tn p2, .Name un p3] X.env = (false, eval (.Name tn p2) X.env) :: starEach [.Name un p3] X.env := by rfl) (hs4 : starEach [.Name un p3] X.env = (false, eval (.Name un p3) X.env) :: starEach [] X.env := by rfl)
    (hpl : (backTo pos (starEach [.Tuple [.Name tn p2, .Name un p3] kk p4] X.env)).any (·.1) = false := by rfl) :
    DE X (.Call (.Name "isinstance" p) [e, .Tuple [.Name tn p2, .Name un p3] kk p4] [] pos) (wIsi2 T U wa) := by
  obtain ⟨t, pt, ha⟩ := ha
  refine ⟨_, pe_callB call_isiT hg hm (by decide +kernel) (pa_cons pt (pa_cons (pe_tup (pa_cons (pe_bltn (v := .ty T.n) hgt ht htv rfl hnt hdt) (pa_cons (pe_bltn (v := .ty U.n) hgu hu huv rfl hnu hdu) pa_nil hs4) hs3)) pa_nil hs2) hs) (by decide) (by decide) hs hpl, fun G H As σ ρ κ P Q c pl w k => ?_⟩
  refine ha G H As σ ρ κ _ _ c pl w fun v r G1 H1 As1 κ1 s1 c1 p1 i1 w1 => ?_
  obtain ⟨G1', s1', c1', p1', i1', _⟩ := settle s1 c1 p1 i1
  obtain ⟨x, ex, w2⟩ := w1.ex
  refine ⟨by show 2 ≤ sizeLine; decide, fun q hq => ?_⟩
  have e2 : Ex H1 (upd H1 q (.tup [.ty T.n, .ty U.n])) := Ex.new hq
  obtain ⟨h1, h2⟩ := ty_of (c1'.ext.trans e2) (show Vw X.K G1' (upd H1 q (.tup [.ty T.n, .ty U.n])) v x from by
    have vw := i1'.vw c1' ex
    cases x with
    | list xs =>
      obtain ⟨a, vs, rfl, h1, h2⟩ := vw
      exact ⟨a, vs, rfl, e2 _ _ h1, h2⟩
    | none => exact vw
    | bool _ => exact vw
    | int _ => exact vw
    | str _ => exact vw
    | tuple _ => exact vw
    | dict _ => exact vw)
  refine ⟨v, q, [.ty T.n, .ty U.n], _, [.type T.n, .type U.n], isi x T || isi x U, rfl, upd_same, .cons (.ty _) (.cons (.ty _) .nil), h1, ?_, ?_⟩
  · refine kitAny_cons (kit_ty (kit_is h2)) (fun e => ?_) (fun e => by rw [e]; rfl)
    rw [e, Bool.false_or]
    refine kitAny_cons (kit_ty (kit_is h2)) (fun e => ?_) (fun e => e)
    rw [e]; exact kitAny_nil
  · have st : Step G H As G1' (upd H1 q (.tup [.ty T.n, .ty U.n])) As1 := s1'.trans (Step.fresh hq)
    exact k _ (.d (.bool _)) G1' _ As1 κ1 st (c1'.fresh hq) p1' (.bl _) w2
end

/-! ### methods -/
def tyOk (T : String) : PyData → Prop
  | .str _ => T = "str"
  | .list _ => T = "list"
  | _ => False
def MtD (K : PySem.W.Frag) (r : V → List V → Hp → VK → Prop) (g : PyData → List PyData → Option Out) : Prop := ∀ (G H : Hp) (v : V) (vs : List V) (x : PyData) (xs : List PyData) (o : Out) (Q : VK), Ex G H → Vw K G H v x → Paired (Vw K G H) vs xs → g x xs = some o → OutK K G H Q o → r v vs H Q
def wBM (T : String) (g : PyData → List PyData → Option Out) (wo : DTE) (wa : DTA) : DTE := fun ρ κ P => wo ρ κ fun r κ1 => Opt (val κ1 r.st) fun x0 => tyOk T x0 ∧ wa ρ κ1 fun rs κ2 => Opt (val κ2 r.st) fun x => Opt (vals κ2 rs) fun xs => Opt (g x xs) fun o => P o.r κ2
theorem tyV_of {K : PySem.W.Frag} {G H : Hp} {v : V} {x : PyData} {T : String} (h : Vw K G H v x) (t : tyOk T x) : tyV K T v H := by
  cases x with
  | str z => rw [vw_str h]; exact t
  | list xs =>
    obtain ⟨a, vs, rfl, h1, _⟩ := h
    exact .inl ⟨t, vs, sql_of h1⟩
  | _ => exact t.elim
section
variable {X : Cx} {o e : Expr} {es : List Expr} {wo : DTE} {wr : DTA} {apos cpos : Pos} {T id : String} {name : Str}
theorem de_bm {r : V → List V → Hp → VK → Prop} {g : PyData → List PyData → Option Out} (pa : PlainAttrs T) (slot : Slot T name id) (hty : typeOf (.builtin id) = pure (.type "method_descriptor")) (hm : MtR X id r) (hg : MtD X.K r g) (ho : DE X o wo) (ha : DA X (e :: es) wr)
    (hbase : attributeBase o name X.env (eval o X.env) = eval o X.env := by rfl)
    (hfew : ((backTo cpos (starEach (e :: es) X.env)).all (fun x => !x.1) && (backToKw cpos (keywordEach [] X.env)).all (fun x => x.1.isSome) && decide ((e :: es).length + ([] : List Keyword).length + (if ([] : List Keyword).isEmpty then 0 else 1) < 30)) = true := by rfl)
    (hline : (apos.endLine == cpos.line) = true := by rfl) (hs : starEach (e :: es) X.env = (false, eval e X.env) :: starEach es X.env := by rfl) (hplain : (backTo cpos (starEach es X.env)).any (·.1) = false := by rfl) :
    DE X (.Call (.Attribute o name apos) (e :: es) [] cpos) (wBM T g wo wr) := by
  obtain ⟨to, po, ho⟩ := ho
  obtain ⟨t, pt, ha⟩ := ha
  refine ⟨_, pe_bm pa slot hty hm po pt hbase hfew hline hs hplain, fun G H As σ ρ κ P Q c p w k => ?_⟩
  refine ho G H As σ ρ κ _ _ c p w fun v1 r1 G1 H1 As1 κ1 s1 c1 p1 i1 w1 => ?_
  obtain ⟨G1', s1', c1', p1', i1', _⟩ := settle s1 c1 p1 i1
  obtain ⟨x0, ex0, tok, w1⟩ := w1.ex
  refine ⟨tyV_of (i1'.vw c1' ex0) tok, ?_⟩
  refine ha G1' H1 As1 σ ρ κ1 _ _ c1' p1' w1 fun vs rs G2 H2 As2 κ2 s2 c2 p2 i2 _ w2 => ?_
  obtain ⟨x, ex, w2⟩ := w2.ex
  obtain ⟨xs, exs, w2⟩ := w2.ex
  obtain ⟨oo, eo, w2⟩ := w2.ex
  exact hg G2 H2 v1 vs x xs oo Q c2.ext ((s2.it i1').vw c2 ex) (vals_ok c2 i2 exs) eo (out_ok (s1'.trans s2) c2 p2 oo w2 k)
end
def strL : List PyData → Option (List Str)
  | [] => some []
  | .str z :: xs => (strL xs).map (z :: ·)
  | _ => none
theorem strs_map : ∀ zs : List Str, strL (zs.map .str) = some zs
  | [] => rfl
  | z :: zs => by
    show (strL (zs.map .str)).map (z :: ·) = _
    rw [strs_map zs]; rfl
theorem strs_ok {K : PySem.W.Frag} {G : Hp} : ∀ {ds : List PyData} {vs : List V} {bs : List Str}, strL ds = some bs → RpA K G vs ds → vs = bs.map V.str
  | [], _, _, e, h => by
    cases e; cases h; rfl
  | d :: ds, _, bs, e, h => by
    cases h with
    | cons h1 h2 =>
      cases d with
      | str b =>
        unfold strL at e
        cases q : strL ds with
        | none => rw [q] at e; cases e
        | some cs =>
          rw [q] at e
          cases e
          cases h1
          rw [strs_ok q h2]
          rfl
      | _ => cases e
def joinC : PyData → List PyData → Option Out
  | .str a, [.list xs] => match strL xs with
    | some ys => if (ys.map (·.length)).sum + ys.length * a.length ≤ 16777216 then some (.v (.str (Txt.join a ys))) else none
    | none => none
  | .str a, [.tuple xs] => match strL xs with
    | some ys => if (ys.map (·.length)).sum + ys.length * a.length ≤ 16777216 then some (.v (.str (Txt.join a ys))) else none
    | none => none
  | _, _ => none
theorem joinC_ok {K : PySem.W.Frag} : MtD K (fun x xs H Q => ∃ a p, ∃ ys : List Str, x = .str a ∧ xs = [.ref p] ∧ (SqL K H p (ys.map V.str) ∨ SqT K H p (ys.map V.str)) ∧ (ys.map (·.length)).sum + ys.length * a.length ≤ 16777216 ∧ Q (.str (Txt.join a ys)) H) joinC := by
  intro G H v vs x xs o Q ext hx h0 e k
  unfold joinC at e
  split at e
  · split at e
    · rename_i ys q
      split at e
      · cases e
        obtain ⟨u, rfl, h⟩ := one_of h0
        obtain ⟨a, ws, rfl, h1, h2⟩ := h
        rw [strs_ok q h2] at h1
        exact ⟨_, a, ys, vw_str hx, rfl, .inl (sql_of h1), by assumption, k _ (.str _)⟩
      · cases e
    · cases e
  · split at e
    · rename_i ys q
      split at e
      · cases e
        obtain ⟨u, rfl, h⟩ := one_of h0
        obtain ⟨a, ws, rfl, h1, h2⟩ := h.tup ext
        rw [strs_ok q h2] at h1
        exact ⟨_, a, ys, vw_str hx, rfl, .inr h1, by assumption, k _ (.str _)⟩
      · cases e
    · cases e
  · cases e

/-! ### the script -/
section
variable {X : Cx} {a b e : Expr} {wa wb : DTE} {p pos : Pos}
theorem de_scr (ha : DE X a wa) (hb : DE X b wb) (hs : PlainIx b) : DE X (.Subscript a b pos) (wScr wa wb) := by
  obtain ⟨ta, pa, ha⟩ := ha
  obtain ⟨tb, pb, hb⟩ := hb
  refine ⟨_, pe_ix ix_list pa pb hs, fun G H As σ ρ κ P Q c p w k => ?_⟩
  refine ha G H As σ ρ κ _ _ c p w fun v1 r1 G1 H1 As1 κ1 s1 c1 p1 i1 w1 => ?_
  cases r1 with
  | s ns =>
    refine hb G1 H1 As1 σ ρ κ1 _ _ c1 p1 w1 fun v2 r2 G2 H2 As2 κ2 s2 c2 p2 i2 w2 => ?_
    have i1' : It X.K G1 As1 v1 (.s ns) := i1
    obtain ⟨l, rfl, hl⟩ := s2.it i1'
    cases r2 with
    | d y =>
      cases y with
      | int i =>
        obtain ⟨n, en, w3⟩ := w2.ex
        have i2 : Rp X.K G2 v2 (.int i) := i2
        cases i2
        refine ⟨l, _, i, .int n, rfl, rfl, ex_sl c2.ext hl, ?_, k _ (.d (.int n)) G2 H2 As2 κ2 (s1.trans s2) c2 p2 (.int _) w3⟩
        unfold atI at en ⊢
        rw [List.length_map]
        cases q : ixN ns.length i with
        | none => rw [q] at en; cases en
        | some j =>
          rw [q] at en
          show (ns.map V.int)[j]? = some (V.int n)
          rw [List.getElem?_map, show ns[j]? = some n from en]
          rfl
      | _ => exact w2.elim
    | _ => exact w2.elim
  | _ => exact w1.elim
/-- len(script) -/
def wLenS (wa : DTE) : DTE := fun ρ κ P => wa ρ κ fun r κ1 => match r with
  | .s ns => P (.d (.int ns.length)) κ1
  | _ => False
theorem de_lenS (hm : X.mg "len" = none) (ha : DE X e wa) (hg : Gl X "len" := by rfl) (hs : starEach [e] X.env = (false, eval e X.env) :: starEach [] X.env := by rfl) (hpl : (backTo pos (starEach [] X.env)).any (·.1) = false := by rfl) : DE X (.Call (.Name "len" p) [e] [] pos) (wLenS wa) := by
  obtain ⟨t, pt, ha⟩ := ha
  refine ⟨_, pe_callB call_len_seq hg hm (by decide +kernel) (pa_cons pt pa_nil hs) (by decide) (by decide) hs hpl, fun G H As σ ρ κ P Q c p w k => ?_⟩
  refine ha G H As σ ρ κ _ _ c p w fun v1 r1 G1 H1 As1 κ1 s1 c1 p1 i1 w1 => ?_
  cases r1 with
  | s ns =>
    obtain ⟨l, rfl, hl⟩ := i1
    refine ⟨l, _, rfl, .inl (ex_sl c1.ext hl), ?_⟩
    rw [List.length_map]
    exact k _ (.d (.int ns.length)) G1 H1 As1 κ1 s1 c1 p1 (.int _) w1
  | _ => exact w1.elim
end
end DL
/-! DLg: a star among targets. -/
namespace DL
open PySem PySem.Spec PyProof.Rows L2
section
variable {prog : Program} {w : World} {A : Around} {E : Value → Shared → Prop} {s : Shared}
/-- what a star takes of a tuple: the items ahead, a new list, the items behind -/
theorem star_tup {l : Addr} {items : Array Value} {n i : Nat} {Q : List Value → Shared → Prop} (hl : IsTup s.heap l items) (hh : A.handled = none) (hi : i < n) (hn : n ≤ items.size + 1) (hz : items.size ≤ 16384)
    (h : ∀ (h' : Heap) (tk : Nat), (∀ b o, s.heap.get? b = some o → h'.get? b = some o) → Q (items.toList.take i ++ [.ref h'.objs.size] ++ (items.toList.drop i).drop (items.size + 1 - n)) { s with heap := h'.push { cls := .type "list", data := .seq ((items.toList.drop i).take (items.size + 1 - n)).toArray }, toks := tk }) :
    wpAny (model prog w) A (unpackItems (.ref l) n (some i)) Q E s := by
  have ne : l ≠ s.heap.objs.size := by obtain ⟨o, ho, _⟩ := hl; exact Nat.ne_of_lt (Heap.lt_size ho)
  unfold unpackItems
  refine wpAny_bind ?_
  unfold notIterableAtAll
  refine wpAny_bind (wpAny_specialOf hl.typeIs slot_tuple_iter.lookup (wpAny_pure ?_))
  simp only [Bool.false_eq_true, if_false]
  refine wpAny_bind (wpAny_holding (iter_tuple hl ?_))
  refine wpAny_bind (wpAny_holding (draw_tuple ne i 0 _ _ ⟨_, Heap.get?_push_size _ rfl, rfl, rfl⟩ (hl.push _) (by omega) fun h1 it1 st1 => ?_))
  have hl1 : IsTup h1 l items := (hl.push _).extBut st1.extBut ne
  rw [Nat.zero_add] at it1
  obtain ⟨oi, hoi, _⟩ := id it1
  obtain ⟨ol, hol, _⟩ := id hl1
  rw [List.drop_zero]
  have e1 : (items.toList.take i).length = i := by rw [List.length_take, Array.length_toList]; omega
  rw [if_neg (by rw [e1]; omega)]
  refine wpAny_bind (wpAny_holding (PySem.W.kun_collect (s := { s with heap := h1 }) (T := "tuple_iterator") (.inr (.inr (.inr rfl))) (Walks.tuple (A := A.in1) hh s.heap.objs.size l ne items) (fun j u st => st.1.typeIs) (k := i) (by omega) ⟨it1, hl1⟩ (Heap.lt_size hoi) (Heap.lt_size hol) (fun h2 tk hk => ?_) (by rw [sizeLine_eq]; omega)))
  have e2 : (items.toList.drop i).length = items.size - i := by rw [List.length_drop, Array.length_toList]
  have e3 : (items.toList.drop i).length - (n - 1 - i) = items.size + 1 - n := by rw [e2]; omega
  show wpAny _ _ (if (items.toList.drop i).length < n - 1 - i then _ else _) _ _ _
  rw [if_neg (by rw [e2]; omega)]
  show wpAny _ _ (newList ((items.toList.drop i).take ((items.toList.drop i).length - (n - 1 - i))) >>= fun d => pure (items.toList.take i ++ [d] ++ (items.toList.drop i).drop ((items.toList.drop i).length - (n - 1 - i)))) _ _ _
  rw [e3]
  refine wpAny_bind (wpAny_newList (wpAny_pure ?_) ?_)
  · exact h h2 tk fun b o e => hk b o (Nat.ne_of_lt (Heap.lt_size e)) (st1.extBut b o (Nat.ne_of_lt (Heap.lt_size e)) (Heap.get?_push_of_some _ e))
  · rw [List.length_take, e2, sizeLine_eq]; omega
end
section
variable {X : Cx} {pos spos : Pos} {e : Expr} {es : List Expr} {js is : List Nat} {wg : DTG} {gs : List PyData → Rho → Kap → (Rho → Kap → Prop) → Prop}
/-- (a, .., *b, .., c) = a tuple; the star at i -/
def gStar (K : PySem.W.Frag) (n i : Nat) (t : TGs) : TG := fun v σ H Q => ∃ a xs, v = .ref a ∧ SqT K H a xs ∧ i < n ∧ n ≤ xs.length + 1 ∧ xs.length ≤ 16384 ∧ ∀ D, H D = none → t (xs.take i ++ [.ref D] ++ (xs.drop i).drop (xs.length + 1 - n)) σ (upd H D (.lst ((xs.drop i).take (xs.length + 1 - n)))) Q
theorem pg_star {k n i : Nat} {t : TGs} (hc : X.calm = true) (h : PGs X es t) (hn : (assignEach es X.env).length = n := by rfl) (hst : (assignEach es X.env).findIdx? (·.1) = some i := by rfl) : PG X (.Tuple es k pos) (gStar X.K n i t) := by
  refine ⟨fun pins s σ H v u Q I r hw => ?_⟩
  obtain ⟨a, xs, e1, hq, hi, hl, hz, hw⟩ := hw
  subst e1
  cases r
  obtain ⟨its, rv, ht, _⟩ := I.tuple hq
  have el : its.toArray.size = xs.length := by rw [List.size_toArray]; exact rv.length.symm
  rw [PyProof.Rows.assign_Tuple]
  refine wpAny_bind (wpAny_standAt ?_)
  unfold unpack
  rw [hn, hst]
  refine wpAny_bind (wpAny_holding (star_tup ht (I.ok.hd hc) hi (by rw [el]; exact hl) (by rw [el]; exact hz) fun h' tk hk => ?_))
  have I1 : Inv X pins σ H { s with heap := h' } := I.kept (t' := s.toks) hk
  have hf : H h'.objs.size = none := I1.hok.fresh (Nat.le_refl _)
  rw [el]
  have rm : Vals ((xs.drop i).take (xs.length + 1 - n)) ((its.toArray.toList.drop i).take (xs.length + 1 - n)) := by
    simpa using (rv.drop i).take (xs.length + 1 - n)
  have I2 : Inv X pins σ (upd H h'.objs.size (.lst ((xs.drop i).take (xs.length + 1 - n)))) { s with heap := h'.push { cls := .type "list", data := .seq ((its.toArray.toList.drop i).take (xs.length + 1 - n)).toArray }, toks := tk } := by
    refine I1.laid (t' := tk) (fun b o e => Heap.get?_push_of_some _ e) (Nat.le_refl _) ⟨?_, _, 0, rm, Heap.get?_push_size _ rfl⟩
    rw [List.length_take, List.length_drop, sizeLine_eq]; omega
  refine h.run pins _ σ _ _ _ Q I2 ?_ (hw _ hf)
  have r1 : Vals (xs.take i) (its.toArray.toList.take i) := by simpa using rv.take i
  have r3 : Vals ((xs.drop i).drop (xs.length + 1 - n)) ((its.toArray.toList.drop i).drop (xs.length + 1 - n)) := by simpa using (rv.drop i).drop (xs.length + 1 - n)
  have r2 : Vals [V.ref h'.objs.size] [Value.ref h'.objs.size] := .cons (show RelV (V.ref h'.objs.size) (Value.ref h'.objs.size) from rfl) .nil
  exact (r1.append r2).append r3
theorem pgs_star {t : TG} {u : TGs} (h1 : PG X e t) (h2 : PGs X es u) (hs : (assignEach (.Starred e spos :: es) X.env).map (·.2) = assign e X.env :: (assignEach es X.env).map (·.2) := by rfl) : PGs X (.Starred e spos :: es) (gCons t u) := by
  refine ⟨fun pins s σ H vs us Q I r h => ?_⟩
  obtain ⟨v, vr, e1, h⟩ := h
  subst e1
  cases r with
  | cons r rr =>
    rw [hs]
    refine assignInOrder_cons (thn (h1.run pins s σ H _ _ _ I r h) fun _ s1 ⟨σ1, H1, I1, q1⟩ => ?_)
    exact h2.run pins s1 σ1 H1 _ _ Q I1 rr q1
def wStar (n i : Nat) (gs : List PyData → Rho → Kap → (Rho → Kap → Prop) → Prop) : DTG := fun r ρ κ P => match r with
  | .d (.tuple xs) => i < n ∧ n ≤ xs.length + 1 ∧ xs.length ≤ 16384 ∧ gs (xs.take i ++ [.list ((xs.drop i).take (xs.length + 1 - n))] ++ (xs.drop i).drop (xs.length + 1 - n)) ρ κ P
  | _ => False
theorem dgs_star (h1 : DG X e js wg) (h2 : DGs X es is gs) (hs : (assignEach (.Starred e spos :: es) X.env).map (·.2) = assign e X.env :: (assignEach es X.env).map (·.2) := by rfl) : DGs X (.Starred e spos :: es) (js ++ is) (wgCons wg gs) := by
  obtain ⟨g, pg, h1⟩ := h1
  obtain ⟨u, pu, h2⟩ := h2
  refine ⟨_, pgs_star pg pu hs, fun G H As σ ρ κ vs xs P Q c p h w k => ?_⟩
  cases h with
  | nil => exact w.elim
  | cons r1 r2 =>
    refine ⟨_, _, rfl, ?_⟩
    refine h1 G H As σ ρ κ _ (.d _) _ _ c p r1 w fun σ1 ρ1 G1 H1 As1 κ1 a1 s1 c1 p1 w1 => ?_
    refine h2 G1 H1 As1 σ1 ρ1 κ1 _ _ _ _ c1 p1 (RpA.mono s1.ex _ _ r2) w1 fun σ2 ρ2 G2 H2 As2 κ2 a2 s2 c2 p2 w2 => ?_
    exact k σ2 ρ2 G2 H2 As2 κ2 (a1.trans a2) (s1.trans s2) c2 p2 w2
theorem dg_star {k n i : Nat} (hc : X.calm = true) (h : DGs X es js gs) (hn : (assignEach es X.env).length = n := by rfl) (hst : (assignEach es X.env).findIdx? (·.1) = some i := by rfl) : DG X (.Tuple es k pos) js (wStar n i gs) := by
  obtain ⟨g, pg, h⟩ := h
  refine ⟨_, pg_star hc pg hn hst, fun G H As σ ρ κ v r P Q c p i0 w k => ?_⟩
  unfold wStar at w
  split at w
  · rename_i xs
    obtain ⟨h1, h2, h3, w⟩ := w
    have i0 : Rp X.K G v (.tuple xs) := i0
    cases i0 with
    | tup q1 q2 =>
      have el := q2.len
      rename_i vs
      refine ⟨_, vs, rfl, ex_st c.ext q1, h1, by rw [el]; exact h2, by rw [el]; exact h3, fun D hD => ?_⟩
      rw [el]
      have st : Step G H As (upd G D (.lst ((vs.drop i).take (xs.length + 1 - n)))) (upd H D (.lst ((vs.drop i).take (xs.length + 1 - n)))) As := Step.laid c.ext hD
      have eG := st.ex
      refine h _ _ As σ ρ κ _ _ P Q (c.laid hD) (p.step st) ?_ w fun σ2 ρ2 G2 H2 As2 κ2 a2 s2 => k σ2 ρ2 G2 H2 As2 κ2 a2 (st.trans s2)
      have m := (q2.drop i).take (xs.length + 1 - n)
      exact ((RpA.mono eG _ _ (q2.take i)).app (.cons (.lst upd_same (RpA.mono eG _ _ m)) .nil)).app (RpA.mono eG _ _ ((q2.drop i).drop (xs.length + 1 - n)))
  · exact w.elim
end
end DL
/-! DLh: further statements over plain data. -/
namespace DL
open PySem PySem.Spec PyProof.Rows L2
section
variable {X : Cx} {pos : Pos} {e a b : Expr} {wr : DTA} {we : DTE}
/-- a, b = e1, e2 by a tuple (a name is a cell) -/
theorem ds_tt (i j : Nat) {x y : Str} {px py pt : Pos} {kt k2 : Nat} {pt2 : Pos} (hc : X.calm = true) (hN : X.N.Nodup) (ha : DA X [a, b] wr) (hi : X.N[i]? = some x := by rfl) (hj : X.N[j]? = some y := by rfl)
    (hx : Loc X.env.scope x := by first | exact Or.inl rfl | exact Or.inr rfl) (hy : Loc X.env.scope y := by first | exact Or.inl rfl | exact Or.inr rfl)
    (hf : X.fn x = true ∨ X.env.scope.names.lookup x = some .local := by first | exact .inl rfl | exact .inr rfl) (hf' : X.fn y = true ∨ X.env.scope.names.lookup y = some .local := by first | exact .inl rfl | exact .inr rfl)
    (hs : swapsWithSole [.Tuple [.Name x px, .Name y py] kt pt] (.Tuple [a, b] k2 pt2) pos.line X.env = pure false := by rfl) (hw : swappedStores [.Tuple [.Name x px, .Name y py] kt pt] (.Tuple [a, b] k2 pt2) X.env = pure none := by rfl) :
    DS X (.Assign [.Tuple [.Name x px, .Name y py] kt pt] (.Tuple [a, b] k2 pt2) pos) (wPar i j wr) := by
  obtain ⟨t, ptt, ha⟩ := ha
  refine ⟨_, ps_asg (pe_tup ptt) (pg_tup (n := 2) hc (pgs_cons (pg_name hN hi hx hf) (pgs_cons (pg_name hN hj hy hf') pgs_nil))) hs hw, fun G H As σ ρ κ E D c p w r => ?_⟩
  refine ha G H As σ ρ κ _ _ c p w fun vs rs G1 H1 As1 κ1 s1 c1 p1 i1 l1 w1 => ?_
  match rs, vs, i1, w1 with
  | [q1, q2], _, .cons (a := v1) h1 (.cons (a := v2) h2 .nil), w1 =>
    refine ⟨by show 2 ≤ sizeLine; decide, fun q hq => ?_⟩
    refine ⟨q, [v1, v2], rfl, sqt_of upd_same, rfl, v1, [v2], rfl, v2, [], rfl, rfl, ?_⟩
    have st : Step G1 H1 As1 G1 (upd H1 q (.tup [v1, v2])) As1 := Step.fresh hq
    exact r.nx _ _ G1 _ As1 κ1 (s1.trans st) (c1.fresh hq) ((p1.put i h1).put j h2) w1
  | [], _, _, w1 => exact w1.elim
  | [_], _, _, w1 => exact w1.elim
  | _ :: _ :: _ :: _, _, _, w1 => exact w1.elim
/-- x op= e, ints -/
def wAug (i : Nat) (f : Int → Int → Int) (we : DTE) : DTS := fun E ρ κ => match ρ[i]? with
  | some (some (.d (.int a))) => we ρ κ fun r κ1 => match r with
    | .d (.int b) => E.nx (ρ.set i (some (.d (.int (f a b))))) κ1
    | _ => False
  | _ => False
theorem ds_aug (i : Nat) {x : Str} {op : Operator} {f : Int → Int → Int} {pos' : Pos} (hN : X.N.Nodup) (ho : PIp X op (ipI f)) (he : DE X e we) (hi : X.N[i]? = some x := by rfl) (hx : Loc X.env.scope x := by first | exact Or.inl rfl | exact Or.inr rfl)
    (hf : X.fn x = true ∨ X.env.scope.names.lookup x = some .local := by first | exact .inl rfl | exact .inr rfl) : DS X (.AugAssign (.Name x pos') op e pos) (wAug i f we) := by
  obtain ⟨t, pt, he⟩ := he
  refine ⟨_, ps_aug hN hi hx pt ho hf, fun G H As σ ρ κ E D c p w r => ?_⟩
  unfold wAug at w
  split at w
  · rename_i a ha
    obtain ⟨v, h1, h2⟩ := p.ok i _ ha
    have h2 : Rp X.K G v (.int a) := h2
    cases h2
    refine ⟨_, h1, ?_⟩
    refine he G H As σ ρ κ _ _ c p w fun v q G1 H1 As1 κ1 s1 c1 p1 i1 w1 => ?_
    cases q with
    | d y =>
      cases y with
      | int b =>
        have i1 : Rp X.K G1 v (.int b) := i1
        cases i1
        exact ⟨a, b, rfl, rfl, r.nx _ _ G1 H1 As1 κ1 s1 c1 (p1.put i (r := .d (.int (f a b))) (.int _)) w1⟩
      | _ => exact w1.elim
    | _ => exact w1.elim
  · exact w.elim
/-- a module's constant -/
theorem de_glob {x : Str} {v : V} {u : Value} {d : PyData} {pos : Pos} (hm : X.mg x = some u) (r : RelV v u) (hx : ∀ G : Hp, Rp X.K G v d) (hg : Gl X x := by rfl) (hd : (x == ("__debug__" : Str)) = false := by decide) : DE X (.Name x pos) (wC d) := de_c (pe_glob hg hm r hd) hx
theorem de_globI {x : Str} {i : Int} {t : Tok} {pos : Pos} (hm : X.mg x = some (.int i t)) (hg : Gl X x := by rfl) (hd : (x == ("__debug__" : Str)) = false := by decide) : DE X (.Name x pos) (wC (.int i)) := de_glob (v := .int i) hm ⟨t, rfl⟩ (fun _ => .int i) hg hd
theorem de_globS {x z : Str} {t : Tok} {pos : Pos} (hm : X.mg x = some (.str z t)) (hg : Gl X x := by rfl) (hd : (x == ("__debug__" : Str)) = false := by decide) : DE X (.Name x pos) (wC (.str z)) := de_glob (v := .str z) hm ⟨t, rfl⟩ (fun _ => .str z) hg hd
end
theorem room65 {k : Nat} {A : Around} (r : Room k A) : A.units + 65 < cLine := by have := r.un; omega
theorem room80 {k : Nat} {A : Around} (r : Room k A) : A.units + 80 < cLine := by have := r.un; omega
end DL
/-! DLi: a text's own defs called by place and by name, xs[::-1]. -/
namespace DL
open PySem PySem.Spec PyProof.Rows L2
/-- a def of the text that may be called by its name -/
structure Cal (P : Program) (w : World) (K : PySem.W.Frag) (mg : Str → Option Value) (base : Heap) (x : Str) (k : Nat) (ps : List Str) (sp : Sp) : Prop where
  ex : ∃ (f : Addr) (fd : FuncData), FnOk P w K mg base CX0 k f fd ps sp ∧ mg x = some (.ref f) ∧ PySem.W.keepIn K (.ref f) = true ∧ Binds K fd ps []
theorem Cal.mono {P : Program} {w : World} {K : PySem.W.Frag} {mg : Str → Option Value} {base : Heap} {x : Str} {k j : Nat} {ps : List Str} {sp : Sp} (C : Cal P w K mg base x j ps sp) (h : j ≤ k) : Cal P w K mg base x k ps sp := by
  obtain ⟨f, fd, F, a, b, c⟩ := C.ex
  exact ⟨f, fd, F.mono h, a, b, c⟩
/-- what a list has at these places -/
def pick {α : Type} (p : List Nat) (xs : List α) : List α := p.filterMap fun i => xs[i]?
structure CalK (P : Program) (w : World) (K : PySem.W.Frag) (mg : Str → Option Value) (base : Heap) (x : Str) (k : Nat) (ps : List Str) (n : Nat) (ks : List Str) (p : List Nat) (sp : Sp) : Prop where
  ex : ∃ (f : Addr) (fd : FuncData), FnOk P w K mg base CX0 k f fd ps sp ∧ mg x = some (.ref f) ∧ PySem.W.keepIn K (.ref f) = true ∧ KBn K fd ps n ks (fun us ws => pick p (us ++ ws)) (fun us ws => pick p (us ++ ws))
theorem CalK.mono {P : Program} {w : World} {K : PySem.W.Frag} {mg : Str → Option Value} {base : Heap} {x : Str} {k j : Nat} {ps : List Str} {n : Nat} {ks : List Str} {p : List Nat} {sp : Sp} (C : CalK P w K mg base x j ps n ks p sp) (h : j ≤ k) : CalK P w K mg base x k ps n ks p sp := by
  obtain ⟨f, fd, F, a, b, c⟩ := C.ex
  exact ⟨f, fd, F.mono h, a, b, c⟩
theorem Paired.pick {α β : Type} {R : α → β → Prop} {xs : List α} {ys : List β} (h : Paired R xs ys) : ∀ p : List Nat, Paired R (DL.pick p xs) (DL.pick p ys)
  | [] => .nil
  | i :: p => by
    have ih := Paired.pick h p
    have get : ∀ {xs : List α} {ys : List β} (i : Nat), Paired R xs ys → (xs[i]? = none ∧ ys[i]? = none) ∨ ∃ x y, xs[i]? = some x ∧ ys[i]? = some y ∧ R x y := fun {xs} => by
      induction xs with
      | nil => intro ys i h; cases h; exact .inl ⟨rfl, rfl⟩
      | cons x xs ih =>
        intro ys i h
        cases h with
        | cons r t =>
          cases i with
          | zero => exact .inr ⟨_, _, rfl, rfl, r⟩
          | succ i => simpa using ih i t
    unfold DL.pick at ih ⊢
    rcases get i h with ⟨e1, e2⟩ | ⟨x, y, e1, e2, r⟩
    · rw [List.filterMap_cons_none e1, List.filterMap_cons_none e2]; exact ih
    · rw [List.filterMap_cons_some e1, List.filterMap_cons_some e2]; exact .cons r ih
theorem Paired.app {α β : Type} {R : α → β → Prop} : ∀ {xs xs' : List α} {ys ys' : List β}, Paired R xs ys → Paired R xs' ys' → Paired R (xs ++ xs') (ys ++ ys')
  | _, _, _, _, .nil, q => q
  | _, _, _, _, .cons r t, q => .cons r (Paired.app t q)
theorem Fun.kbn {K : PySem.W.Frag} {x qual : Str} {st : Stmt} {f : Addr} {fd : FuncData} {ps : List Str} (F : Fun K x qual st f fd) (n : Nat) (ks : List Str) (p : List Nat)
    (h : ∀ (kV doc pm : Value) (an : Option Addr) (cdv ct : Value) (us ws : List Value), us.length = n → ws.length = ks.length → bindArgs (PySem.W.fnOf x qual (defArgs st) (defBody st) (defScope st) .none kV doc pm an cdv ct) ⟨us, ks.zip ws⟩ = pure (ps.zip (pick p (us ++ ws)))) :
    KBn K fd ps n ks (fun us ws => pick p (us ++ ws)) (fun us ws => pick p (us ++ ws)) := by
  obtain ⟨oc, od, kV, doc, pm, an, cdv, ct, osl, rfl, lk, hcd⟩ := F.ex
  exact ⟨fun s us ws _ h1 h2 => .of_eq (h kV doc pm an cdv ct us ws h1 h2), fun r1 r2 => Paired.pick (r1.append r2) p⟩
/-- names of built-ins that the text leaves as they are -/
structure Bi (mg : Str → Option Value) : Prop where
  len_ : mg "len" = none
  range_ : mg "range" = none
  zip_ : mg "zip" = none
  enumerate_ : mg "enumerate" = none
  reversed_ : mg "reversed" = none
  sorted_ : mg "sorted" = none
  list_ : mg "list" = none
  tuple_ : mg "tuple" = none
  int_ : mg "int" = none
  abs_ : mg "abs" = none
  min_ : mg "min" = none
  max_ : mg "max" = none
  all_ : mg "all" = none
  any_ : mg "any" = none
  isinstance_ : mg "isinstance" = none
  set_ : mg "set" = none
  dict_ : mg "dict" = none
  str_ : mg "str" = none
  repr_ : mg "repr" = none
  sum_ : mg "sum" = none
  bool_ : mg "bool" = none
section
variable {X : Cx} {k j n : Nat} {ps : List Str} {x : Str} {p pos : Pos} {e : Expr} {es : List Expr} {wr : DTA}
theorem de_callC {Φ : List R → (R → Prop) → Prop} (C : Cal X.prog X.w X.K X.mg X.base x k ps (spD X.K n Φ)) (hr : Room k X.A) (hn : n = (e :: es).length) (ha : DA X (e :: es) wr) (hg : Gl X x := by rfl) (hdb : (x == ("__debug__" : Str)) = false := by decide)
    (he : starEach (e :: es) X.env = (false, eval e X.env) :: starEach es X.env := by rfl) (hpl : (backTo pos (starEach es X.env)).any (·.1) = false := by rfl) : DE X (.Call (.Name x p) (e :: es) [] pos) (wCall Φ wr) := by
  obtain ⟨f, fd, F, hm, hk, hb⟩ := C.ex
  exact de_call F hr hm hk hb pass0 hn ha hg hdb he hpl
theorem de_callC_L {Φ : List PyData → List R → (R → List PyData → Prop) → Prop} (C : Cal X.prog X.w X.K X.mg X.base x k ps (spL X.K n Φ)) (hr : Room k X.A) (hn : n = (e :: es).length) (ha : DA X (e :: es) wr) (hg : Gl X x := by rfl) (hdb : (x == ("__debug__" : Str)) = false := by decide)
    (he : starEach (e :: es) X.env = (false, eval e X.env) :: starEach es X.env := by rfl) (hpl : (backTo pos (starEach es X.env)).any (·.1) = false := by rfl) : DE X (.Call (.Name x p) (e :: es) [] pos) (wCallL Φ wr) := by
  obtain ⟨f, fd, F, hm, hk, hb⟩ := C.ex
  exact de_callL F hr hm hk hb pass0 hn ha hg hdb he hpl

/-! ### by names -/
def DK (X : Cx) (kws : List Keyword) (w : DTA) : Prop := ∃ t, PK X kws t ∧ ∀ (G H : Hp) (As : List Addr) (σ : L2.St) (ρ : Rho) (κ : Kap) (P : List R → Kap → Prop) (Q : List V → Hp → Prop), Cells X.K G H As κ → Places X.K G As σ ρ → w ρ κ P →
  (∀ vs rs G' H' As' κ', Step G H As G' H' As' → Cells X.K G' H' As' κ' → Places X.K G' As' σ ρ → Paired (It X.K G' As') vs rs → rs.length = kws.length → P rs κ' → Q vs H') → t σ H Q
theorem dk_nil : DK X [] wNil := ⟨_, pk_nil, fun G H As σ ρ κ P Q c p w k => k [] [] G H As κ Step.refl c p .nil rfl w⟩
theorem dk_cons {wa : DTE} {kws : List Keyword} {nm : Option Str} {kpos : Pos} (ha : DE X e wa) (hr : DK X kws wr) : DK X (⟨nm, e, kpos⟩ :: kws) (wCons wa wr) := by
  obtain ⟨ta, pa, ha⟩ := ha
  obtain ⟨tr, pr, hr⟩ := hr
  refine ⟨_, pk_cons pa pr, fun G H As σ ρ κ P Q c p w k => ?_⟩
  refine ha G H As σ ρ κ _ _ c p w fun v1 r1 G1 H1 As1 κ1 s1 c1 p1 i1 w1 => ?_
  obtain ⟨G1', s1', c1', p1', i1', _⟩ := settle s1 c1 p1 i1
  refine hr G1' H1 As1 σ ρ κ1 _ _ c1' p1' w1 fun vs rs G2 H2 As2 κ2 s2 c2 p2 i2 l2 w2 => ?_
  exact k _ _ G2 H2 As2 κ2 (s1'.trans s2) c2 p2 (.cons (s2.it i1') i2) (congrArg (· + 1) l2) w2
def wCallK (Φ : List R → (R → Prop) → Prop) (q : List Nat) (wa wk : DTA) : DTE := fun ρ κ P => wa ρ κ fun rs κ1 => wk ρ κ1 fun ks κ2 => Opt (args κ2 (rs ++ ks)) fun z => Φ (pick q z.1) fun r => P r z.2
theorem args_len : ∀ {rs : List R} {κ κ' : Kap} {xs : List R}, args κ rs = some (xs, κ') → xs.length = rs.length
  | [], _, _, _, e => by cases e; rfl
  | r :: rs, κ, _, xs, e => by
    unfold args at e
    cases q : arg κ r with
    | none => rw [q] at e; cases e
    | some z =>
      obtain ⟨y, κ1⟩ := z
      rw [q] at e
      simp only at e
      cases q2 : args κ1 rs with
      | none => rw [q2] at e; cases e
      | some z2 =>
        obtain ⟨ys, κ2⟩ := z2
        rw [q2] at e
        cases e
        exact congrArg (· + 1) (args_len q2)
theorem kw_reads {Φ : List R → (R → Prop) → Prop} {q : List Nat} {t tk : TA} {wa wk : DTA} {n m l : Nat}
    (h : ∀ (G H : Hp) (As : List Addr) (σ : L2.St) (ρ : Rho) (κ : Kap) (P : List R → Kap → Prop) (Q : List V → Hp → Prop), Cells X.K G H As κ → Places X.K G As σ ρ → wa ρ κ P → (∀ vs rs G' H' As' κ', Step G H As G' H' As' → Cells X.K G' H' As' κ' → Places X.K G' As' σ ρ → Paired (It X.K G' As') vs rs → rs.length = n → P rs κ' → Q vs H') → t σ H Q)
    (hk : ∀ (G H : Hp) (As : List Addr) (σ : L2.St) (ρ : Rho) (κ : Kap) (P : List R → Kap → Prop) (Q : List V → Hp → Prop), Cells X.K G H As κ → Places X.K G As σ ρ → wk ρ κ P → (∀ vs rs G' H' As' κ', Step G H As G' H' As' → Cells X.K G' H' As' κ' → Places X.K G' As' σ ρ → Paired (It X.K G' As') vs rs → rs.length = m → P rs κ' → Q vs H') → tk σ H Q)
    (hq : ∀ {α : Type} (xs : List α), xs.length = n + m → (pick q xs).length = l)
    (G H : Hp) (As : List Addr) (σ : L2.St) (ρ : Rho) (κ : Kap) (P : R → Kap → Prop) (Q : VK) (E : XK) (c : Cells X.K G H As κ) (pl : Places X.K G As σ ρ) (w : wCallK Φ q wa wk ρ κ P)
    (kk : ∀ v r G' H' As' κ', Step G H As G' H' As' → Cells X.K G' H' As' κ' → Places X.K G' As' σ ρ → Rv X.K H G' H' As' v r → P r κ' → Q v H') : tCallN n m (spD X.K l Φ) (fun us ws => pick q (us ++ ws)) E t tk σ H Q := by
  refine h G H As σ ρ κ _ _ c pl w fun vs rs G1 H1 As1 κ1 s1 c1 p1 i1 l1 w1 => ?_
  refine hk G1 H1 As1 σ ρ κ1 _ _ c1 p1 w1 fun ws ks G2 H2 As2 κ2 s2 c2 p2 i2 l2 w2 => ?_
  obtain ⟨⟨xs, κ3⟩, ea, w3⟩ := w2.ex
  have e1 : vs.length = n := (Paired.length i1).trans l1
  have e2 : ws.length = m := (Paired.length i2).trans l2
  obtain ⟨G3, s3, c3, i3⟩ := args_ok c2 (Paired.app (Paired.mapP i1 fun _ _ z => s2.it z) i2) ea
  refine ⟨e1, e2, hq _ (by rw [List.length_append, e1, e2]), G3, _, _, c3.ext, Paired.pick i3 q, w3, fun v r G' H' hP hE s4 rv => ?_⟩
  have st0 : Step G H As G3 H2 As2 := (s1.trans s2).trans s3
  have st : Step G H As G' H' As2 := st0.trans s4.wide
  exact kk v r G' H' As2 κ3 st (c3.call s4 hE) (pl.step st) ((rv.wide c3).back st0) hP
/-- f(e, .., k = v, ..) -/
theorem de_callK {Φ : List R → (R → Prop) → Prop} {ks : List Str} {q : List Nat} {kws : List Keyword} {wk : DTA} {l : Nat} (C : CalK X.prog X.w X.K X.mg X.base x k ps n ks q (spD X.K l Φ)) (hr : Room k X.A) (hn : n = (e :: es).length) (hm : ks.length = kws.length) (ha : DA X (e :: es) wr) (hkw : DK X kws wk)
    (hq : ∀ {α : Type} (xs : List α), xs.length = n + ks.length → (pick q xs).length = l)
    (hall : (backToKw pos (keywordEach kws X.env)).all (·.1.isSome) = true := by rfl) (hks : (backToKw pos (keywordEach kws X.env)).filterMap (·.1) = ks := by rfl) (hg : Gl X x := by rfl) (hdb : (x == ("__debug__" : Str)) = false := by decide)
    (he : starEach (e :: es) X.env = (false, eval e X.env) :: starEach es X.env := by rfl) (hpl : ((backTo pos (starEach (e :: es) X.env)).any (·.1) || (backToKw pos (keywordEach kws X.env)).any (·.1.isNone)) = false := by rfl) :
    DE X (.Call (.Name x p) (e :: es) kws pos) (wCallK Φ q wr wk) := by
  obtain ⟨f, fd, F, hmg, hk, hb⟩ := C.ex
  obtain ⟨t, pt, h⟩ := ha
  obtain ⟨tk, ptk, hk2⟩ := hkw
  refine ⟨_, pe_callN F hr hg hmg hk hb pass0 pt ptk hall hks hdb he hpl, fun G H As σ ρ κ P Q c pl w kk => ?_⟩
  exact kw_reads (by rw [hn]; exact h) (by rw [hm]; exact hk2) hq G H As σ ρ κ P Q _ c pl w kk
/-- f(k = v, ..) -/
theorem pe_callN0 {CX : CXT} {f : Addr} {fd : FuncData} {sp : Sp} {E : XK} {kws : List Keyword} {tk : TA} {ks : List Str} {g : List Value → List Value → List Value} {gV : List V → List V → List V} (F : FnOk X.prog X.w X.K X.mg X.base CX k f fd ps sp) (hr : Room k X.A) (hg : Gl X x) (hm : X.mg x = some (.ref f)) (hk : PySem.W.keepIn X.K (.ref f) = true) (hb : KBn X.K fd ps 0 ks g gV) (hx : Passes CX X E)
    (hkw : PK X kws tk) (hall : (backToKw pos (keywordEach kws X.env)).all (·.1.isSome) = true) (hks : (backToKw pos (keywordEach kws X.env)).filterMap (·.1) = ks) (hdb : (x == ("__debug__" : Str)) = false)
    (hpl : ((backTo pos (starEach [] X.env)).any (·.1) || (backToKw pos (keywordEach kws X.env)).any (·.1.isNone)) = false) : PE X (.Call (.Name x p) [] kws pos) (tCallN 0 ks.length sp gV E tNil tk) := by
  refine ⟨fun pins s σ H Q I h => ?_⟩
  refine wpAny_Call_Name_kw (ld_glob I hg hm ?_ hdb)
  refine PySem.W.callWith_KW0 (h₀ := X.base) I.ok.mod.kin hk hall (thn (hkw.run pos pins s σ H _ I h) fun ws s2 ⟨zs, H2, I2, rz, l1, l2, q2⟩ => ⟨I2.kIn, ?_⟩) hpl
  rw [hks]
  exact run_fnN (us := []) F hr hb hx I2 .nil rz l1 l2 q2
theorem de_callK0 {Φ : List R → (R → Prop) → Prop} {ks : List Str} {q : List Nat} {kws : List Keyword} {wk : DTA} {l : Nat} (C : CalK X.prog X.w X.K X.mg X.base x k ps 0 ks q (spD X.K l Φ)) (hr : Room k X.A) (hm : ks.length = kws.length) (hkw : DK X kws wk)
    (hq : ∀ {α : Type} (xs : List α), xs.length = 0 + ks.length → (pick q xs).length = l)
    (hall : (backToKw pos (keywordEach kws X.env)).all (·.1.isSome) = true := by rfl) (hks : (backToKw pos (keywordEach kws X.env)).filterMap (·.1) = ks := by rfl) (hg : Gl X x := by rfl) (hdb : (x == ("__debug__" : Str)) = false := by decide)
    (hpl : ((backTo pos (starEach [] X.env)).any (·.1) || (backToKw pos (keywordEach kws X.env)).any (·.1.isNone)) = false := by rfl) :
    DE X (.Call (.Name x p) [] kws pos) (wCallK Φ q wNil wk) := by
  obtain ⟨f, fd, F, hmg, hk, hb⟩ := C.ex
  obtain ⟨tk, ptk, hk2⟩ := hkw
  refine ⟨_, pe_callN0 F hr hg hmg hk hb pass0 ptk hall hks hdb hpl, fun G H As σ ρ κ P Q c pl w kk => ?_⟩
  refine kw_reads (n := 0) (t := tNil) ?_ (by rw [hm]; exact hk2) hq G H As σ ρ κ P Q _ c pl w kk
  exact fun G H As σ ρ κ P Q c p w k => k [] [] G H As κ Step.refl c p .nil rfl w
/-! xs[::-1] -/
def wRevS (wa : DTE) : DTE := fun ρ κ P => wa ρ κ fun r κ1 => Opt (val κ1 r.st) fun y => match y with
  | .list xs => P (.f xs.reverse) κ1
  | _ => False
theorem de_revS {wa : DTE} {kk : Nat} {p1 p2 p3 : Pos} (ha : DE X e wa) : DE X (.Subscript e (.Slice none none (some (.UnaryOp .USub (.Constant (.int 1) kk p1) p2)) p3) pos) (wRevS wa) := by
  obtain ⟨t, pt, ha⟩ := ha
  refine ⟨_, pe_revL pt, fun G H As σ ρ κ P Q c p w k => ?_⟩
  refine ha G H As σ ρ κ _ _ c p w fun v r G1 H1 As1 κ1 s1 c1 p1 i1 w1 => ?_
  obtain ⟨G1', s1', c1', p1', i1', _⟩ := settle s1 c1 p1 i1
  obtain ⟨y, ey, w2⟩ := w1.ex
  cases y with
  | list xs =>
    obtain ⟨a, vs, rfl, h1, h2⟩ := i1'.vw c1' ey
    exact ⟨a, vs, rfl, sql_of h1, fun q hq => out_ok (P := P) s1' c1' p1' (.n xs.reverse) w2 k q _ hq h2.rev⟩
  | _ => exact w2.elim
end
end DL
/-! DLs: the readings opened one by one, for simp. -/
namespace DL
open PySem PySem.Spec PyProof.Rows L2
section
variable {E : DEnds} {ρ : Rho} {κ : Kap} {P : R → Kap → Prop} {wa wb we : DTE} {wr : DTA} {wt wu : DTT} {g : DTG} {a b : DTS}
@[simp] theorem st_d (x : PyData) : (R.d x).st = .d x := rfl
@[simp] theorem st_c (k : Nat) : (R.c k).st = .c k := rfl
@[simp] theorem st_f (xs : List PyData) : (R.f xs).st = .d (.list xs) := rfl
@[simp] theorem st_s (ns : List Int) : (R.s ns).st = .s ns := rfl
@[simp] theorem val_d (x : PyData) : val κ (.d x) = some x := rfl
@[simp] theorem val_f (xs : List PyData) : val κ (.f xs) = some (.list xs) := rfl
theorem val_c {k : Nat} {xs : List PyData} (h : κ[k]? = some (.l xs)) : val κ (.c k) = some (.list xs) := by unfold val; simp only [h]
@[simp] theorem val_c0 (xs : List PyData) (κ : Kap) : val (.l xs :: κ) (.c 0) = some (.list xs) := rfl
@[simp] theorem val_c1 (c : Cell) (xs : List PyData) (κ : Kap) : val (c :: .l xs :: κ) (.c 1) = some (.list xs) := rfl
@[simp] theorem dat_d (x : PyData) : dat κ (.d x) = some (x, κ) := rfl
@[simp] theorem dat_f (xs : List PyData) : dat κ (.f xs) = some (.list xs, κ) := rfl
@[simp] theorem arg_d (x : PyData) : arg κ (.d x) = some (.d x, κ) := rfl
@[simp] theorem arg_s (ns : List Int) : arg κ (.s ns) = some (.s ns, κ) := rfl
@[simp] theorem dats_nil : dats κ [] = some ([], κ) := rfl
@[simp] theorem dats_d (x : PyData) (rs : List R) : dats κ (.d x :: rs) = (match dats κ rs with
  | some (xs, κ1) => some (x :: xs, κ1)
  | none => none) := rfl
@[simp] theorem args_nil : args κ [] = some ([], κ) := rfl
@[simp] theorem args_d (x : PyData) (rs : List R) : args κ (.d x :: rs) = (match args κ rs with
  | some (xs, κ1) => some (.d x :: xs, κ1)
  | none => none) := rfl
@[simp] theorem args_s (ns : List Int) (rs : List R) : args κ (.s ns :: rs) = (match args κ rs with
  | some (xs, κ1) => some (.s ns :: xs, κ1)
  | none => none) := rfl
@[simp] theorem vals_nil : vals κ [] = some [] := rfl
@[simp] theorem vals_cons (r : R) (rs : List R) : vals κ (r :: rs) = (match val κ r, vals κ rs with
  | some x, some xs => some (x :: xs)
  | _, _ => none) := rfl
@[simp] theorem Opt_some {α : Type} (x : α) (k : α → Prop) : Opt (some x) k = k x := rfl
@[simp] theorem Opt_none {α : Type} (k : α → Prop) : Opt none k = False := rfl
@[simp] theorem s_var (i : Nat) : wVar i ρ κ P = (match ρ[i]? with
  | some (some r) => P r κ
  | _ => False) := rfl
@[simp] theorem s_c (x : PyData) : wC x ρ κ P = P (.d x) κ := rfl
@[simp] theorem s_bin (f : PyData → PyData → Option Out) : wBin f wa wb ρ κ P = wa ρ κ fun r1 κ1 => wb ρ κ1 fun r2 κ2 => Opt (val κ2 r1.st) fun x => Opt (val κ2 r2.st) fun y => Opt (f x y) fun o => P o.r κ2 := rfl
@[simp] theorem s_un (f : PyData → Option Out) : wUn f wa ρ κ P = wa ρ κ fun r1 κ1 => Opt (val κ1 r1.st) fun x => Opt (f x) fun o => P o.r κ1 := rfl
@[simp] theorem s_cb (f : List PyData → Option Out) : wCB f wr ρ κ P = wr ρ κ fun rs κ1 => Opt (vals κ1 rs) fun xs => Opt (f xs) fun o => P o.r κ1 := rfl
@[simp] theorem s_nil (P : List R → Kap → Prop) : wNil ρ κ P = P [] κ := rfl
@[simp] theorem s_cons (P : List R → Kap → Prop) : wCons wa wr ρ κ P = wa ρ κ fun r κ1 => wr ρ κ1 fun rs κ2 => P (r.st :: rs) κ2 := rfl
@[simp] theorem s_consM (m : Bool) (P : List R → Kap → Prop) : wConsM m wa wr ρ κ P = wa ρ κ fun r κ1 => wr ρ (sto m r κ1).2 fun rs κ2 => P ((sto m r κ1).1 :: rs) κ2 := rfl
@[simp] theorem s_tup : wTup wr ρ κ P = wr ρ κ fun rs κ1 => Opt (dats κ1 rs) fun q => q.1.length ≤ sizeLine ∧ P (.d (.tuple q.1)) q.2 := rfl
@[simp] theorem s_lst : wLst wr ρ κ P = wr ρ κ fun rs κ1 => Opt (dats κ1 rs) fun q => q.1.length ≤ sizeLine ∧ P (.f q.1) q.2 := rfl
@[simp] theorem s_call (Φ : List R → (R → Prop) → Prop) : wCall Φ wr ρ κ P = wr ρ κ fun rs κ1 => Opt (args κ1 rs) fun q => Φ q.1 fun r => P r q.2 := rfl
@[simp] theorem s_callL (Φ : List PyData → List R → (R → List PyData → Prop) → Prop) : wCallL Φ wr ρ κ P = wr ρ κ fun rs κ1 => Opt (lend κ1 rs) fun q => Φ q.2.1 q.2.2.1 fun r bs => P (r.lab q.1) (q.2.2.2.set q.1 (.l bs)) := rfl
@[simp] theorem s_callK (Φ : List R → (R → Prop) → Prop) (q : List Nat) (wk : DTA) : wCallK Φ q wr wk ρ κ P = wr ρ κ fun rs κ1 => wk ρ κ1 fun ks κ2 => Opt (args κ2 (rs ++ ks)) fun z => Φ (pick q z.1) fun r => P r z.2 := rfl
@[simp] theorem lab_d (k : Nat) (x : PyData) : (R.d x).lab k = .d x := rfl
@[simp] theorem lab_f (k : Nat) (x : List PyData) : (R.f x).lab k = .f x := rfl
@[simp] theorem lend_c (k : Nat) (rs : List R) : lend κ (.c k :: rs) = (match args κ rs with
  | some (xs, κ1) => match κ1[k]? with
    | some (.l bs) => some (k, bs, xs, κ1)
    | _ => none
  | none => none) := rfl
@[simp] theorem s_tru (P : Bool → Kap → Prop) : wTru wa ρ κ P = wa ρ κ fun r κ1 => Opt (val κ1 r.st) fun x => Opt (truth x) fun b => P b κ1 := rfl
@[simp] theorem s_B (P : Bool → Kap → Prop) : wB wa ρ κ P = wa ρ κ fun r κ1 => match r with
  | .d (.bool b) => P b κ1
  | _ => False := rfl
@[simp] theorem s_not (P : Bool → Kap → Prop) : wNot wt ρ κ P = wt ρ κ fun b κ1 => P (!b) κ1 := rfl
@[simp] theorem s_and (P : Bool → Kap → Prop) : wAnd wt wu ρ κ P = wt ρ κ fun b κ1 => if b = true then wu ρ κ1 P else P false κ1 := rfl
@[simp] theorem s_or (P : Bool → Kap → Prop) : wOr wt wu ρ κ P = wt ρ κ fun b κ1 => if b = true then P true κ1 else wu ρ κ1 P := rfl
@[simp] theorem s_andV : wAndV wa wb ρ κ P = wa ρ κ fun r κ1 => match r with
  | .d (.bool z) => if z = true then wb ρ κ1 P else P (.d (.bool false)) κ1
  | _ => False := rfl
@[simp] theorem s_orV : wOrV wa wb ρ κ P = wa ρ κ fun r κ1 => match r with
  | .d (.bool z) => if z = true then P (.d (.bool true)) κ1 else wb ρ κ1 P
  | _ => False := rfl
@[simp] theorem s_notV : wNotV wa ρ κ P = wa ρ κ fun r κ1 => match r with
  | .d (.bool z) => P (.d (.bool (!z))) κ1
  | _ => False := rfl
@[simp] theorem s_ifx : wIf wt wa wb ρ κ P = wt ρ κ fun z κ1 => if z = true then wa ρ κ1 P else wb ρ κ1 P := rfl
@[simp] theorem s_name (i : Nat) (r : R) (P : Rho → Kap → Prop) : wName i r ρ κ P = P (ρ.set i (some r)) κ := rfl
@[simp] theorem s_tupG (n : Nat) (gs : List PyData → Rho → Kap → (Rho → Kap → Prop) → Prop) (xs : List PyData) (P : Rho → Kap → Prop) : wTupG n gs (.d (.tuple xs)) ρ κ P = (xs.length = n ∧ gs xs ρ κ P) := rfl
@[simp] theorem s_gcons (gs : List PyData → Rho → Kap → (Rho → Kap → Prop) → Prop) (x : PyData) (xs : List PyData) (P : Rho → Kap → Prop) : wgCons g gs (x :: xs) ρ κ P = g (.d x) ρ κ fun ρ1 κ1 => gs xs ρ1 κ1 P := rfl
@[simp] theorem s_gnil (P : Rho → Kap → Prop) : wgNil [] ρ κ P = P ρ κ := rfl
@[simp] theorem s_star (n i : Nat) (gs : List PyData → Rho → Kap → (Rho → Kap → Prop) → Prop) (xs : List PyData) (P : Rho → Kap → Prop) : wStar n i gs (.d (.tuple xs)) ρ κ P = (i < n ∧ n ≤ xs.length + 1 ∧ xs.length ≤ 16384 ∧ gs (xs.take i ++ [.list ((xs.drop i).take (xs.length + 1 - n))] ++ (xs.drop i).drop (xs.length + 1 - n)) ρ κ P) := rfl
@[simp] theorem s_next : wNext E ρ κ = E.nx ρ κ := rfl
@[simp] theorem s_seq : wSeq a b E ρ κ = a { E with nx := b E } ρ κ := rfl
@[simp] theorem s_asg : wAsg we g E ρ κ = we ρ κ fun r κ1 => g r.st ρ κ1 E.nx := rfl
@[simp] theorem s_set (m : Bool) (i : Nat) : wSet m i we E ρ κ = we ρ κ fun r κ1 => E.nx (ρ.set i (some (sto m r κ1).1)) (sto m r κ1).2 := rfl
@[simp] theorem sto_t (xs : List PyData) : sto true (.f xs) κ = (.c κ.length, κ ++ [.l xs]) := rfl
@[simp] theorem sto_f (r : R) : sto false r κ = (r.st, κ) := by cases r <;> rfl
@[simp] theorem sto_d (m : Bool) (x : PyData) : sto m (.d x) κ = (.d x, κ) := by cases m <;> rfl
@[simp] theorem sto_c (m : Bool) (k : Nat) : sto m (.c k) κ = (.c k, κ) := by cases m <;> rfl
@[simp] theorem s_par (i j : Nat) : wPar i j wr E ρ κ = wr ρ κ fun rs κ1 => match rs with
  | [r, q] => E.nx ((ρ.set i (some r)).set j (some q)) κ1
  | _ => False := rfl
@[simp] theorem s_drop : wDrop we E ρ κ = we ρ κ fun _ κ1 => E.nx ρ κ1 := rfl
@[simp] theorem s_ret : wRet we E ρ κ = we ρ κ E.rt := rfl
@[simp] theorem s_retN : wRetN E ρ κ = E.rt (.d .none) κ := rfl
@[simp] theorem s_if : wIfS wt a b E ρ κ = wt ρ κ fun z κ1 => if z = true then a E ρ κ1 else b E ρ κ1 := rfl
@[simp] theorem s_brk : wBrk E ρ κ = E.bk ρ κ := rfl
@[simp] theorem s_cnt : wCnt E ρ κ = E.ct ρ κ := rfl
@[simp] theorem s_for (wi : DTI) : wFor wi g b E ρ κ = wi ρ κ fun xs ok κ1 => forL ok g b E xs ρ κ1 := rfl
@[simp] theorem s_lc (wi : DTI) (vs : List Nat) : wLc wi g wt we vs ρ κ P = wi ρ κ fun xs ok κ1 => lcL ok g wt we (wipeR ρ vs) P xs [] κ1 := rfl
@[simp] theorem s_yes (P : Bool → Kap → Prop) : wYes ρ κ P = P true κ := rfl
@[simp] theorem s_sq (P : List PyData → (Kap → Prop) → Kap → Prop) : wSq we ρ κ P = we ρ κ fun r κ1 => Opt (val κ1 r.st) fun x => match x with
  | .list xs => P xs (fun κ' => val κ' r.st = some (.list xs)) κ1
  | .tuple xs => P xs (fun κ' => val κ' r.st = some (.tuple xs)) κ1
  | .str z => P (z.cps.toList.map fun c => .str ⟨#[c]⟩) (fun _ => True) κ1
  | _ => False := rfl
@[simp] theorem s_rng1 (P : List PyData → (Kap → Prop) → Kap → Prop) : wRng1 wr ρ κ P = wr ρ κ fun rs κ1 => match rs with
  | [.d (.int n)] => -(2 ^ 62) ≤ n ∧ n < 2 ^ 62 ∧ P ((List.range n.toNat).map fun (i : Nat) => .int (0 + (i : Int))) (fun _ => True) κ1
  | _ => False := rfl
@[simp] theorem s_rev (P : List PyData → (Kap → Prop) → Kap → Prop) : wRev wr ρ κ P = wr ρ κ fun rs κ1 => match rs with
  | [r] => Opt (val κ1 r) fun x => match x with
    | .list xs => P xs.reverse (fun κ' => val κ' r = some (.list xs)) κ1
    | _ => False
  | _ => False := rfl
@[simp] theorem s_enum (P : List PyData → (Kap → Prop) → Kap → Prop) : wEnum wr ρ κ P = wr ρ κ fun rs κ1 => match rs with
  | [r] => Opt (val κ1 r) fun x => match x with
    | .list xs => P (enumD 0 xs) (fun κ' => val κ' r = some (.list xs)) κ1
    | _ => False
  | _ => False := rfl
@[simp] theorem s_zip (P : List PyData → (Kap → Prop) → Kap → Prop) : wZip wr ρ κ P = wr ρ κ fun rs κ1 => match rs with
  | [r, q] => Opt (val κ1 r) fun x => Opt (val κ1 q) fun y => match x, y with
    | .list xs, .list ys => P (zipD xs ys) (fun κ' => val κ' r = some (.list xs) ∧ val κ' q = some (.list ys)) κ1
    | .tuple xs, .tuple ys => P (zipD xs ys) (fun κ' => val κ' r = some (.tuple xs) ∧ val κ' q = some (.tuple ys)) κ1
    | _, _ => False
  | _ => False := rfl
@[simp] theorem forL_nil (ok : Kap → Prop) : forL ok g b E [] ρ κ = E.nx ρ κ := rfl
@[simp] theorem forL_cons (ok : Kap → Prop) (x : PyData) (xs : List PyData) : forL ok g b E (x :: xs) ρ κ = g (.d x) ρ κ fun ρ1 κ1 => b { nx := fun ρ2 κ2 => ok κ2 ∧ forL ok g b E xs ρ2 κ2, rt := E.rt, bk := E.nx, ct := fun ρ2 κ2 => ok κ2 ∧ forL ok g b E xs ρ2 κ2 } ρ1 κ1 := rfl
@[simp] theorem lcL_nil (ok : Kap → Prop) (acc : List PyData) : lcL ok g wt we ρ P [] acc κ = P (.f acc) κ := rfl
@[simp] theorem lcL_cons (ok : Kap → Prop) (x : PyData) (xs acc : List PyData) : lcL ok g wt we ρ P (x :: xs) acc κ = g (.d x) ρ κ fun ρ1 κ1 => wt ρ1 κ1 fun b κ2 => if b = true then we ρ1 κ2 fun r κ3 => Opt (dat κ3 r.st) fun q => acc.length < sizeLine ∧ ok q.2 ∧ lcL ok g wt we ρ P xs (acc ++ [q.1]) q.2 else ok κ2 ∧ lcL ok g wt we ρ P xs acc κ2 := rfl
@[simp] theorem wipeR_nil : wipeR ρ [] = ρ := rfl
@[simp] theorem wipeR_cons (v : Nat) (vs : List Nat) : wipeR ρ (v :: vs) = (wipeR ρ vs).set v none := rfl
@[simp] theorem s_append : wAppend wa wb ρ κ P = wa ρ κ fun ro κ1 => (match ro with
  | .c k => (∃ zs, κ1[k]? = some (.l zs)) ∧ wb ρ κ1 fun r κ2 => Opt (dat κ2 r.st) fun q => match q.2[k]? with
    | some (.l xs) => xs.length < sizeLine ∧ P (.d .none) (q.2.set k (.l (xs ++ [q.1])))
    | _ => False
  | _ => False) := rfl
@[simp] theorem s_sub (r : R) (P : Rho → Kap → Prop) : wSub wa wb r ρ κ P = Opt (dat κ r) fun q => wa ρ q.2 fun ro κ1 => match ro with
  | .c k => wb ρ κ1 fun ri κ2 => match ri, κ2[k]? with
    | .d (.int i), some (.l xs) => Opt (ixN xs.length i) fun j => P ρ (κ2.set k (.l (xs.set j q.1)))
    | _, _ => False
  | _ => False := rfl
@[simp] theorem out_v (x : PyData) : (Out.v x).r = .d x := rfl
@[simp] theorem out_n (xs : List PyData) : (Out.n xs).r = .f xs := rfl
@[simp] theorem out_t (xs : List PyData) : (Out.t xs).r = .d (.tuple xs) := rfl
@[simp] theorem outR_d (n : Nat) (x : PyData) : outR κ n (.d x) = some (.d x) := rfl
@[simp] theorem outR_f (n : Nat) (x : List PyData) : outR κ n (.f x) = some (.f x) := rfl
@[simp] theorem endL_d (bs : List PyData) (κ : Kap) (x : PyData) (Pd : R → List PyData → Prop) : endL (.l bs :: κ) (.d x) Pd = Pd (.d x) bs := rfl
@[simp] theorem endL_f (bs : List PyData) (κ : Kap) (x : List PyData) (Pd : R → List PyData → Prop) : endL (.l bs :: κ) (.f x) Pd = Pd (.f x) bs := rfl
@[simp] theorem s_isi (T : Ty) : wIsi T wa ρ κ P = wa ρ κ fun r κ1 => Opt (val κ1 r.st) fun x => P (.d (.bool (isi x T))) κ1 := rfl
@[simp] theorem s_isi2 (T U : Ty) : wIsi2 T U wa ρ κ P = wa ρ κ fun r κ1 => Opt (val κ1 r.st) fun x => P (.d (.bool (isi x T || isi x U))) κ1 := rfl
@[simp] theorem s_bm (T : String) (f : PyData → List PyData → Option Out) : wBM T f wa wr ρ κ P = wa ρ κ fun r κ1 => Opt (val κ1 r.st) fun x0 => tyOk T x0 ∧ wr ρ κ1 fun rs κ2 => Opt (val κ2 r.st) fun x => Opt (vals κ2 rs) fun xs => Opt (f x xs) fun o => P o.r κ2 := rfl
@[simp] theorem s_scr : wScr wa wb ρ κ P = wa ρ κ fun r κ1 => match r with
  | .s ns => wb ρ κ1 fun q κ2 => match q with
    | .d (.int i) => Opt (atI ns i) fun n => P (.d (.int n)) κ2
    | _ => False
  | _ => False := rfl
@[simp] theorem s_lenS : wLenS wa ρ κ P = wa ρ κ fun r κ1 => match r with
  | .s ns => P (.d (.int ns.length)) κ1
  | _ => False := rfl
@[simp] theorem s_sl (wl wh : DTO) : wSl we wl wh ρ κ P = we ρ κ fun r κ1 => wl ρ κ1 fun lo κ2 => wh ρ κ2 fun hi κ3 => Opt (val κ3 r.st) fun x => Opt (slD x lo hi) fun o => P o.r κ3 := rfl
@[simp] theorem s_noP (P : Option Int → Kap → Prop) : wNoP ρ κ P = P none κ := rfl
@[simp] theorem s_P (P : Option Int → Kap → Prop) : wP we ρ κ P = we ρ κ fun r κ1 => match r with
  | .d (.int i) => P (some i) κ1
  | _ => False := rfl
@[simp] theorem s_revS : wRevS wa ρ κ P = wa ρ κ fun r κ1 => Opt (val κ1 r.st) fun y => match y with
  | .list xs => P (.f xs.reverse) κ1
  | _ => False := rfl
@[simp] theorem s_aug (i : Nat) (f : Int → Int → Int) : wAug i f we E ρ κ = (match ρ[i]? with
  | some (some (.d (.int a))) => we ρ κ fun r κ1 => match r with
    | .d (.int b) => E.nx (ρ.set i (some (.d (.int (f a b))))) κ1
    | _ => False
  | _ => False) := rfl
/-! values -/
@[simp] theorem addD_int (i j : Int) : addD (.int i) (.int j) = some (.v (.int (i + j))) := rfl
theorem addD_list {xs ys : List PyData} (h : xs.length + ys.length ≤ sizeLine) : addD (.list xs) (.list ys) = some (.n (xs ++ ys)) := if_pos h
theorem addD_tuple {xs ys : List PyData} (h : xs.length + ys.length ≤ sizeLine) : addD (.tuple xs) (.tuple ys) = some (.t (xs ++ ys)) := if_pos h
theorem addD_str {x y : Str} (h : x.length + y.length ≤ sizeLine) : addD (.str x) (.str y) = some (.v (.str (x ++ y))) := if_pos h
@[simp] theorem subD_int (i j : Int) : subD (.int i) (.int j) = some (.v (.int (i - j))) := rfl
theorem modD_int {i j : Int} (h : 0 < j) : modD (.int i) (.int j) = some (.v (.int (i % j))) := by
  unfold modD intD
  simp only [if_pos h]
  rfl
theorem fdivD_int {i j : Int} (h : 0 < j) (h2 : j < 1073741824) : fdivD (.int i) (.int j) = some (.v (.int (i / j))) := by
  unfold fdivD intD
  simp only [if_pos (And.intro h h2)]
  rfl
theorem powD_int {i j : Int} (h : 0 ≤ j) (h2 : j ≤ 1000000) (h3 : i.natAbs < 2 ^ 64) : powD (.int i) (.int j) = some (.v (.int (i ^ j.toNat))) := by
  unfold powD intD
  simp only [if_pos (And.intro h (And.intro h2 h3))]
  rfl
theorem mulD_int {i j : Int} (h : CMul i j) : mulD (.int i) (.int j) = some (.v (.int (i * j))) := by
  unfold mulD
  simp only [if_pos h]
@[simp] theorem negD_int (i : Int) : negD (.int i) = some (.v (.int (-i))) := rfl
@[simp] theorem ordD_int (fi : Int → Int → Bool) (fs : List Nat → List Nat → Bool) (i j : Int) : ordD fi fs (.int i) (.int j) = some (.v (.bool (fi i j))) := rfl
@[simp] theorem ciD_int (f : Int → Int → Bool) (i j : Int) : ciD f (.int i) (.int j) = some (.v (.bool (f i j))) := rfl
theorem eqD_of {neg : Bool} {x y : PyData} (hx : SeqAt.shaped x = true) (hy : SeqAt.shaped y = true) : eqD neg x y = some (.v (.bool (if neg then !PyData.eqv x y else PyData.eqv x y))) := if_pos ⟨hx, hy⟩
theorem ixD_list {xs : List PyData} {i : Int} {x : PyData} (h : atI xs i = some x) : ixD (.list xs) (.int i) = some (.v x) := by unfold ixD; simp only [h]; rfl
theorem ixD_tuple {xs : List PyData} {i : Int} {x : PyData} (h : atI xs i = some x) : ixD (.tuple xs) (.int i) = some (.v x) := by unfold ixD; simp only [h]; rfl
@[simp] theorem lenD_list (xs : List PyData) : lenD [.list xs] = some (.v (.int xs.length)) := rfl
@[simp] theorem lenD_tuple (xs : List PyData) : lenD [.tuple xs] = some (.v (.int xs.length)) := rfl
@[simp] theorem absD_int (i : Int) : absD [.int i] = some (.v (.int (if i < 0 then -i else i))) := rfl
@[simp] theorem intC_int (i : Int) : intC [.int i] = some (.v (.int i)) := rfl
@[simp] theorem intC_bool (b : Bool) : intC [.bool b] = some (.v (.int (if b then 1 else 0))) := rfl
@[simp] theorem max2D_int (i j : Int) : max2D [.int i, .int j] = some (.v (.int (if j > i then j else i))) := rfl
@[simp] theorem min2D_int (i j : Int) : min2D [.int i, .int j] = some (.v (.int (if j < i then j else i))) := rfl
@[simp] theorem listC_list (xs : List PyData) : listC [.list xs] = some (.n xs) := rfl
@[simp] theorem listC_tuple (xs : List PyData) : listC [.tuple xs] = some (.n xs) := rfl
@[simp] theorem tupC_list (xs : List PyData) : tupC [.list xs] = some (.t xs) := rfl
@[simp] theorem tupC_tuple (xs : List PyData) : tupC [.tuple xs] = some (.t xs) := rfl
@[simp] theorem slD_list (xs : List PyData) (lo hi : Option Int) : slD (.list xs) lo hi = some (.n (cut xs lo hi)) := rfl
@[simp] theorem slD_tuple (xs : List PyData) (lo hi : Option Int) : slD (.tuple xs) lo hi = some (.t (cut xs lo hi)) := rfl
theorem slD_str {z : Str} (lo hi : Option Int) (h : z.length ≤ sizeLine) : slD (.str z) lo hi = some (.v (.str (cutS z lo hi))) := if_pos h
theorem sortC_list {xs : List PyData} (h : SortOk xs) : sortC [.list xs] = some (.n (xs.mergeSort dLe)) := by
  unfold sortC
  simp only [if_pos h]
end
end DL
/-! DLw: the law's head, from its promise over plain data. -/
namespace DL
open PySem PySem.Spec PyProof.Rows L2
theorem walkD {l : PySem.W.OpenLaw} {n k : Nat} {q : Program} {loose : List Str} {XP : (Str → Option Value) → Heap → Prop} {YP : World → Heap → Prop} {d : DefRec} {K : Params → PySem.W.Frag} {x : Str} {Φ : List R → (R → Prop) → Prop}
    (hn : l.most = some n) (hn2 : n ≤ sizeLine) (hdf : d.params.defaults = []) (hr : Room k callerA)
    (hY : ∀ (w : World) (h : Heap), YP w h → (K w.params).In h)
    (F : ∀ (w : World) (mg : Str → Option Value) (fa : Addr) (h : Heap), (K w.params).In h → h.Ns mainGlobals mg → mg d.name = some (.ref fa) →
      ∃ fd : FuncData, (∀ (s : Shared) (u : Value), BindsTo s fd ⟨[u], []⟩ [(x, u)]) ∧ ∀ base : Heap, (K w.params).In base → base.Ns mainGlobals mg → FnOk l.prog w (K w.params) mg base CX0 k fa fd [x] (spD (K w.params) 1 Φ))
    (hΦ : ∀ ns : List Int, ns.length ≤ n → Φ [.s ns] fun r => r = .d (.bool true)) :
    PySem.W.WalkO q loose XP YP l.row.toRowW d [] (fun f vs => PySem.call f vs) :=
  L2.walk_of (CX := fun _ => CX0) (sp := fun w => spD (K w.params) 1 Φ) hn hn2 hdf hr hY F (fun w H a ns hl _ hS => ⟨rfl, H, [.s ns], fun r => r = .d (.bool true), Ex.refl H, .cons ⟨a, rfl, hS⟩ .nil, hΦ ns hl, fun v r G' H' e _ _ rv => by
    subst e
    have rv : Rp (K w.params) G' v (.bool true) := rv
    cases rv
    rfl⟩) fun _ _ _ _ _ z => z
end DL
/-! SHa: hooks and rows as data, draws, names: what many laws share. -/
namespace SH
open PySem PySem.Spec PyProof.Rows L2 DL

/-! ### comprehensions over a list whose turns change nothing -/
theorem lc_map {α : Type} {ok : Kap → Prop} {g : DTG} {we : DTE} {ρw : Rho} {P : R → Kap → Prop} {κ : Kap} (f e : α → PyData) (hok : ok κ) : ∀ (xs : List α) (acc : List PyData), acc.length + xs.length ≤ sizeLine →
    (∀ x ∈ xs, ∀ C : R → Kap → Prop, C (.d (e x)) κ → g (.d (f x)) ρw κ fun ρ1 κ1 => we ρ1 κ1 C) → P (.f (acc ++ xs.map e)) κ → lcL ok g wYes we ρw P (xs.map f) acc κ
  | [], acc, _, _, hp => by simpa using hp
  | x :: xs, acc, hl, h, hp => by
    rw [List.map_cons, lcL_cons]
    refine h x (List.mem_cons_self ..) _ ?_
    simp only [List.length_cons] at hl
    refine ⟨by omega, hok, lc_map f e hok xs _ (by rw [List.length_append, List.length_singleton]; omega) (fun y hy => h y (List.mem_cons_of_mem _ hy)) ?_⟩
    rw [List.append_assoc]
    exact hp
theorem lc_filter {α : Type} {ok : Kap → Prop} {g : DTG} {wt : DTT} {we : DTE} {ρw : Rho} {P : R → Kap → Prop} {κ : Kap} (f : α → PyData) (p : α → Bool) (e : α → PyData) (hok : ok κ) : ∀ (xs : List α) (acc : List PyData), acc.length + xs.length ≤ sizeLine →
    (∀ x ∈ xs, ∀ C : Bool → Rho → Kap → Prop, (∀ ρ1, (p x = true → ∀ D : R → Kap → Prop, D (.d (e x)) κ → we ρ1 κ D) → C (p x) ρ1 κ) → g (.d (f x)) ρw κ fun ρ1 κ1 => wt ρ1 κ1 fun b κ2 => C b ρ1 κ2) →
    P (.f (acc ++ (xs.filter p).map e)) κ → lcL ok g wt we ρw P (xs.map f) acc κ
  | [], acc, _, _, hp => by simpa using hp
  | x :: xs, acc, hl, h, hp => by
    rw [List.map_cons, lcL_cons]
    simp only [List.length_cons] at hl
    refine h x (List.mem_cons_self ..) (fun b ρ1 κ2 => if b = true then we ρ1 κ2 fun r κ3 => Opt (dat κ3 r.st) fun q => acc.length < sizeLine ∧ ok q.2 ∧ lcL ok g wt we ρw P (xs.map f) (acc ++ [q.1]) q.2 else ok κ2 ∧ lcL ok g wt we ρw P (xs.map f) acc κ2) fun ρ1 hw => ?_
    by_cases hb : p x = true
    · rw [if_pos hb]
      refine hw hb _ ⟨by omega, hok, lc_filter f p e hok xs _ (by rw [List.length_append, List.length_singleton]; omega) (fun y hy => h y (List.mem_cons_of_mem _ hy)) ?_⟩
      rw [List.filter_cons_of_pos hb] at hp
      rw [List.append_assoc]
      exact hp
    · rw [if_neg hb]
      refine ⟨hok, lc_filter f p e hok xs acc (by omega) (fun y hy => h y (List.mem_cons_of_mem _ hy)) ?_⟩
      rw [List.filter_cons_of_neg hb] at hp
      exact hp

/-! ### hooks and rows -/
abbrev Hook := Str × Str × Int
abbrev Row := List Hook
def hookD (h : Hook) : PyData := .tuple [.str h.1, .str h.2.1, .int h.2.2]
def turned (h : Hook) : Hook := (h.1, h.2.1, -h.2.2)
def back (r : Row) : Row := r.reverse.map turned
theorem back_len (r : Row) : (back r).length = r.length := by unfold back; rw [List.length_map, List.length_reverse]
def Ph_turned (rs : List R) (P : R → Prop) : Prop := ∃ h : Hook, rs = [.d (hookD h)] ∧ P (.d (hookD (turned h)))
def Ph_back (rs : List R) (P : R → Prop) : Prop := ∃ r : Row, rs = [.d (.list (r.map hookD))] ∧ r.length ≤ sizeLine ∧ P (.f ((back r).map hookD))
abbrev Ph_law_back := Ph_back

/-! ### what is drawn from -/
def Box (N : Int) (bs : List PyData) : Prop := ∃ x c n : Int, bs = [.int x, .int c, .int n] ∧ 0 ≤ x ∧ 0 ≤ c ∧ c ≤ 2 ^ 40 ∧ 0 ≤ n ∧ n ≤ N
theorem Box.mono {N M : Int} {bs : List PyData} (h : Box N bs) (l : N ≤ M) : Box M bs := by
  obtain ⟨x, c, n, e, h1, h2, h3, h4, h5⟩ := h
  exact ⟨x, c, n, e, h1, h2, h3, h4, by omega⟩
def Ph_law_take (bs : List PyData) (rs : List R) (P : R → List PyData → Prop) : Prop := ∃ N b : Int, Box N bs ∧ N < 2 ^ 40 ∧ rs = [.d (.int b)] ∧ 0 < b ∧ b < 2 ^ 30 ∧ ∀ (r : Int) (bs' : List PyData), 0 ≤ r → r < b → Box (N + 1) bs' → P (.d (.int r)) bs'
def Ph_law_box (rs : List R) (P : R → Prop) : Prop := ∃ (ns : List Int) (k : Int), rs = [.s ns, .d (.int k)] ∧ 0 ≤ k ∧ k ≤ 1000 ∧ ∀ bs, Box 0 bs → P (.f bs)
end SH
namespace SH
open PySem PySem.Spec PyProof.Rows L2 DL
/-- turned -/
def w_turned : DTS := (wSeq (wAsg (wVar 0) (wTupG 3 (wgCons (wName 1) (wgCons (wName 2) (wgCons (wName 3) wgNil)))))
  (wRet (wTup (wCons (wVar 1) (wCons (wVar 2) (wCons (wUn negD (wVar 3)) wNil))))))
theorem r_turned (rs : List R) (Pd : R → Prop) (h : Ph_turned rs Pd) (hl : rs.length = 1) : w_turned { nx := fun _ _ => Pd (.d .none), rt := fun r κ => Opt (outR κ 0 r) Pd } (rs.map some ++ List.replicate 3 none) [] := by
  obtain ⟨h, rfl, k⟩ := h
  simp [w_turned, hookD, sizeLine_eq]
  exact k
/-- back -/
def w_back : DTS := (wRet (wLc (wRev (wCons (wVar 0) wNil)) (wName 1) wYes (wCall Ph_turned (wCons (wVar 1) wNil)) [1]))
theorem r_back (rs : List R) (Pd : R → Prop) (h : Ph_back rs Pd) (hl : rs.length = 1) : w_back { nx := fun _ _ => Pd (.d .none), rt := fun r κ => Opt (outR κ 0 r) Pd } (rs.map some ++ List.replicate 1 none) [] := by
  obtain ⟨r, rfl, hr, k⟩ := h
  simp [w_back]
  rw [← List.map_reverse]
  refine lc_map hookD (fun h => hookD (turned h)) (by simp) r.reverse [] (by simpa using hr) (fun h _ C hC => ?_) ?_
  · simp
    exact ⟨h, rfl, hC⟩
  · have e : (back r).map hookD = r.reverse.map (fun h => hookD (turned h)) := by
      unfold back; rw [List.map_map]; rfl
    rw [e] at k
    simpa only [outR_f, Opt_some, List.nil_append] using k
/-- _law_take -/
def w_law_take : DTS := (wSeq (wIfS (wB (wBin (ciD gtI) (wBin ixD (wVar 0) (wC (.int 0))) (wC (.int 0)))) (wSeq (wSet false 2 (wBin modD (wBin ixD (wVar 0) (wC (.int 0))) (wVar 1)))
  (wSeq (wAsg (wBin fdivD (wBin ixD (wVar 0) (wC (.int 0))) (wVar 1)) (wSub (wVar 0) (wC (.int 0))))
  (wRet (wVar 2)))) wNext)
  (wSeq (wAsg (wBin addD (wBin ixD (wVar 0) (wC (.int 2))) (wC (.int 1))) (wSub (wVar 0) (wC (.int 2))))
  (wSeq (wSet false 3 (wBin modD (wBin powD (wBin addD (wBin ixD (wVar 0) (wC (.int 1))) (wBin mulD (wC (.int 39373)) (wBin ixD (wVar 0) (wC (.int 2))))) (wC (.int 5))) (wC (.int 2147483647))))
  (wRet (wBin modD (wBin fdivD (wBin modD (wBin addD (wBin mulD (wVar 3) (wBin addD (wBin modD (wVar 3) (wC (.int 40009))) (wC (.int 7)))) (wBin mulD (wBin ixD (wVar 0) (wC (.int 2))) (wC (.int 7919)))) (wC (.int 2147483629))) (wC (.int 64))) (wVar 1))))))
theorem ix3_0 (a b c : PyData) : ixD (.list [a, b, c]) (.int 0) = some (.v a) := rfl
theorem ix3_1 (a b c : PyData) : ixD (.list [a, b, c]) (.int 1) = some (.v b) := rfl
theorem ix3_2 (a b c : PyData) : ixD (.list [a, b, c]) (.int 2) = some (.v c) := rfl
theorem ixN3_0 : ixN 3 0 = some 0 := rfl
theorem ixN3_2 : ixN 3 2 = some 2 := rfl
theorem r_law_take (bs : List PyData) (rs : List R) (Pd : R → List PyData → Prop) (h : Ph_law_take bs rs Pd) (hl : rs.length = 1) : w_law_take { nx := fun _ κ => endL κ (.d .none) Pd, rt := fun r κ => endL κ r Pd } (some (.c 0) :: (rs.map some ++ List.replicate 2 none)) [.l bs] := by
  obtain ⟨N, b, ⟨x, c, n, rfl, hx, hc, hc2, hn, hn2⟩, hN, rfl, hb, hb2, k⟩ := h
  have hp : (c + 39373 * (n + 1)).natAbs < 2 ^ 64 := by omega
  have hm : ∀ q : Int, 0 ≤ q % 2147483647 ∧ q % 2147483647 < 2147483647 := fun q => ⟨Int.emod_nonneg _ (by decide), Int.emod_lt_of_pos _ (by decide)⟩
  simp [w_law_take, ix3_0, ix3_1, ix3_2, ixN3_0, ixN3_2, gtI]
  by_cases h0 : 0 < x
  · rw [if_pos h0]
    rw [modD_int hb, Opt_some]
    simp [fdivD_int hb (by omega), ix3_0, ixN3_0]
    refine k _ _ (Int.emod_nonneg _ (by omega)) (Int.emod_lt_of_pos _ hb) ⟨_, c, n, rfl, Int.ediv_nonneg hx (by omega), hc, hc2, hn, by omega⟩
  · rw [if_neg h0]
    rw [mulD_int (.inl (by decide)), Opt_some]
    simp only [out_v, addD_int, Opt_some, st_d, val_d]
    rw [powD_int (by decide) (by decide) hp, Opt_some]
    simp only [out_v, Opt_some, st_d, val_d]
    rw [modD_int (by decide), Opt_some]
    obtain ⟨q1, q2⟩ := hm ((c + 39373 * (n + 1)) ^ (5 : Int).toNat)
    generalize (c + 39373 * (n + 1)) ^ (5 : Int).toNat % 2147483647 = o at q1 q2
    simp only [out_v, Opt_some, st_d, val_d, List.set_cons_succ, List.set_cons_zero, List.getElem?_cons_succ, List.getElem?_cons_zero]
    rw [modD_int (by decide), Opt_some]
    simp only [out_v, addD_int, Opt_some, st_d, val_d]
    rw [mulD_int (.inl (by omega)), Opt_some, mulD_int (.inl (by omega)), Opt_some]
    simp only [out_v, addD_int, Opt_some, st_d, val_d]
    rw [modD_int (by decide), Opt_some]
    simp only [out_v, Opt_some, st_d, val_d]
    rw [fdivD_int (by decide) (by decide), Opt_some]
    simp only [out_v, Opt_some, st_d, val_d]
    rw [modD_int hb, Opt_some]
    simp only [out_v, endL_d]
    exact k _ _ (Int.emod_nonneg _ (by omega)) (Int.emod_lt_of_pos _ hb) ⟨x, c, n + 1, rfl, hx, hc, hc2, by omega, by omega⟩
/-- _law_box -/
def w_law_box : DTS := (wSeq (wSet false 2 (wC (.int 0)))
  (wSeq (wIfS (wB (wBin (ordD ltI ltS) (wVar 1) (wLenS (wVar 0)))) (wSet false 2 (wScr (wVar 0) (wVar 1))) wNext)
  (wRet (wLst (wCons (wBin mulD (wCB absD (wCons (wVar 2) wNil)) (wCB intC (wCons (wBin (ciD geI) (wCB absD (wCons (wVar 2) wNil)) (wBin powD (wC (.int 10)) (wC (.int 18)))) wNil))) (wCons (wBin addD (wBin addD (wBin modD (wVar 2) (wC (.int 2147483629))) (wBin mulD (wC (.int 7919)) (wVar 1))) (wC (.int 11))) (wCons (wC (.int 0)) wNil)))))))
theorem r_law_box (rs : List R) (Pd : R → Prop) (h : Ph_law_box rs Pd) (hl : rs.length = 2) : w_law_box { nx := fun _ _ => Pd (.d .none), rt := fun r κ => Opt (outR κ 0 r) Pd } (rs.map some ++ List.replicate 1 none) [] := by
  obtain ⟨ns, k, rfl, h0, h1, q⟩ := h
  have fin : ∀ z : Int, wRet (wLst (wCons (wBin mulD (wCB absD (wCons (wVar 2) wNil)) (wCB intC (wCons (wBin (ciD geI) (wCB absD (wCons (wVar 2) wNil)) (wBin powD (wC (.int 10)) (wC (.int 18)))) wNil))) (wCons (wBin addD (wBin addD (wBin modD (wVar 2) (wC (.int 2147483629))) (wBin mulD (wC (.int 7919)) (wVar 1))) (wC (.int 11))) (wCons (wC (.int 0)) wNil)))) { nx := fun _ _ => Pd (.d .none), rt := fun r κ => Opt (outR κ 0 r) Pd } [some (.s ns), some (.d (.int k)), some (.d (.int z))] [] := fun z => by
    simp [geI, powD_int (i := 10) (j := 18) (by decide) (by decide) (by decide)]
    rw [mulD_int (.inr (by constructor <;> (repeat' split) <;> decide)), Opt_some]
    simp
    rw [modD_int (by decide), Opt_some, mulD_int (.inl (by decide)), Opt_some]
    simp [sizeLine_eq]
    refine q _ ⟨_, _, _, rfl, ?_, ?_, ?_, Int.le_refl 0, Int.le_refl 0⟩
    · split <;> split <;> omega
    · have := Int.emod_nonneg z (show (2147483629 : Int) ≠ 0 by decide)
      omega
    · have := Int.emod_lt_of_pos z (show (0 : Int) < 2147483629 by decide)
      omega
  simp only [w_law_box, s_seq, s_set, s_c, s_if, s_B, s_bin, s_var, s_lenS, s_scr, List.map_cons, List.map_nil, List.cons_append, List.nil_append, List.replicate_succ, List.replicate_zero, sto_f, st_d, val_d, Opt_some, List.set_cons_succ, List.set_cons_zero, List.getElem?_cons_succ, List.getElem?_cons_zero, ordD_int, out_v, s_next]
  by_cases hk : k < (ns.length : Int)
  · simp only [ltI, decide_eq_true hk, if_true]
    obtain ⟨j, rfl⟩ : ∃ j : Nat, k = (j : Int) := ⟨k.toNat, by omega⟩
    have hj : j < ns.length := by omega
    rw [atI_nat (List.getElem?_eq_getElem hj), Opt_some]
    exact fin _
  · simp only [ltI, decide_eq_false hk, Bool.false_eq_true, if_false]
    exact fin 0
end SH
/-! SHc: names: plain facts of texts, then the walk of the law's own drawing of names. -/
namespace SH
open PySem PySem.Spec PyProof.Rows L2 DL

/-! ### texts as lists of codes -/
abbrev cs (z : Str) : List Nat := z.cps.toList
theorem cs_inj {x y : Str} (h : cs x = cs y) : x = y := PySem.W.str_of_cps h
theorem cs_app (x y : Str) : cs (x ++ y) = cs x ++ cs y := by
  show (x.cps ++ y.cps).toList = _
  rw [Array.toList_append]
theorem cs_len (x : Str) : (cs x).length = x.length := by show x.cps.toList.length = x.cps.size; rw [Array.length_toList]
theorem join_eq (sep : Str) (l : List Str) : Txt.join sep l = Str.join sep l := eq_of_beq (PyProof.Rows.join_plain_closes sep l)
theorem cs_join0 {e : Str} (he : cs e = []) : ∀ l : List Str, cs (Txt.join e l) = (l.map cs).flatten := by
  intro l
  rw [join_eq]
  induction l with
  | nil => rfl
  | cons x l ih =>
    cases l with
    | nil => show cs x = _; simp
    | cons y l =>
      show cs (x ++ e ++ Str.join e (y :: l)) = _
      rw [cs_app, cs_app, he, ih]
      simp
/-- a NAME: one to six letters -/
def IsName (z : Str) : Prop := 1 ≤ (cs z).length ∧ (cs z).length ≤ 6 ∧ ∀ c ∈ cs z, 97 ≤ c ∧ c ≤ 122
/-- rising names -/
def Names (ns : List Str) : Prop := (∀ z ∈ ns, IsName z) ∧ ns.Pairwise fun x y => cs x < cs y
theorem IsName.shaped {z : Str} (h : IsName z) : SeqAt.shaped (.str z) = true := by
  have e : z.cps.all (fun c => decide (c < 0x110000)) = true := by
    rw [← Array.all_toList]
    rw [List.all_eq_true]
    intro c hc
    have := (h.2.2 c hc).2
    exact decide_eq_true (by omega)
  unfold SeqAt.shaped PyData.canLay0
  rw [Bool.and_eq_true]
  exact ⟨e, by simp [PyData.depth]⟩
theorem shaped_strs : ∀ {ns : List Str}, (∀ z ∈ ns, IsName z) → SeqAt.shaped (.list (ns.map .str)) = true := by
  intro ns h
  unfold SeqAt.shaped PyData.canLay0
  rw [Bool.and_eq_true]
  have a1 : PyData.canLayAll0 (ns.map .str) = true ∧ PyData.depthAll (ns.map .str) = 0 := by
    induction ns with
    | nil => exact ⟨by simp [PyData.canLayAll0], by simp [PyData.depthAll]⟩
    | cons z ns ih =>
      obtain ⟨h1, h2⟩ := ih fun y hy => h y (List.mem_cons_of_mem _ hy)
      have q := (h z (List.mem_cons_self ..)).shaped
      unfold SeqAt.shaped at q
      rw [Bool.and_eq_true] at q
      rw [List.map_cons]
      exact ⟨by rw [PyData.canLayAll0, q.1, h1]; rfl, by rw [PyData.depthAll, h2]; simp [PyData.depth]⟩
  exact ⟨a1.1, by rw [PyData.depth, a1.2]; decide⟩
theorem eqv_str (x y : Str) : PyData.eqv (.str x) (.str y) = (x == y) := by rw [PyData.eqv]
theorem any_str (ns : List Str) (z : Str) : ((ns.map PyData.str).any fun y => PyData.eqv y (.str z)) = decide (z ∈ ns) := by
  rw [List.any_map]
  induction ns with
  | nil => rfl
  | cons y ns ih =>
    rw [List.any_cons, ih]
    show (PyData.eqv (.str y) (.str z) || _) = _
    rw [eqv_str]
    by_cases e : y = z
    · subst e; simp
    · have e' : ¬ z = y := fun q => e q.symm
      simp [e, e']
/-- more unlike ones than there is room for -/
theorem some_out : ∀ {l fs : List Str}, l.Nodup → fs.length < l.length → ∃ z ∈ l, z ∉ fs
  | [], fs, _, h => by simp at h
  | x :: l, fs, hn, h => by
    by_cases hx : x ∈ fs
    · have hn' := List.nodup_cons.mp hn
      have hl : (fs.erase x).length < l.length := by
        rw [List.length_erase_of_mem hx]
        have : 0 < fs.length := List.length_pos_of_mem hx
        simp only [List.length_cons] at h
        omega
      obtain ⟨z, hz, hz2⟩ := some_out hn'.2 hl
      refine ⟨z, List.mem_cons_of_mem _ hz, fun hm => hz2 ?_⟩
      have hne : z ≠ x := fun e => hn'.1 (by rw [← e]; exact hz)
      exact (List.mem_erase_of_ne hne).mpr hm
    · exact ⟨x, List.mem_cons_self .., hx⟩

/-! ### the letters -/
abbrev letters : Str := "abcdefghijklmnopqrstuvwxyz"
theorem cs_letters : cs letters = (List.range 26).map (· + 97) := by decide +kernel
theorem letters_at {r : Int} (h0 : 0 ≤ r) (h1 : r < 26) : atI letters.cps.toList r = some (r.toNat + 97) := by
  obtain ⟨j, rfl⟩ : ∃ j : Nat, r = (j : Int) := ⟨r.toNat, by omega⟩
  refine atI_nat ?_
  show (cs letters)[j]? = _
  rw [cs_letters, List.getElem?_map, List.getElem?_range (by omega)]
  simp
theorem letters_len : letters.length ≤ sizeLine := by rw [← cs_len, cs_letters, sizeLine_eq]; simp
/-! cuts -/
theorem cs_cut5 (z : Str) : cs (cutS z none (some 5)) = (cs z).take 5 := by
  have e : cutS z none (some 5) = ⟨((z.cps.toList.drop (HT.sIx z.length 0 none)).take (HT.sIx z.length z.length (some 5) - HT.sIx z.length 0 none)).toArray⟩ := rfl
  rw [e]
  show (((cs z).drop _).take _).toArray.toList = _
  rw [List.toList_toArray, HT.sIx_none, List.drop_zero]
  have e2 : HT.sIx z.length z.length (some 5) = min 5 z.length := HT.sIx_nat z.length z.length 5
  rw [e2, ← cs_len]
  rcases Nat.le_total 5 (cs z).length with h | h
  · rw [Nat.min_eq_left h]
  · rw [Nat.min_eq_right h, Nat.sub_zero, List.take_of_length_le (Nat.le_refl _), List.take_of_length_le h]
/-- what may be the next name -/
def cands (z : Str) : List Str := z :: (cs letters).map fun c => cutS z none (some 5) ++ (⟨#[c]⟩ : Str)
theorem cs_cand (z : Str) (c : Nat) : cs (cutS z none (some 5) ++ (⟨#[c]⟩ : Str)) = (cs z).take 5 ++ [c] := by rw [cs_app, cs_cut5]
theorem cands_name {z : Str} (h : IsName z) : ∀ y ∈ cands z, IsName y := by
  intro y hy
  rcases List.mem_cons.mp hy with rfl | hy
  · exact h
  · obtain ⟨c, hc, rfl⟩ := List.mem_map.mp hy
    rw [cs_letters] at hc
    obtain ⟨i, hi, rfl⟩ := List.mem_map.mp hc
    rw [List.mem_range] at hi
    unfold IsName
    rw [cs_cand]
    refine ⟨by simp, by simp; omega, fun d hd => ?_⟩
    rcases List.mem_append.mp hd with hd | hd
    · exact h.2.2 d (List.mem_of_mem_take hd)
    · rw [List.mem_singleton] at hd; omega
theorem cands_out {z : Str} {fs : List Str} (h : fs.length < 26) : ∃ y ∈ cands z, y ∉ fs := by
  have nd : ((cs letters).map fun c => cutS z none (some 5) ++ (⟨#[c]⟩ : Str)).Nodup := by
    rw [cs_letters, List.map_map]
    unfold List.Nodup
    rw [List.pairwise_map]
    refine List.Pairwise.imp ?_ List.nodup_range
    intro a b hab e
    have e' := congrArg cs e
    simp only [Function.comp_apply, cs_cand] at e'
    have := List.append_cancel_left e'
    simp at this
    exact hab this
  obtain ⟨y, h1, h2⟩ := some_out nd (fs := fs) (by rw [cs_letters]; simpa using h)
  exact ⟨y, List.mem_cons_of_mem _ h1, h2⟩
theorem head_filter {l : List Str} {fs : List Str} (h : ∃ y ∈ l, y ∉ fs) : ∃ y ys, l.filter (fun z => !decide (z ∈ fs)) = y :: ys ∧ y ∈ l ∧ y ∉ fs := by
  obtain ⟨y, h1, h2⟩ := h
  have hm : y ∈ l.filter (fun z => !decide (z ∈ fs)) := List.mem_filter.mpr ⟨h1, by simp [h2]⟩
  cases e : l.filter (fun z => !decide (z ∈ fs)) with
  | nil => rw [e] at hm; cases hm
  | cons x xs =>
    have hx : x ∈ l.filter (fun z => !decide (z ∈ fs)) := by rw [e]; exact List.mem_cons_self ..
    obtain ⟨q1, q2⟩ := List.mem_filter.mp hx
    exact ⟨x, xs, rfl, q1, by simpa using q2⟩

/-! ### sorting names -/
theorem sortOk_strs {ns : List Str} (hl : ns.length ≤ sizeLine) : SortOk (ns.map .str) :=
  ⟨PySem.W.AllAlike.of fun _ _ => by rw [PySem.W.alike], PySem.W.Sortable.others fun b => ⟨(fun z => nomatch z), (fun _ z => nomatch z)⟩, fun x hx => by
    obtain ⟨z, _, rfl⟩ := List.mem_map.mp hx
    simp [PyData.depth], by rw [List.length_map]; exact hl⟩
def strLe (x y : Str) : Bool := decide (cs x ≤ cs y)
theorem dLe_str (x y : Str) : dLe (.str x) (.str y) = strLe x y := by
  have h := congrFun (congrFun (PySem.W.dataLe_str (fun z : Str => z)) x) y
  exact h
theorem sort_strs (ns : List Str) : (ns.map PyData.str).mergeSort dLe = (ns.mergeSort strLe).map .str :=
  (List.map_mergeSort fun a _ b _ => (dLe_str a b).symm).symm
theorem sorted_names {ns : List Str} (h : ∀ z ∈ ns, IsName z) (nd : ns.Nodup) : Names (ns.mergeSort strLe) ∧ (ns.mergeSort strLe).length = ns.length := by
  have pm := List.mergeSort_perm ns strLe
  refine ⟨⟨fun z hz => h z (pm.mem_iff.mp hz), ?_⟩, pm.length_eq⟩
  have srt : (ns.mergeSort strLe).Pairwise fun a b => strLe a b = true := by
    refine List.pairwise_mergeSort (fun a b c h1 h2 => ?_) (fun a b => ?_) ns
    · unfold strLe at *
      exact decide_eq_true (List.le_trans (of_decide_eq_true h1) (of_decide_eq_true h2))
    · unfold strLe
      rcases List.le_total (cs a) (cs b) with q | q
      · simp [q]
      · simp [q]
  have nd' : (ns.mergeSort strLe).Nodup := pm.nodup_iff.mpr nd
  refine (List.Pairwise.and srt nd').imp fun {a b} ⟨h1, h2⟩ => ?_
  have h1 := of_decide_eq_true h1
  rcases List.le_iff_lt_or_eq.mp h1 with q | q
  · exact q
  · exact absurd (cs_inj q) h2

/-! ### the walk -/
def IsLet (z : Str) : Prop := (cs z).length = 1 ∧ ∀ c ∈ cs z, 97 ≤ c ∧ c ≤ 122
/-- letters drawn one by one -/
theorem draw_letters {m k q a b : Option R} {fs : List PyData} {P : R → Kap → Prop} : ∀ (xs : List PyData) (zs : List Str) (bs : List PyData) (N : Int), Box N bs → N + (xs.length : Int) < 2 ^ 40 → (∀ z ∈ zs, IsLet z) → zs.length + xs.length ≤ 1000 →
    (∀ (zs' : List Str) (bs' : List PyData), zs'.length = zs.length + xs.length → (∀ z ∈ zs', IsLet z) → Box (N + (xs.length : Int)) bs' → P (.f (zs'.map .str)) [.l bs', .l fs]) →
    lcL (fun _ => True) (wName 6) wYes (wBin ixD (wVar 2) (wCallL Ph_law_take (wCons (wVar 0) (wCons (wC (.int 26)) wNil)))) [some (.c 0), m, some (.d (.str letters)), some (.c 1), k, q, none, a, b] P xs (zs.map .str) [.l bs, .l fs]
  | [], zs, bs, N, hb, _, hz, _, hp => by
    rw [lcL_nil]
    exact hp zs bs (by simp) hz (by simpa using hb)
  | x :: xs, zs, bs, N, hb, hN, hz, hl, hp => by
    simp only [List.length_cons] at hN hl
    rw [lcL_cons]
    simp
    refine ⟨N, 26, hb, by omega, rfl, by decide, by decide, fun r bs' h0 h1 hb' => ?_⟩
    have e : ixD (.str letters) (.int r) = some (.v (.str ⟨#[r.toNat + 97]⟩)) := by
      unfold ixD
      simp only [if_pos letters_len, letters_at h0 h1]
      rfl
    simp only [lab_d, st_d, val_d, Opt_some, e]
    simp
    refine ⟨by rw [sizeLine_eq]; omega, ?_⟩
    have z1 : (zs.map PyData.str) ++ [PyData.str ⟨#[r.toNat + 97]⟩] = (zs ++ [(⟨#[r.toNat + 97]⟩ : Str)]).map .str := by simp
    rw [z1]
    refine draw_letters xs _ bs' (N + 1) hb' (by omega) (fun z hm => ?_) (by simp; omega) fun zs' bs2 h2 h3 h4 => hp zs' bs2 (by simp at h2 ⊢; omega) h3 (h4.mono (by simp; omega))
    rcases List.mem_append.mp hm with hm | hm
    · exact hz z hm
    · rw [List.mem_singleton] at hm
      subst hm
      refine ⟨rfl, fun c hc => ?_⟩
      have : c = r.toNat + 97 := by simpa [cs] using hc
      omega
end SH
namespace SH
open PySem PySem.Spec PyProof.Rows L2 DL
def Ph_law_names (bs : List PyData) (rs : List R) (P : R → List PyData → Prop) : Prop := ∃ (N : Int) (m : Nat), Box N bs ∧ N ≤ 2 ^ 39 ∧ rs = [.d (.int m)] ∧ m ≤ 20 ∧ ∀ (ns : List Str) (bs' : List PyData), ns.length = m → Names ns → Box (N + 200) bs' → P (.f (ns.map .str)) bs'
def wb_names : DTS := (wSeq (wSet false 5 (wBM "str" joinC (wC (.str "")) (wCons (wLc (wRng1 (wCons (wBin ixD (wLst (wCons (wC (.int 1)) (wCons (wC (.int 1)) (wCons (wC (.int 2)) (wCons (wC (.int 6)) wNil))))) (wCallL Ph_law_take (wCons (wVar 0) (wCons (wC (.int 4)) wNil)))) wNil)) (wName 6) wYes (wBin ixD (wVar 2) (wCallL Ph_law_take (wCons (wVar 0) (wCons (wC (.int 26)) wNil)))) [6]) wNil)))
  (wDrop (wAppend (wVar 3) (wBin ixD (wLc (wSq (wBin addD (wLst (wCons (wVar 5) wNil)) (wLc (wSq (wVar 2)) (wName 8) wYes (wBin addD (wSl (wVar 5) wNoP (wP (wC (.int 5)))) (wVar 8)) [8]))) (wName 7) (wB (wBin (inD true) (wVar 7) (wVar 3))) (wVar 7) [7]) (wC (.int 0))))))
/-- _law_names -/
def w_law_names : DTS := (wSeq (wPar 2 3 (wConsM false (wC (.str "abcdefghijklmnopqrstuvwxyz")) (wConsM true (wLst wNil) wNil)))
  (wSeq (wFor (wRng1 (wCons (wVar 1) wNil)) (wName 4) wb_names)
  (wRet (wCB sortC (wCons (wVar 3) wNil)))))
theorem strL_map : ∀ zs : List Str, strL (zs.map PyData.str) = some zs
  | [] => rfl
  | z :: zs => by rw [List.map_cons]; unfold strL; rw [strL_map zs]; rfl
theorem sum_let : ∀ ys : List Str, (∀ z ∈ ys, IsLet z) → (ys.map (·.length)).sum = ys.length
  | [], _ => rfl
  | y :: ys, h => by rw [List.map_cons, List.sum_cons, sum_let ys fun z hz => h z (List.mem_cons_of_mem _ hz), ← cs_len, (h y (List.mem_cons_self ..)).1, List.length_cons, Nat.add_comm]
theorem join_let {zs : List Str} (h : ∀ z ∈ zs, IsLet z) (hl : zs.length ≤ 1000) : joinC (.str "") [.list (zs.map .str)] = some (.v (.str (Txt.join "" zs))) := by
  unfold joinC
  simp only [strL_map]
  rw [if_pos]
  rw [sum_let zs h]
  show zs.length + zs.length * 0 ≤ _
  omega
theorem name_let {zs : List Str} (h : ∀ z ∈ zs, IsLet z) (h1 : 1 ≤ zs.length) (h6 : zs.length ≤ 6) : IsName (Txt.join "" zs) := by
  have e1 : cs (Txt.join "" zs) = (zs.map cs).flatten := cs_join0 rfl zs
  unfold IsName
  rw [e1]
  have e2 : ∀ zs : List Str, (∀ z ∈ zs, IsLet z) → ((zs.map cs).flatten).length = zs.length := fun zs h => by
    induction zs with
    | nil => rfl
    | cons z zs ih =>
      rw [List.map_cons, List.flatten_cons, List.length_append, (h z (List.mem_cons_self ..)).1, List.length_cons]
      rw [ih (fun w hw => h w (List.mem_cons_of_mem _ hw)), Nat.add_comm]
  rw [e2 zs h]
  refine ⟨by omega, by omega, fun d hd => ?_⟩
  obtain ⟨l, hl1, hl2⟩ := List.mem_flatten.mp hd
  obtain ⟨z, hz1, rfl⟩ := List.mem_map.mp hl1
  exact (h z hz1).2 d hl2
theorem cands_map (y : Str) : [PyData.str y] ++ (cs letters).map (fun c => PyData.str (cutS y none (some 5) ++ (⟨#[c]⟩ : Str))) = (cands y).map .str := by
  unfold cands
  generalize cs letters = l
  rw [List.map_cons, List.map_map]
  rfl
theorem letters26 : (cs letters).length = 26 := by rw [cs_letters, List.length_map, List.length_range]
theorem cands_len (y : Str) : (cands y).length = 27 := by unfold cands; rw [List.length_cons, List.length_map, letters26]
theorem cands_fit (y : Str) : [PyData.str y].length + ((cs letters).map fun c => PyData.str (cutS y none (some 5) ++ (⟨#[c]⟩ : Str))).length ≤ sizeLine := by
  rw [List.length_map, letters26, sizeLine_eq, List.length_singleton]
  omega
theorem names_body {E : DEnds} {m x p5 : Option R} {fs : List Str} {bs : List PyData} {N : Int} (hb : Box N bs) (hN : N + 8 < 2 ^ 40) (hz : ∀ z ∈ fs, IsName z) (hl : fs.length < 26)
    (k : ∀ (y z : Str) (bs' : List PyData), IsName z → z ∉ fs → Box (N + 8) bs' → E.nx [some (.c 0), m, some (.d (.str letters)), some (.c 1), x, some (.d (.str y)), none, none, none] [.l bs', .l ((fs ++ [z]).map .str)]) :
    wb_names E [some (.c 0), m, some (.d (.str letters)), some (.c 1), x, p5, none, none, none] [.l bs, .l (fs.map .str)] := by
  simp [wb_names, sizeLine_eq, tyOk]
  refine ⟨N, 4, hb, by omega, rfl, by decide, by decide, fun r bs1 h0 h1 hb1 => ?_⟩
  obtain ⟨c, ec, hc0, hc6⟩ : ∃ c : Int, ixD (.list [.int 1, .int 1, .int 2, .int 6]) (.int r) = some (.v (.int c)) ∧ 1 ≤ c ∧ c ≤ 6 := by
    have : r = 0 ∨ r = 1 ∨ r = 2 ∨ r = 3 := by omega
    rcases this with rfl | rfl | rfl | rfl
    · exact ⟨1, rfl, by decide, by decide⟩
    · exact ⟨1, rfl, by decide, by decide⟩
    · exact ⟨2, rfl, by decide, by decide⟩
    · exact ⟨6, rfl, by decide, by decide⟩
  simp only [lab_d, st_d, val_d, Opt_some, ec]
  simp
  refine ⟨by omega, by omega, ?_⟩
  refine draw_letters _ [] bs1 (N + 1) hb1 ?_ (by simp) ?_ fun zs bs2 l1 l2 b2 => ?_
  · simp; omega
  · simp; omega
  simp at l1
  have ej := join_let l2 (by omega)
  have hy' := name_let l2 (by omega) (by omega)
  simp [ej]
  obtain ⟨y, ey⟩ : ∃ y, y = Txt.join "" zs := ⟨_, rfl⟩
  have hy : IsName y := by rw [ey]; exact hy'
  rw [← ey]
  have ly : y.length ≤ 6 := by rw [← cs_len]; exact hy.2.1
  have hl27 := cands_fit y
  have hcm := cands_map y
  have hcl := cands_len y
  have hcn := cands_name hy
  have hco := cands_out (z := y) hl
  have hl26 := letters26
  obtain ⟨C, hC⟩ : ∃ C, C = cands y := ⟨_, rfl⟩
  rw [← hC] at hcm hcl hcn hco
  have e1 : (List.map (fun c => PyData.str { cps := #[c] }) letters.cps.toList) = (cs letters).map fun c => PyData.str ⟨#[c]⟩ := rfl
  rw [e1]
  obtain ⟨L, hL⟩ : ∃ L, L = cs letters := ⟨_, rfl⟩
  rw [← hL] at hcm hl27 hl26 ⊢
  refine lc_map (fun c => PyData.str ⟨#[c]⟩) (fun c => PyData.str (cutS y none (some 5) ++ (⟨#[c]⟩ : Str))) trivial L [] (by rw [hl26, sizeLine_eq, List.length_nil]; omega) (fun c _ C hC => ?_) ?_
  · have l2 : (cutS y none (some 5)).length + (⟨#[c]⟩ : Str).length ≤ sizeLine := by
      rw [← cs_len, cs_cut5, sizeLine_eq]
      show ((cs y).take 5).length + 1 ≤ _
      rw [List.length_take]
      omega
    simp [slD_str none (some 5) (show y.length ≤ sizeLine by rw [sizeLine_eq]; omega), addD_str l2]
    exact hC
  simp only [List.nil_append, st_f, val_d, Opt_some, addD_list hl27, out_n]
  rw [hcm]
  refine lc_filter (κ := [Cell.l bs2, Cell.l (List.map PyData.str fs)]) PyData.str (fun z => !decide (z ∈ fs)) PyData.str trivial C [] (by rw [hcl, sizeLine_eq, List.length_nil]; omega) (fun z hz1 C hC => ?_) ?_
  · simp
    have sh := shaped_strs hz
    have sz := (hcn z hz1).shaped
    have ei : inD true (.str z) (.list (fs.map .str)) = some (.v (.bool (!decide (z ∈ fs)))) := by
      refine (show inD true (.str z) (.list (fs.map .str)) = some (.v (.bool (!(fs.map PyData.str).any fun y => PyData.eqv y (.str z)))) from ?_).trans (by rw [any_str])
      show (if SeqAt.shaped (.str z) = true ∧ SeqAt.shaped (.list (fs.map .str)) = true then _ else none) = _
      rw [if_pos ⟨sz, sh⟩]
      rfl
    rw [ei]
    simp
    refine hC _ fun _ D hD => ?_
    simp
    exact hD
  · obtain ⟨z, zs', ez, hz1, hz2⟩ := head_filter hco
    rw [ez]
    simp
    rw [ixD_list (i := 0) (x := .str z) (atI_nat (j := 0) rfl)]
    simp
    refine ⟨by omega, ?_⟩
    have e3 : fs.map PyData.str ++ [.str z] = (fs ++ [z]).map .str := by simp
    rw [e3]
    refine k y z bs2 (hcn z hz1) hz2 (b2.mono ?_)
    simp
    omega
theorem names_loop {E : DEnds} {m : Option R} : ∀ (xs : List PyData) (fs : List Str) (bs : List PyData) (N : Int) (p4 p5 : Option R), Box N bs → N + 8 * (xs.length : Int) < 2 ^ 40 → (∀ z ∈ fs, IsName z) → fs.Nodup → fs.length + xs.length ≤ 26 →
    (∀ (fs' : List Str) (bs' : List PyData) (q4 q5 : Option R), fs'.length = fs.length + xs.length → (∀ z ∈ fs', IsName z) → fs'.Nodup → Box (N + 8 * (xs.length : Int)) bs' → E.nx [some (.c 0), m, some (.d (.str letters)), some (.c 1), q4, q5, none, none, none] [.l bs', .l (fs'.map .str)]) →
    forL (fun _ => True) (wName 4) wb_names E xs [some (.c 0), m, some (.d (.str letters)), some (.c 1), p4, p5, none, none, none] [.l bs, .l (fs.map .str)]
  | [], fs, bs, N, p4, p5, hb, hN, hz, nd, hl, k => by
    rw [forL_nil]
    exact k fs bs p4 p5 (by simp) hz nd (by simpa using hb)
  | x :: xs, fs, bs, N, p4, p5, hb, hN, hz, nd, hl, k => by
    rw [forL_cons]
    simp only [List.length_cons] at hN hl k
    refine names_body (x := some (.d x)) hb (by omega) hz (by omega) fun y z bs' hz1 hz2 hb' => ⟨trivial, ?_⟩
    refine names_loop xs (fs ++ [z]) bs' (N + 8) _ _ hb' (by omega) (fun w hw => ?_) ?_ (by simp; omega) fun fs' bs2 q4 q5 h1 h2 h3 h4 => k fs' bs2 q4 q5 (by simp at h1; omega) h2 h3 (h4.mono (by omega))
    · rcases List.mem_append.mp hw with hw | hw
      · exact hz w hw
      · rw [List.mem_singleton] at hw; rw [hw]; exact hz1
    · rw [List.nodup_append]
      refine ⟨nd, by simp, fun a ha b hb2 => ?_⟩
      rw [List.mem_singleton] at hb2
      intro e
      exact hz2 (by rw [← hb2, ← e]; exact ha)
theorem r_law_names (bs : List PyData) (rs : List R) (Pd : R → List PyData → Prop) (h : Ph_law_names bs rs Pd) (hl : rs.length = 1) : w_law_names { nx := fun _ κ => endL κ (.d .none) Pd, rt := fun r κ => endL κ r Pd } (some (.c 0) :: (rs.map some ++ List.replicate 7 none)) [.l bs] := by
  obtain ⟨N, m, hb, hN, rfl, hm, k⟩ := h
  simp [w_law_names, sizeLine_eq]
  refine ⟨by omega, ?_⟩
  refine names_loop _ [] bs N none none hb ?_ (fun z hz => nomatch hz) List.nodup_nil ?_ fun fs' bs' q4 q5 h1 h2 h3 h4 => ?_
  · simp; omega
  · simp; omega
  simp at h1
  simp
  rw [sortC_list (sortOk_strs (by rw [sizeLine_eq]; omega))]
  obtain ⟨n1, n2⟩ := sorted_names h2 h3
  rw [sort_strs]
  simp
  refine k _ _ (by rw [n2, h1]) n1 (h4.mono ?_)
  simp
  omega
end SH
/-! SHe: the law's own comparison of what's found and what's due. -/
namespace SH
open PySem PySem.Spec PyProof.Rows L2 DL
def GoodN : Nat → PyData → Prop
  | 0, _ => False
  | n + 1, .list xs => xs.length ≤ sizeLine ∧ ∀ x ∈ xs, GoodN n x
  | n + 1, .tuple xs => xs.length ≤ sizeLine ∧ ∀ x ∈ xs, GoodN n x
  | _ + 1, .str z => SeqAt.shaped (.str z) = true
  | _ + 1, .int _ => True
  | _ + 1, .bool _ => True
  | _ + 1, .none => True
  | _, _ => False
def Ph_law_sameN (n : Nat) (rs : List R) (P : R → Prop) : Prop := ∃ x, rs = [.d x, .d x] ∧ GoodN n x ∧ P (.d (.bool true))
def Ph_law_sameLN (n : Nat) (bs : List PyData) (rs : List R) (P : R → List PyData → Prop) : Prop := rs = [.d (.list bs)] ∧ GoodN n (.list bs) ∧ P (.d (.bool true)) bs
theorem n_law_same {rs : List R} {P : R → Prop} (h : Ph_law_sameN 0 rs P) : False := by
  obtain ⟨x, _, g, _⟩ := h
  cases x <;> exact g.elim
/-- _law_same -/
def w_law_same (Ph_law_same : List R → (R → Prop) → Prop) : DTS := (wSeq (wIfS (wTru (wIsi2 .list .tuple (wVar 1))) (wSeq (wIfS (wOr (wB (wBin (eqD true) (wIsi .list (wVar 0)) (wIsi .list (wVar 1)))) (wB (wBin (eqD true) (wIsi .tuple (wVar 0)) (wIsi .tuple (wVar 1))))) (wRet (wC (.bool false))) wNext)
  (wRet (wAndV (wBin (eqD false) (wCB lenD (wCons (wVar 0) wNil)) (wCB lenD (wCons (wVar 1) wNil))) (wCB (allC fun bs => bs.all id) (wCons (wLc (wZip (wCons (wVar 0) (wCons (wVar 1) wNil))) (wTupG 2 (wgCons (wName 2) (wgCons (wName 3) wgNil))) wYes (wCall Ph_law_same (wCons (wVar 2) (wCons (wVar 3) wNil))) [2, 3]) wNil))))) wNext)
  (wSeq (wIfS (wOr (wB (wBin (isND false) (wVar 1) (wC .none))) (wTru (wIsi .str (wVar 1)))) (wRet (wAndV (wBin (eqD false) (wVar 0) (wVar 1)) (wBin (eqD false) (wIsi .str (wVar 0)) (wIsi .str (wVar 1))))) wNext)
  (wRet (wAndV (wIsi .int (wVar 0)) (wAndV (wBin (eqD false) (wIsi .bool (wVar 0)) (wIsi .bool (wVar 1))) (wBin (eqD false) (wVar 0) (wVar 1)))))))
theorem eqD_bool (neg a b : Bool) : eqD neg (.bool a) (.bool b) = some (.v (.bool (if neg then !(a == b) else a == b))) := by
  cases a <;> cases b <;> cases neg <;> rfl
theorem eqD_int (i : Int) : eqD false (.int i) (.int i) = some (.v (.bool true)) := by
  rw [eqD_of (by unfold SeqAt.shaped PyData.canLay0; simp [PyData.depth]) (by unfold SeqAt.shaped PyData.canLay0; simp [PyData.depth])]
  simp [PyData.eqv]
theorem eqD_str {z : Str} (h : SeqAt.shaped (.str z) = true) : eqD false (.str z) (.str z) = some (.v (.bool true)) := by
  rw [eqD_of h h]
  simp [PyData.eqv]
theorem isND_none : isND false .none .none = some (.v (.bool true)) := rfl
theorem isND_str (z : Str) : isND false (.str z) .none = some (.v (.bool false)) := rfl
theorem isND_int (i : Int) : isND false (.int i) .none = some (.v (.bool false)) := rfl
theorem isND_bool (b : Bool) : isND false (.bool b) .none = some (.v (.bool false)) := rfl
theorem eqD_none : eqD false .none .none = some (.v (.bool true)) := rfl
theorem zip_self : ∀ xs : List PyData, zipD xs xs = xs.map fun x => .tuple [x, x]
  | [] => rfl
  | x :: xs => by rw [List.map_cons, ← zip_self xs]; rfl
theorem bools_map {α : Type} (b : Bool) : ∀ xs : List α, bools (xs.map fun _ => PyData.bool b) = some (xs.map fun _ => b)
  | [] => rfl
  | x :: xs => by rw [List.map_cons]; unfold bools; rw [bools_map b xs]; rfl
theorem all_map {α : Type} (xs : List α) : allC (fun bs => bs.all id) [.list (xs.map fun _ => PyData.bool true)] = some (.v (.bool true)) := by
  unfold allC
  simp [bools_map]
theorem same_in {ok : Kap → Prop} {n : Nat} {xs : List PyData} {p q : Option R} {P : R → Kap → Prop} {κ : Kap} (hok : ok κ) (hl : xs.length ≤ sizeLine) (h : ∀ x ∈ xs, GoodN n x) (k : P (.f (xs.map fun _ => .bool true)) κ) :
    lcL ok (wTupG 2 (wgCons (wName 2) (wgCons (wName 3) wgNil))) wYes (wCall (Ph_law_sameN n) (wCons (wVar 2) (wCons (wVar 3) wNil))) [p, q, none, none] P (zipD xs xs) [] κ := by
  rw [zip_self]
  refine lc_map (fun x => .tuple [x, x]) (fun _ => .bool true) hok xs [] (by simpa using hl) (fun x hx C hC => ?_) (by simpa using k)
  simp
  exact ⟨x, rfl, h x hx, hC⟩
theorem r_law_same (n : Nat) (rs : List R) (Pd : R → Prop) (h : Ph_law_sameN (n + 1) rs Pd) (hl : rs.length = 2) : w_law_same (Ph_law_sameN n) { nx := fun _ _ => Pd (.d .none), rt := fun r κ => Opt (outR κ 0 r) Pd } (rs.map some ++ List.replicate 2 none) [] := by
  obtain ⟨x, rfl, g, k⟩ := h
  cases x with
  | list xs =>
    simp [w_law_same, isi, truth, eqD_bool, eqD_int]
    refine same_in trivial g.1 g.2 ?_
    simp [all_map]
    exact k
  | tuple xs =>
    simp [w_law_same, isi, truth, eqD_bool, eqD_int]
    refine same_in trivial g.1 g.2 ?_
    simp [all_map]
    exact k
  | none =>
    simp [w_law_same, isi, truth, eqD_bool, eqD_int, isND_none, eqD_none]
    exact k
  | str z =>
    simp [w_law_same, isi, truth, eqD_bool, eqD_int, isND_str, eqD_str g]
    exact k
  | int i =>
    simp [w_law_same, isi, truth, eqD_bool, eqD_int, isND_int]
    exact k
  | bool b =>
    simp [w_law_same, isi, truth, eqD_bool, eqD_int, isND_bool]
    exact k
  | _ => exact g.elim
theorem r_law_sameL (n : Nat) (bs : List PyData) (rs : List R) (Pd : R → List PyData → Prop) (h : Ph_law_sameLN (n + 1) bs rs Pd) (hl : rs.length = 1) : w_law_same (Ph_law_sameN n) { nx := fun _ κ => endL κ (.d .none) Pd, rt := fun r κ => endL κ r Pd } (some (.c 0) :: (rs.map some ++ List.replicate 2 none)) [.l bs] := by
  obtain ⟨rfl, g, k⟩ := h
  simp [w_law_same, isi, truth, eqD_bool, eqD_int]
  refine same_in (by simp) g.1 g.2 ?_
  simp [all_map]
  exact k
end SH
/-! SHf: knots, by the program and by the law. -/
namespace SH
open PySem PySem.Spec PyProof.Rows L2 DL
def kstep (r : Row) (l x : Str) : Row := r ++ [(l, x, 1)] ++ back r ++ [(l, x, -1)]
def knotL : Row → Str → List Str → Row
  | r, _, [] => r
  | r, l, x :: xs => knotL (kstep r l x) x xs
def knot : List Str → Row
  | a :: b :: ns => knotL [(a, b, 1)] b ns
  | _ => []
theorem kstep_len (r : Row) (l x : Str) : (kstep r l x).length = 2 * r.length + 2 := by
  unfold kstep
  simp [back_len]
  omega
theorem knotL_len : ∀ (ns : List Str) (r : Row) (l : Str), (knotL r l ns).length + 2 = (r.length + 2) * 2 ^ ns.length
  | [], r, l => by simp [knotL]
  | x :: xs, r, l => by
    rw [knotL, knotL_len xs, kstep_len, List.length_cons, Nat.pow_succ, Nat.mul_comm (2 ^ xs.length) 2, ← Nat.mul_assoc]
    congr 1
    omega
def Ph_knot (rs : List R) (P : R → Prop) : Prop := ∃ (a b : Str) (ns : List Str), rs = [.d (.tuple ((a :: b :: ns).map .str))] ∧ ns.length ≤ 16 ∧ P (.f ((knot (a :: b :: ns)).map hookD))
def Ph_law_knot (rs : List R) (P : R → Prop) : Prop := ∃ (a b : Str) (ns : List Str), rs = [.d (.tuple ((a :: b :: ns).map .str))] ∧ ns.length ≤ 16 ∧ P (.d (.list ((knot (a :: b :: ns)).map hookD)))
def wb_knot : DTS := (wSeq (wSet false 6 (wTup (wCons (wVar 2) (wCons (wVar 5) (wCons (wC (.int (1))) wNil)))))
  (wSeq (wSet true 4 (wBin addD (wBin addD (wBin addD (wVar 4) (wLst (wCons (wVar 6) wNil))) (wCall Ph_back (wCons (wVar 4) wNil))) (wLst (wCons (wCall Ph_turned (wCons (wVar 6) wNil)) wNil))))
  (wSet false 2 (wVar 5))))
/-- knot -/
def w_knot : DTS := (wSeq (wAsg (wVar 0) (wStar 3 2 (wgCons (wName 1) (wgCons (wName 2) (wgCons (wName 3) wgNil)))))
  (wSeq (wSet true 4 (wLst (wCons (wTup (wCons (wVar 1) (wCons (wVar 2) (wCons (wC (.int (1))) wNil)))) wNil)))
  (wSeq (wFor (wSq (wVar 3)) (wName 5) wb_knot)
  (wRet (wVar 4)))))
theorem arg_c {κ : Kap} {k : Nat} {xs : List PyData} (h : κ[k]? = some (.l xs)) : arg κ (.c k) = some (.d (.list xs), κ.set k (.z (.list xs))) := by
  unfold arg dat
  simp only [h]
theorem args_c1 {κ : Kap} {k : Nat} {xs : List PyData} (h : κ[k]? = some (.l xs)) : args κ [.c k] = some ([.d (.list xs)], κ.set k (.z (.list xs))) := by
  unfold args
  rw [arg_c h]
  rfl
theorem set_at {κ : Kap} {k : Nat} {c d : Cell} (h : κ[k]? = some c) : (κ.set k d)[k]? = some d := by
  have := (List.getElem?_eq_some_iff.mp h).1
  simp [this]
theorem knot_body {E : DEnds} {p0 p1 p3 p6 : Option R} {r : Row} {l x : Str} {κ : Kap} {k : Nat} (hk : κ[k]? = some (.l (r.map hookD))) (hr : 2 * r.length + 2 ≤ sizeLine)
    (kk : ∀ p6' κ' k', κ'[k']? = some (.l ((kstep r l x).map hookD)) → E.nx [p0, p1, some (.d (.str x)), p3, some (.c k'), some (.d (.str x)), p6'] κ') :
    wb_knot E [p0, p1, some (.d (.str l)), p3, some (.c k), some (.d (.str x)), p6] κ := by
  have hr' := hr
  rw [sizeLine_eq] at hr'
  have a1 : addD (.list (r.map hookD)) (.list [hookD (l, x, 1)]) = some (.n (r.map hookD ++ [hookD (l, x, 1)])) := addD_list (by simp; omega)
  have a2 : addD (.list (r.map hookD ++ [hookD (l, x, 1)])) (.list ((back r).map hookD)) = some (.n (r.map hookD ++ [hookD (l, x, 1)] ++ (back r).map hookD)) := addD_list (by simp [back_len]; omega)
  have a3 : addD (.list (r.map hookD ++ [hookD (l, x, 1)] ++ (back r).map hookD)) (.list [hookD (turned (l, x, 1))]) = some (.n ((kstep r l x).map hookD)) := by
    rw [addD_list (by simp [back_len]; omega)]; simp [kstep, turned]
  have e0 : PyData.tuple [.str l, .str x, .int 1] = hookD (l, x, 1) := rfl
  simp [wb_knot, sizeLine_eq, e0, a1, val_c hk, args_c1 hk]
  refine ⟨r, rfl, by omega, ?_⟩
  simp only [lab_f, st_f, val_f, val_d, Opt_some, a2, out_n]
  refine ⟨(l, x, 1), rfl, ?_⟩
  simp only [lab_d, st_d, dats_d, dats_nil, Opt_some, out_n, st_f, val_d, a3]
  simp
  exact kk _ _ _ (by simp)
theorem knot_loop {ok : Kap → Prop} {E : DEnds} {p0 p1 p3 : Option R} (hok : ∀ κ, ok κ) : ∀ (xs : List Str) (r : Row) (l : Str) (p5 p6 : Option R) (κ : Kap) (k : Nat), κ[k]? = some (.l (r.map hookD)) → (r.length + 2) * 2 ^ xs.length ≤ sizeLine →
    (∀ l' p5 p6 κ' k', κ'[k']? = some (.l ((knotL r l xs).map hookD)) → E.nx [p0, p1, some (.d (.str l')), p3, some (.c k'), p5, p6] κ') →
    forL ok (wName 5) wb_knot E (xs.map .str) [p0, p1, some (.d (.str l)), p3, some (.c k), p5, p6] κ
  | [], r, l, p5, p6, κ, k, hk, _, kk => by rw [List.map_nil, forL_nil]; exact kk _ _ _ _ _ hk
  | x :: xs, r, l, p5, p6, κ, k, hk, hl, kk => by
    rw [List.map_cons, forL_cons]
    have e : ((kstep r l x).length + 2) * 2 ^ xs.length = (r.length + 2) * 2 ^ (x :: xs).length := by
      rw [kstep_len, List.length_cons, Nat.pow_succ, Nat.mul_comm (2 ^ xs.length) 2, ← Nat.mul_assoc]
      congr 1
      omega
    rw [← e] at hl
    refine knot_body hk ?_ fun p6' κ' k' hk' => ⟨hok _, knot_loop hok xs _ x _ _ κ' k' hk' hl kk⟩
    have : 0 < 2 ^ xs.length := Nat.two_pow_pos _
    have := Nat.le_trans (Nat.le_mul_of_pos_right _ this) hl
    rw [kstep_len] at this
    omega
theorem r_knot (rs : List R) (Pd : R → Prop) (h : Ph_knot rs Pd) (hl : rs.length = 1) : w_knot { nx := fun _ _ => Pd (.d .none), rt := fun r κ => Opt (outR κ 0 r) Pd } (rs.map some ++ List.replicate 6 none) [] := by
  obtain ⟨a, b, ns, rfl, hn, k⟩ := h
  simp [w_knot, sizeLine_eq]
  have e1 : List.take ns.length (ns.map PyData.str) = ns.map .str := by rw [← List.length_map (f := PyData.str), List.take_length]
  have e2 : List.drop ns.length (ns.map PyData.str) = [] := by rw [← List.length_map (f := PyData.str), List.drop_length]
  refine ⟨by omega, ?_⟩
  rw [e1, e2]
  simp [sizeLine_eq]
  refine knot_loop (r := [(a, b, 1)]) (by simp) ns b none none _ _ rfl ?_ fun l' p5 p6 κ' k' hk' => ?_
  · show 3 * 2 ^ ns.length ≤ _
    have := Nat.pow_le_pow_right (n := 2) (by decide) hn
    rw [sizeLine_eq]
    omega
  · simp [outR, hk']
    exact k
end SH
/-! SHg: the law's own knots. -/
namespace SH
open PySem PySem.Spec PyProof.Rows L2 DL
theorem cut_1 {α : Type} (x : α) (xs : List α) : cut (x :: xs) (some 1) none = xs := by
  unfold cut
  rw [show HT.sIx (x :: xs).length 0 (some 1) = min 1 (x :: xs).length from HT.sIx_nat _ 0 1, HT.sIx_none]
  simp
theorem cut_2 {α : Type} (x y : α) (xs : List α) : cut (x :: y :: xs) (some 2) none = xs := by
  unfold cut
  rw [show HT.sIx (x :: y :: xs).length 0 (some 2) = min 2 (x :: y :: xs).length from HT.sIx_nat _ 0 2, HT.sIx_none]
  simp
/-- _law_back -/
def w_law_back : DTS := (wRet (wLc (wSq (wRevS (wVar 0))) (wTupG 3 (wgCons (wName 1) (wgCons (wName 2) (wgCons (wName 3) wgNil)))) wYes (wTup (wCons (wVar 1) (wCons (wVar 2) (wCons (wUn negD (wVar 3)) wNil)))) [1, 2, 3]))
theorem r_law_back (rs : List R) (Pd : R → Prop) (h : Ph_law_back rs Pd) (hl : rs.length = 1) : w_law_back { nx := fun _ _ => Pd (.d .none), rt := fun r κ => Opt (outR κ 0 r) Pd } (rs.map some ++ List.replicate 3 none) [] := by
  obtain ⟨r, rfl, hr, k⟩ := h
  simp [w_law_back]
  rw [← List.map_reverse]
  refine lc_map hookD (fun h => hookD (turned h)) (by simp) r.reverse [] (by simpa using hr) (fun h _ C hC => ?_) ?_
  · simp [hookD, sizeLine_eq]
    exact hC
  · have e : (back r).map hookD = r.reverse.map (fun h => hookD (turned h)) := by
      unfold back; rw [List.map_map]; rfl
    rw [e] at k
    simpa only [outR_f, Opt_some, List.nil_append] using k
def wb_law_knot : DTS := (wSet false 1 (wBin addD (wBin addD (wBin addD (wVar 1) (wLst (wCons (wTup (wCons (wVar 2) (wCons (wVar 3) (wCons (wC (.int 1)) wNil)))) wNil))) (wCall Ph_law_back (wCons (wVar 1) wNil))) (wLst (wCons (wTup (wCons (wVar 2) (wCons (wVar 3) (wCons (wUn negD (wC (.int 1))) wNil)))) wNil))))
/-- _law_knot -/
def w_law_knot : DTS := (wSeq (wSet false 1 (wLst (wCons (wTup (wCons (wBin ixD (wVar 0) (wC (.int 0))) (wCons (wBin ixD (wVar 0) (wC (.int 1))) (wCons (wC (.int 1)) wNil)))) wNil)))
  (wSeq (wFor (wZip (wCons (wSl (wVar 0) (wP (wC (.int 1))) wNoP) (wCons (wSl (wVar 0) (wP (wC (.int 2))) wNoP) wNil))) (wTupG 2 (wgCons (wName 2) (wgCons (wName 3) wgNil))) wb_law_knot)
  (wRet (wVar 1))))
theorem law_knot_body {E : DEnds} {p0 : Option R} {r : Row} {l x : Str} {κ : Kap} (hr : 2 * r.length + 2 ≤ sizeLine)
    (kk : E.nx [p0, some (.d (.list ((kstep r l x).map hookD))), some (.d (.str l)), some (.d (.str x))] κ) :
    wb_law_knot E [p0, some (.d (.list (r.map hookD))), some (.d (.str l)), some (.d (.str x))] κ := by
  have hr' := hr
  rw [sizeLine_eq] at hr'
  have a1 : addD (.list (r.map hookD)) (.list [hookD (l, x, 1)]) = some (.n (r.map hookD ++ [hookD (l, x, 1)])) := addD_list (by simp; omega)
  have a2 : addD (.list (r.map hookD ++ [hookD (l, x, 1)])) (.list ((back r).map hookD)) = some (.n (r.map hookD ++ [hookD (l, x, 1)] ++ (back r).map hookD)) := addD_list (by simp [back_len]; omega)
  have a3 : addD (.list (r.map hookD ++ [hookD (l, x, 1)] ++ (back r).map hookD)) (.list [hookD (l, x, -1)]) = some (.n ((kstep r l x).map hookD)) := by
    rw [addD_list (by simp [back_len]; omega)]; simp [kstep, turned]
  have e0 : PyData.tuple [.str l, .str x, .int 1] = hookD (l, x, 1) := rfl
  have e1 : PyData.tuple [.str l, .str x, .int (-1)] = hookD (l, x, -1) := rfl
  simp [wb_law_knot, sizeLine_eq, e0, a1, e1]
  refine ⟨r, rfl, by omega, ?_⟩
  simp only [lab_f, st_f, val_f, val_d, Opt_some, a2, out_n, a3]
  exact kk
theorem law_knot_loop {ok : Kap → Prop} {E : DEnds} {p0 : Option R} {κ : Kap} (hok : ok κ) : ∀ (xs : List Str) (r : Row) (l : Str) (p2 p3 : Option R), (r.length + 2) * 2 ^ xs.length ≤ sizeLine →
    (∀ p2 p3, E.nx [p0, some (.d (.list ((knotL r l xs).map hookD))), p2, p3] κ) →
    forL ok (wTupG 2 (wgCons (wName 2) (wgCons (wName 3) wgNil))) wb_law_knot E (zipD ((l :: xs).map .str) (xs.map .str)) [p0, some (.d (.list (r.map hookD))), p2, p3] κ
  | [], r, l, p2, p3, _, kk => by
    show forL _ _ _ _ [] _ _
    rw [forL_nil]; exact kk _ _
  | x :: xs, r, l, p2, p3, hl, kk => by
    show forL _ _ _ _ (.tuple [.str l, .str x] :: zipD ((x :: xs).map .str) (xs.map .str)) _ _
    have e : ((kstep r l x).length + 2) * 2 ^ xs.length = (r.length + 2) * 2 ^ (x :: xs).length := by
      rw [kstep_len, List.length_cons, Nat.pow_succ, Nat.mul_comm (2 ^ xs.length) 2, ← Nat.mul_assoc]
      congr 1
      omega
    rw [← e] at hl
    rw [forL_cons, s_tupG]
    refine ⟨rfl, ?_⟩
    refine law_knot_body ?_ ⟨hok, law_knot_loop hok xs _ x _ _ hl kk⟩
    have : 0 < 2 ^ xs.length := Nat.two_pow_pos _
    have := Nat.le_trans (Nat.le_mul_of_pos_right _ this) hl
    rw [kstep_len] at this
    omega
theorem r_law_knot (rs : List R) (Pd : R → Prop) (h : Ph_law_knot rs Pd) (hl : rs.length = 1) : w_law_knot { nx := fun _ _ => Pd (.d .none), rt := fun r κ => Opt (outR κ 0 r) Pd } (rs.map some ++ List.replicate 3 none) [] := by
  obtain ⟨a, b, ns, rfl, hn, k⟩ := h
  have i0 : ixD (.tuple (.str a :: .str b :: ns.map .str)) (.int 0) = some (.v (.str a)) := ixD_tuple (atI_nat (j := 0) rfl)
  have i1 : ixD (.tuple (.str a :: .str b :: ns.map .str)) (.int 1) = some (.v (.str b)) := ixD_tuple (atI_nat (j := 1) rfl)
  simp [w_law_knot, sizeLine_eq, i0, i1, cut_1, cut_2]
  refine law_knot_loop (r := [(a, b, 1)]) trivial ns b none none ?_ fun p2 p3 => ?_
  · show 3 * 2 ^ ns.length ≤ _
    have := Nat.pow_le_pow_right (n := 2) (by decide) hn
    rw [sizeLine_eq]
    omega
  · simp
    exact k
abbrev Ph_law_same := Ph_law_sameN 8
abbrev Ph_law_sameL := Ph_law_sameLN 8
theorem good_hook {a b : Str} {i : Int} {n : Nat} (ha : IsName a) (hb : IsName b) : GoodN (n + 2) (hookD (a, b, i)) :=
  ⟨by rw [sizeLine_eq]; show 3 ≤ 16777216; decide, fun x hx => by
    rcases List.mem_cons.mp hx with rfl | hx
    · exact ha.shaped
    rcases List.mem_cons.mp hx with rfl | hx
    · exact hb.shaped
    rw [List.mem_singleton.mp hx]
    trivial⟩
def RowOk (r : Row) : Prop := ∀ h ∈ r, IsName h.1 ∧ IsName h.2.1
theorem RowOk.back {r : Row} (h : RowOk r) : RowOk (back r) := fun x hx => by
  obtain ⟨y, hy, rfl⟩ := List.mem_map.mp hx
  exact h y (List.mem_reverse.mp hy)
theorem RowOk.step {r : Row} {l x : Str} (h : RowOk r) (hl : IsName l) (hx : IsName x) : RowOk (kstep r l x) := fun y hy => by
  unfold kstep at hy
  simp only [List.mem_append, List.mem_singleton] at hy
  rcases hy with ((hy | rfl) | hy) | rfl
  · exact h y hy
  · exact ⟨hl, hx⟩
  · exact h.back y hy
  · exact ⟨hl, hx⟩
theorem knotL_ok : ∀ (ns : List Str) (r : Row) (l : Str), RowOk r → IsName l → (∀ z ∈ ns, IsName z) → RowOk (knotL r l ns)
  | [], r, l, h, _, _ => h
  | x :: xs, r, l, h, hl, hn => knotL_ok xs _ x (h.step hl (hn x (List.mem_cons_self ..))) (hn x (List.mem_cons_self ..)) fun z hz => hn z (List.mem_cons_of_mem _ hz)
theorem knot_ok {a b : Str} {ns : List Str} (h : ∀ z ∈ a :: b :: ns, IsName z) : RowOk (knot (a :: b :: ns)) :=
  knotL_ok ns _ b (fun y hy => by rw [List.mem_singleton.mp hy]; exact ⟨h a (by simp), h b (by simp)⟩) (h b (by simp)) fun z hz => h z (by simp [hz])
theorem good_row {r : Row} {n : Nat} (h : RowOk r) (hl : r.length ≤ sizeLine) : GoodN (n + 3) (.list (r.map hookD)) :=
  ⟨by simpa using hl, fun x hx => by
    obtain ⟨y, hy, rfl⟩ := List.mem_map.mp hx
    exact good_hook (h y hy).1 (h y hy).2⟩
theorem for_each {ok : Kap → Prop} {g : DTG} {b : DTS} {E : DEnds} (Inv : Rho → Kap → Prop) (hok : ∀ κ, ok κ) : ∀ (xs : List PyData) (ρ : Rho) (κ : Kap), Inv ρ κ →
    (∀ x ∈ xs, ∀ ρ κ, Inv ρ κ → ∀ E' : DEnds, E'.rt = E.rt → E'.bk = E.nx → (∀ ρ' κ', Inv ρ' κ' → E'.nx ρ' κ') → (∀ ρ' κ', Inv ρ' κ' → E'.ct ρ' κ') → g (.d x) ρ κ fun ρ1 κ1 => b E' ρ1 κ1) →
    (∀ ρ κ, Inv ρ κ → E.nx ρ κ) → forL ok g b E xs ρ κ
  | [], ρ, κ, h, _, k => by rw [forL_nil]; exact k ρ κ h
  | x :: xs, ρ, κ, h, hb, k => by
    rw [forL_cons]
    exact hb x (List.mem_cons_self ..) ρ κ h _ rfl rfl (fun ρ' κ' h' => ⟨hok _, for_each Inv hok xs ρ' κ' h' (fun y hy => hb y (List.mem_cons_of_mem _ hy)) k⟩)
      (fun ρ' κ' h' => ⟨hok _, for_each Inv hok xs ρ' κ' h' (fun y hy => hb y (List.mem_cons_of_mem _ hy)) k⟩)
end SH
namespace K41
open PySem PySem.Spec PyProof.Rows L2 DL SH
def Ph_law_right (bs : List PyData) (rs : List R) (P : R → List PyData → Prop) : Prop := ∃ N : Int, Box N bs ∧ N ≤ 2 ^ 38 ∧ rs = [] ∧ ∀ bs', Box (N + 201) bs' → P (.d (.bool true)) bs'
def wb_right : DTS := (wSet false 3 (wBin addD (wBin mulD (wC (.int 2)) (wVar 3)) (wC (.int 2))))
/-- _law_right -/
def w_law_right : DTS := (wSeq (wSet false 1 (wCB tupC (wCons (wCallL Ph_law_names (wCons (wVar 0) (wCons (wBin addD (wC (.int 2)) (wCallL Ph_law_take (wCons (wVar 0) (wCons (wC (.int 7)) wNil)))) wNil))) wNil)))
  (wSeq (wPar 2 3 (wConsM false (wCall Ph_law_knot (wCons (wVar 1) wNil)) (wConsM false (wC (.int 1)) wNil)))
  (wSeq (wSet true 4 (wCall Ph_knot (wCons (wVar 1) wNil)))
  (wSeq (wIfS (wNot (wTru (wCallL Ph_law_sameL (wCons (wVar 4) (wCons (wVar 2) wNil))))) (wRet (wC (.bool false))) wNext)
  (wSeq (wFor (wRng1 (wCons (wBin subD (wCB lenD (wCons (wVar 1) wNil)) (wC (.int 2))) wNil)) (wName 5) wb_right)
  (wSeq (wDrop (wAppend (wVar 4) (wC (.str "more"))))
  (wRet (wAndV (wBin (eqD false) (wCB lenD (wCons (wVar 2) wNil)) (wVar 3)) (wCall Ph_law_same (wCons (wCallK Ph_knot [0] wNil (wCons (wVar 1) wNil)) (wCons (wVar 2) wNil)))))))))))
theorem right_loop {ok : Kap → Prop} {E : DEnds} {p0 p1 p2 p4 : Option R} {κ : Kap} (hok : ok κ) : ∀ (xs : List PyData) (i : Int) (p5 : Option R), (∀ p5, E.nx [p0, p1, p2, some (.d (.int ((i + 2) * 2 ^ xs.length - 2))), p4, p5] κ) →
    forL ok (wName 5) wb_right E xs [p0, p1, p2, some (.d (.int i)), p4, p5] κ
  | [], i, p5, k => by
    rw [forL_nil]
    have := k p5
    simp at this
    exact this
  | x :: xs, i, p5, k => by
    rw [forL_cons]
    simp [wb_right, mulD_int (i := 2) (.inl (by decide))]
    refine ⟨hok, right_loop hok xs _ _ fun p5 => ?_⟩
    have e : (2 * i + 2 + 2) * 2 ^ xs.length = (i + 2) * 2 ^ (x :: xs).length := by
      rw [List.length_cons, Int.pow_succ, Int.mul_comm (2 ^ xs.length) 2, ← Int.mul_assoc]
      congr 1
      omega
    rw [e]
    exact k _
theorem r_law_right (bs : List PyData) (rs : List R) (Pd : R → List PyData → Prop) (h : Ph_law_right bs rs Pd) (hl : rs.length = 0) : w_law_right { nx := fun _ κ => endL κ (.d .none) Pd, rt := fun r κ => endL κ r Pd } (some (.c 0) :: (rs.map some ++ List.replicate 5 none)) [.l bs] := by
  obtain ⟨N, hb, hN, rfl, k⟩ := h
  simp [w_law_right]
  refine ⟨N, 7, hb, by omega, rfl, by decide, by decide, fun r bs1 h0 h1 hb1 => ?_⟩
  simp
  refine ⟨N + 1, (2 + r).toNat, hb1, by omega, ?_, by omega, fun ns bs2 l1 hn hb2 => ?_⟩
  · have : ((2 + r).toNat : Int) = 2 + r := by omega
    rw [this]
  obtain ⟨a, b, ns, rfl⟩ : ∃ a b ns', ns = a :: b :: ns' := by
    match ns, l1 with
    | [], e => simp at e; omega
    | [_], e => simp at e; omega
    | a :: b :: ns, _ => exact ⟨a, b, ns, rfl⟩
  have l2 : ns.length ≤ 6 := by simp at l1; omega
  simp
  refine ⟨a, b, ns, rfl, by omega, ?_⟩
  refine ⟨a, b, ns, rfl, by omega, ?_⟩
  have ok1 : RowOk (knot (a :: b :: ns)) := knot_ok hn.1
  have ln1 : (knot (a :: b :: ns)).length + 2 = 3 * 2 ^ ns.length := knotL_len ns _ b
  have k3 : ∀ P : R → Prop, P (.f ((knot (a :: b :: ns)).map hookD)) → Ph_knot [R.d (PyData.tuple (PyData.str a :: PyData.str b :: List.map PyData.str ns))] P := fun P h => ⟨a, b, ns, rfl, by omega, h⟩
  have ln2 : (knot (a :: b :: ns)).length ≤ 190 := by
    have := Nat.pow_le_pow_right (n := 2) (by decide) l2
    omega
  generalize knot (a :: b :: ns) = r0 at ok1 ln1 k3 ln2 ⊢
  have g1 : GoodN 8 (.list (r0.map hookD)) := good_row ok1 (by rw [sizeLine_eq]; omega)
  simp
  refine ⟨rfl, g1, ?_⟩
  simp [truth]
  refine ⟨by omega, by omega, ?_⟩
  refine right_loop trivial _ 1 none fun p5 => ?_
  have e1 : ((↑ns.length + 1 + 1 - 2 : Int)).toNat = ns.length := by omega
  simp [e1]
  refine ⟨by rw [sizeLine_eq]; omega, ?_⟩
  have e2 : ((r0.length : Int)) = 3 * 2 ^ ns.length - 2 := by
    have : ((r0.length : Int) + 2) = 3 * 2 ^ ns.length := by exact_mod_cast ln1
    omega
  rw [e2, eqD_int]
  simp
  refine k3 _ ?_
  simp
  refine ⟨_, rfl, g1, ?_⟩
  exact k _ (hb2.mono (by omega))
def Ph_law (rs : List R) (P : R → Prop) : Prop := ∃ ns : List Int, rs = [.s ns] ∧ P (.d (.bool true))
def wb_law : DTS := (wSeq (wSet true 2 (wCall Ph_law_box (wCons (wVar 0) (wCons (wVar 1) wNil))))
  (wIfS (wOr (wNot (wTru (wCallL Ph_law_right (wCons (wVar 2) wNil)))) (wNot (wTru (wCallL Ph_law_right (wCons (wVar 2) wNil))))) (wRet (wC (.bool false))) wNext))
/-- law -/
def w_law : DTS := (wSeq (wFor (wRng1 (wCons (wCB max2D (wCons (wC (.int 1)) (wCons (wCB min2D (wCons (wC (.int 8)) (wCons (wLenS (wVar 0)) wNil))) wNil))) wNil)) (wName 1) wb_law)
  (wRet (wC (.bool true))))
theorem law_body {E : DEnds} {ns : List Int} {i : Nat} {p2 : Option R} {κ : Kap} (hi : i ≤ 1000) (k : ∀ p2 κ', E.nx [some (.s ns), some (.d (.int i)), p2] κ') : wb_law E [some (.s ns), some (.d (.int i)), p2] κ := by
  simp [wb_law]
  refine ⟨ns, i, rfl, by omega, by omega, fun bs hb => ?_⟩
  simp
  refine ⟨0, hb, by decide, rfl, fun bs1 hb1 => ?_⟩
  simp [truth]
  refine ⟨201, hb1.mono (by omega), by decide, rfl, fun bs2 hb2 => ?_⟩
  simp [truth]
  exact k _ _
theorem r_law (rs : List R) (Pd : R → Prop) (h : Ph_law rs Pd) (hl : rs.length = 1) : w_law { nx := fun _ _ => Pd (.d .none), rt := fun r κ => Opt (outR κ 0 r) Pd } (rs.map some ++ List.replicate 2 none) [] := by
  obtain ⟨ns, rfl, k⟩ := h
  simp [w_law]
  obtain ⟨n, hn, e⟩ : ∃ n : Nat, n ≤ 8 ∧ (if 1 < (if (ns.length : Int) < 8 then (ns.length : Int) else 8) then (if (ns.length : Int) < 8 then (ns.length : Int) else 8) else 1) = (n : Int) := by
    by_cases h1 : (ns.length : Int) < 8
    · rw [if_pos h1]
      by_cases h2 : (1 : Int) < (ns.length : Int)
      · rw [if_pos h2]; exact ⟨ns.length, by omega, rfl⟩
      · rw [if_neg h2]; exact ⟨1, by decide, rfl⟩
    · rw [if_neg h1]; exact ⟨8, by decide, rfl⟩
  rw [e]
  refine ⟨by omega, by omega, ?_⟩
  refine for_each (fun ρ κ => ∃ p1 p2, ρ = [some (.s ns), p1, p2]) (fun _ => trivial) _ _ _ ⟨_, _, rfl⟩ (fun x hx ρ κ h E' h1 h2 h3 h4 => ?_) (fun ρ κ h => ?_)
  · obtain ⟨p1, p2, rfl⟩ := h
    obtain ⟨i, hi, rfl⟩ := List.mem_map.mp hx
    have := List.mem_range.mp hi
    have l : i ≤ 1000 := by simp at this; omega
    exact law_body l fun p2 κ' => h3 _ _ ⟨_, _, rfl⟩
  · obtain ⟨p1, p2, rfl⟩ := h
    simp
    exact k
end K41
namespace K41
open PySem PySem.Spec PyProof.Rows L2 DL SH
def topS (i : Nat) : Stmt := PySem.Challenge.rw_drawnropes_k41_knots_as_told.prog.main.body.getD i (.Pass ⟨0, 0, 0, 0⟩)
structure Bn (mg : Str → Option Value) : Prop where
  reversed_ : mg "reversed" = none
  len_ : mg "len" = none
  abs_ : mg "abs" = none
  int_ : mg "int" = none
  isinstance_ : mg "isinstance" = none
  list_ : mg "list" = none
  tuple_ : mg "tuple" = none
  zip_ : mg "zip" = none
  all_ : mg "all" = none
  str_ : mg "str" = none
  bool_ : mg "bool" = none
  range_ : mg "range" = none
  sorted_ : mg "sorted" = none
  min_ : mg "min" = none
  max_ : mg "max" = none
section
variable {P : Program} {w : World} {K : PySem.W.Frag} {mg : Str → Option Value} {base : Heap}
abbrev s_turned : Stmt := topS 1
theorem sc_turned : FnScope ["hook", "one", "other", "sense"] ["hook"] (defScope s_turned) := ⟨rfl, rfl, rfl, by decide +kernel, rfl, by decide +kernel, by decide +kernel⟩
theorem d_turned {f : Addr} {cdv : Value} {A : Around} {outer : List Env} {s : Shared} {H : Hp} {E : XK} {k : Nat} (hr : Room k (A.deeper (envOfC "turned" (defScope s_turned) s.heap.objs.size f cdv))) (B : Bn mg) :
    DSs (cxOf CX0 P w K mg base ["hook", "one", "other", "sense"] "turned" (defScope s_turned) f cdv A outer s H E).nox (defBody s_turned) w_turned := by
  have nd : (["hook", "one", "other", "sense"] : List Str).Nodup := sc_turned.nd
  exact (dss_cons (ds_asg (de_var 0) (dg_tup rfl (dgs_cons (dg_name 1 nd) (dgs_cons (dg_name 2 nd) (dgs_cons (dg_name 3 nd) dgs_nil)))))
      (dss_one (ds_ret (de_tup (da_cons (de_var 1) (da_cons (de_var 2) (da_cons (de_un un_neg neg_ok (de_var 3)) da_nil)))))))

abbrev s_back : Stmt := topS 2
theorem sc_back : FnScope ["row", "hook"] ["row"] (defScope s_back) := ⟨rfl, rfl, rfl, by decide +kernel, rfl, by decide +kernel, by decide +kernel⟩
theorem d_back {f : Addr} {cdv : Value} {A : Around} {outer : List Env} {s : Shared} {H : Hp} {E : XK} {k : Nat} (hr : Room k (A.deeper (envOfC "back" (defScope s_back) s.heap.objs.size f cdv))) (B : Bn mg) (C_turned : Cal P w K mg base "turned" k ["hook"] (spD K 1 Ph_turned)) :
    DSs (cxOf CX0 P w K mg base ["row", "hook"] "back" (defScope s_back) f cdv A outer s H E).nox (defBody s_back) w_back := by
  have nd : (["row", "hook"] : List Str).Nodup := sc_back.nd
  exact (dss_one (ds_ret (de_lc (own := [("hook", 1)]) rfl nd (di_rev B.reversed_ (da_cons (de_var 0) da_nil)) (blkOk_by (by kernel_rfl)) (fun _ => (dg_name 1 nd)) (fun _ => dts_nil) (fun _ => (de_callC C_turned hr rfl (da_cons (de_var 1) da_nil))))))

abbrev s_knot : Stmt := topS 5
theorem sc_knot : FnScope ["ropes", "first", "last", "others", "found", "rope", "hook"] ["ropes"] (defScope s_knot) := ⟨rfl, rfl, rfl, by decide +kernel, rfl, by decide +kernel, by decide +kernel⟩
theorem d_knot {f : Addr} {cdv : Value} {A : Around} {outer : List Env} {s : Shared} {H : Hp} {E : XK} {k : Nat} (hr : Room k (A.deeper (envOfC "knot" (defScope s_knot) s.heap.objs.size f cdv))) (B : Bn mg) {t_RIGHT : Tok} (K_RIGHT : mg "RIGHT" = some (.int (1) t_RIGHT)) (C_back : Cal P w K mg base "back" k ["row"] (spD K 1 Ph_back)) (C_turned : Cal P w K mg base "turned" k ["hook"] (spD K 1 Ph_turned)) :
    DSs (cxOf CX0 P w K mg base ["ropes", "first", "last", "others", "found", "rope", "hook"] "knot" (defScope s_knot) f cdv A outer s H E).nox (defBody s_knot) w_knot := by
  have nd : (["ropes", "first", "last", "others", "found", "rope", "hook"] : List Str).Nodup := sc_knot.nd
  exact (dss_cons (ds_asg (de_var 0) (dg_star rfl (dgs_cons (dg_name 1 nd) (dgs_cons (dg_name 2 nd) (dgs_star (dg_name 3 nd) dgs_nil)))))
      (dss_cons (ds_set true 4 nd (de_lst (da_cons (de_tup (da_cons (de_var 1) (da_cons (de_var 2) (da_cons (de_globI K_RIGHT) da_nil)))) da_nil)))
      (dss_cons (ds_for PassesOwn.never rfl (di_seq (de_var 3)) (dg_name 5 nd) (dss_cons (ds_set false 6 nd (de_tup (da_cons (de_var 2) (da_cons (de_var 5) (da_cons (de_globI K_RIGHT) da_nil)))))
      (dss_cons (ds_set true 4 nd (de_op op_addD add_ok (de_op op_addD add_ok (de_op op_addD add_ok (de_var 4) (de_lst (da_cons (de_var 6) da_nil))) (de_callC C_back hr rfl (da_cons (de_var 4) da_nil))) (de_lst (da_cons (de_callC C_turned hr rfl (da_cons (de_var 6) da_nil)) da_nil))))
      (dss_one (ds_set false 2 nd (de_var 5))))))
      (dss_one (ds_ret (de_var 4))))))

abbrev s_law_box : Stmt := topS 7
theorem sc_law_box : FnScope ["_law_script", "_law_k", "_law_cell"] ["_law_script", "_law_k"] (defScope s_law_box) := ⟨rfl, rfl, rfl, by decide +kernel, rfl, by decide +kernel, by decide +kernel⟩
theorem d_law_box {f : Addr} {cdv : Value} {A : Around} {outer : List Env} {s : Shared} {H : Hp} {E : XK} {k : Nat} (hr : Room k (A.deeper (envOfC "_law_box" (defScope s_law_box) s.heap.objs.size f cdv))) (B : Bn mg) :
    DSs (cxOf CX0 P w K mg base ["_law_script", "_law_k", "_law_cell"] "_law_box" (defScope s_law_box) f cdv A outer s H E).nox (defBody s_law_box) w_law_box := by
  have nd : (["_law_script", "_law_k", "_law_cell"] : List Str).Nodup := sc_law_box.nd
  exact (dss_cons (ds_set false 2 nd de_int)
      (dss_cons (ds_if (dt_cmp op_ltD ord_ok (de_var 1) (de_lenS B.len_ (de_var 0)) (nomark _)) (dss_one (ds_set false 2 nd (de_scr (de_var 0) (de_var 1) (fun _ _ => rfl)))) dss_nil)
      (dss_one (ds_ret (de_lst (da_cons (de_op op_mulD mul_ok (de_callB call_abs abs_ok B.abs_ (da_cons (de_var 2) da_nil)) (de_callTy call_int1 intC_ok B.int_ (da_cons (de_cmp op_geI ci_ok (de_callB call_abs abs_ok B.abs_ (da_cons (de_var 2) da_nil)) (de_op op_pow pow_ok de_int de_int) (nomark _)) da_nil))) (da_cons (de_op op_addD add_ok (de_op op_addD add_ok (de_op op_mod mod_ok (de_var 2) de_int) (de_op op_mulD mul_ok de_int (de_var 1))) de_int) (da_cons de_int da_nil))))))))

abbrev s_law_take : Stmt := topS 8
theorem sc_law_take : FnScope ["_law_box_here", "_law_bound", "_law_found", "_law_once"] ["_law_box_here", "_law_bound"] (defScope s_law_take) := ⟨rfl, rfl, rfl, by decide +kernel, rfl, by decide +kernel, by decide +kernel⟩
theorem d_law_take {f : Addr} {cdv : Value} {A : Around} {outer : List Env} {s : Shared} {H : Hp} {E : XK} {k : Nat} (hr : Room k (A.deeper (envOfC "_law_take" (defScope s_law_take) s.heap.objs.size f cdv))) (B : Bn mg) :
    DSs (cxOf CX0 P w K mg base ["_law_box_here", "_law_bound", "_law_found", "_law_once"] "_law_take" (defScope s_law_take) f cdv A outer s H E).nox (defBody s_law_take) w_law_take := by
  have nd : (["_law_box_here", "_law_bound", "_law_found", "_law_once"] : List Str).Nodup := sc_law_take.nd
  exact (dss_cons (ds_if (dt_cmp op_gtI ci_ok (de_ix ix_seq ix_ok (de_var 0) de_int (fun _ _ => rfl)) de_int (nomark _)) (dss_cons (ds_set false 2 nd (de_op op_mod mod_ok (de_ix ix_seq ix_ok (de_var 0) de_int (fun _ _ => rfl)) (de_var 1)))
      (dss_cons (ds_asg (de_op op_fdiv fdiv_ok (de_ix ix_seq ix_ok (de_var 0) de_int (fun _ _ => rfl)) (de_var 1)) (dg_sub (de_var 0) de_int))
      (dss_one (ds_ret (de_var 2))))) dss_nil)
      (dss_cons (ds_asg (de_op op_addD add_ok (de_ix ix_seq ix_ok (de_var 0) de_int (fun _ _ => rfl)) de_int) (dg_sub (de_var 0) de_int))
      (dss_cons (ds_set false 3 nd (de_op op_mod mod_ok (de_op op_pow pow_ok (de_op op_addD add_ok (de_ix ix_seq ix_ok (de_var 0) de_int (fun _ _ => rfl)) (de_op op_mulD mul_ok de_int (de_ix ix_seq ix_ok (de_var 0) de_int (fun _ _ => rfl)))) de_int) de_int))
      (dss_one (ds_ret (de_op op_mod mod_ok (de_op op_fdiv fdiv_ok (de_op op_mod mod_ok (de_op op_addD add_ok (de_op op_mulD mul_ok (de_var 3) (de_op op_addD add_ok (de_op op_mod mod_ok (de_var 3) de_int) de_int)) (de_op op_mulD mul_ok (de_ix ix_seq ix_ok (de_var 0) de_int (fun _ _ => rfl)) de_int)) de_int) de_int) (de_var 1)))))))

abbrev s_law_same : Stmt := topS 9
theorem sc_law_same : FnScope ["_law_found", "_law_due", "_law_one", "_law_two"] ["_law_found", "_law_due"] (defScope s_law_same) := ⟨rfl, rfl, rfl, by decide +kernel, rfl, by decide +kernel, by decide +kernel⟩
theorem d_law_same {f : Addr} {cdv : Value} {A : Around} {outer : List Env} {s : Shared} {H : Hp} {E : XK} {k : Nat} (hr : Room k (A.deeper (envOfC "_law_same" (defScope s_law_same) s.heap.objs.size f cdv))) (B : Bn mg) {Ph_law_same : List R → (R → Prop) → Prop} (C_law_same : Cal P w K mg base "_law_same" k ["_law_found", "_law_due"] (spD K 2 Ph_law_same)) :
    DSs (cxOf CX0 P w K mg base ["_law_found", "_law_due", "_law_one", "_law_two"] "_law_same" (defScope s_law_same) f cdv A outer s H E).nox (defBody s_law_same) (w_law_same Ph_law_same) := by
  have nd : (["_law_found", "_law_due", "_law_one", "_law_two"] : List Str).Nodup := sc_law_same.nd
  exact (dss_cons (ds_if (dt_tru (de_isi2 .list .tuple B.isinstance_ B.list_ B.tuple_ (de_var 1))) (dss_cons (ds_if (dw_pt (dw_or (dt_cmp (op_neD hr.units) ne_ok (de_isi .list B.isinstance_ B.list_ (de_var 0)) (de_isi .list B.isinstance_ B.list_ (de_var 1)) (nomark _)) (dw_or1 (dt_cmp (op_neD hr.units) ne_ok (de_isi .tuple B.isinstance_ B.tuple_ (de_var 0)) (de_isi .tuple B.isinstance_ B.tuple_ (de_var 1)) (nomark _))))) (dss_one (ds_ret de_bl)) dss_nil)
      (dss_one (ds_ret (de_and (de_cmp (op_eqD hr.units) eq_ok (de_callB call_len len_ok B.len_ (da_cons (de_var 0) da_nil)) (de_callB call_len len_ok B.len_ (da_cons (de_var 1) da_nil)) (nomark _)) (de_one (de_callB (cr_all rfl) allC_ok B.all_ (da_cons (de_lc (own := [("_law_one", 2), ("_law_two", 3)]) rfl nd (di_zip B.zip_ (da_cons (de_var 0) (da_cons (de_var 1) da_nil))) (blkOk_by (by kernel_rfl)) (fun _ => (dg_tup rfl (dgs_cons (dg_name 2 nd) (dgs_cons (dg_name 3 nd) dgs_nil)))) (fun _ => dts_nil) (fun _ => (de_callC C_law_same hr rfl (da_cons (de_var 2) (da_cons (de_var 3) da_nil))))) da_nil))))))) dss_nil)
      (dss_cons (ds_if (dw_pt (dw_or (dt_cmp op_isND isN_ok (de_var 1) de_non (nomark _)) (dw_or1 (dt_tru (de_isi .str B.isinstance_ B.str_ (de_var 1)))))) (dss_one (ds_ret (de_and (de_cmp (op_eqD hr.units) eq_ok (de_var 0) (de_var 1) (nomark _)) (de_one (de_cmp (op_eqD hr.units) eq_ok (de_isi .str B.isinstance_ B.str_ (de_var 0)) (de_isi .str B.isinstance_ B.str_ (de_var 1)) (nomark _)))))) dss_nil)
      (dss_one (ds_ret (de_and (de_isi .int B.isinstance_ B.int_ (de_var 0)) (de_and (de_cmp (op_eqD hr.units) eq_ok (de_isi .bool B.isinstance_ B.bool_ (de_var 0)) (de_isi .bool B.isinstance_ B.bool_ (de_var 1)) (nomark _)) (de_one (de_cmp (op_eqD hr.units) eq_ok (de_var 0) (de_var 1) (nomark _)))))))))

abbrev s_law_names : Stmt := topS 10
theorem sc_law_names : FnScope ["_law_box_here", "_law_many", "_law_letters", "_law_found", "_law_k", "_law_name", "_law_j", "_law_one", "_law_sign"] ["_law_box_here", "_law_many"] (defScope s_law_names) := ⟨rfl, rfl, rfl, by decide +kernel, rfl, by decide +kernel, by decide +kernel⟩
theorem d_law_names {f : Addr} {cdv : Value} {A : Around} {outer : List Env} {s : Shared} {H : Hp} {E : XK} {k : Nat} (hr : Room k (A.deeper (envOfC "_law_names" (defScope s_law_names) s.heap.objs.size f cdv))) (B : Bn mg) (C_law_take : Cal P w K mg base "_law_take" k ["_law_box_here", "_law_bound"] (spL K 2 Ph_law_take)) :
    DSs (cxOf CX0 P w K mg base ["_law_box_here", "_law_many", "_law_letters", "_law_found", "_law_k", "_law_name", "_law_j", "_law_one", "_law_sign"] "_law_names" (defScope s_law_names) f cdv A outer s H E).nox (defBody s_law_names) w_law_names := by
  have nd : (["_law_box_here", "_law_many", "_law_letters", "_law_found", "_law_k", "_law_name", "_law_j", "_law_one", "_law_sign"] : List Str).Nodup := sc_law_names.nd
  exact (dss_cons (ds_tt 2 3 rfl nd (da_consM false de_str (da_consM true (de_lst da_nil) da_nil)))
      (dss_cons (ds_for PassesOwn.never rfl (di_range1 B.range_ (da_cons (de_var 1) da_nil)) (dg_name 4 nd) (dss_cons (ds_set false 5 nd (de_bm PySem.F.plainAttrs_str PySem.F.slot_str_join PySem.F.type_str_join mt_join joinC_ok de_str (da_cons (de_lc (own := [("_law_j", 6)]) rfl nd (di_range1 B.range_ (da_cons (de_ix ix_seq ix_ok (de_lst (da_cons de_int (da_cons de_int (da_cons de_int (da_cons de_int da_nil))))) (de_callC_L C_law_take hr rfl (da_cons (de_var 0) (da_cons de_int da_nil))) (fun _ _ => rfl)) da_nil)) (blkOk_by (by kernel_rfl)) (fun _ => (dg_name 6 nd)) (fun _ => dts_nil) (fun _ => (de_ix ix_seq ix_ok (de_var 2) (de_callC_L C_law_take hr rfl (da_cons (de_var 0) (da_cons de_int da_nil))) (fun _ _ => rfl)))) da_nil)))
      (dss_one (ds_expr (de_append (de_var 3) (de_ix ix_seq ix_ok (de_lc (own := [("_law_one", 7)]) rfl nd (di_seq (de_op op_addD add_ok (de_lst (da_cons (de_var 5) da_nil)) (de_lc (own := [("_law_sign", 8)]) rfl nd (di_seq (de_var 2)) (blkOk_by (by kernel_rfl)) (fun _ => (dg_name 8 nd)) (fun _ => dts_nil) (fun _ => (de_op op_addD add_ok (de_sl (de_var 5) do_none (do_some de_int)) (de_var 8)))))) (blkOk_by (by kernel_rfl)) (fun _ => (dg_name 7 nd)) (fun _ => (dts_one (dt_cmp (op_notInA (room65 hr)) in_ok (de_var 7) (de_var 3) (by rfl)))) (fun _ => (de_var 7))) de_int (fun _ _ => rfl)))))))
      (dss_one (ds_ret (de_callB (cr_sortD (room80 hr)) sortC_ok B.sorted_ (da_cons (de_var 3) da_nil))))))

abbrev s_law_back : Stmt := topS 11
theorem sc_law_back : FnScope ["_law_strand", "_law_one", "_law_twin", "_law_sense"] ["_law_strand"] (defScope s_law_back) := ⟨rfl, rfl, rfl, by decide +kernel, rfl, by decide +kernel, by decide +kernel⟩
theorem d_law_back {f : Addr} {cdv : Value} {A : Around} {outer : List Env} {s : Shared} {H : Hp} {E : XK} {k : Nat} (hr : Room k (A.deeper (envOfC "_law_back" (defScope s_law_back) s.heap.objs.size f cdv))) (B : Bn mg) :
    DSs (cxOf CX0 P w K mg base ["_law_strand", "_law_one", "_law_twin", "_law_sense"] "_law_back" (defScope s_law_back) f cdv A outer s H E).nox (defBody s_law_back) w_law_back := by
  have nd : (["_law_strand", "_law_one", "_law_twin", "_law_sense"] : List Str).Nodup := sc_law_back.nd
  exact (dss_one (ds_ret (de_lc (own := [("_law_one", 1), ("_law_twin", 2), ("_law_sense", 3)]) rfl nd (di_seq (de_revS (de_var 0))) (blkOk_by (by kernel_rfl)) (fun _ => (dg_tup rfl (dgs_cons (dg_name 1 nd) (dgs_cons (dg_name 2 nd) (dgs_cons (dg_name 3 nd) dgs_nil))))) (fun _ => dts_nil) (fun _ => (de_tup (da_cons (de_var 1) (da_cons (de_var 2) (da_cons (de_un un_neg neg_ok (de_var 3)) da_nil))))))))

abbrev s_law_knot : Stmt := topS 12
theorem sc_law_knot : FnScope ["_law_names_here", "_law_found", "_law_one", "_law_twin"] ["_law_names_here"] (defScope s_law_knot) := ⟨rfl, rfl, rfl, by decide +kernel, rfl, by decide +kernel, by decide +kernel⟩
theorem d_law_knot {f : Addr} {cdv : Value} {A : Around} {outer : List Env} {s : Shared} {H : Hp} {E : XK} {k : Nat} (hr : Room k (A.deeper (envOfC "_law_knot" (defScope s_law_knot) s.heap.objs.size f cdv))) (B : Bn mg) (C_law_back : Cal P w K mg base "_law_back" k ["_law_strand"] (spD K 1 Ph_law_back)) :
    DSs (cxOf CX0 P w K mg base ["_law_names_here", "_law_found", "_law_one", "_law_twin"] "_law_knot" (defScope s_law_knot) f cdv A outer s H E).nox (defBody s_law_knot) w_law_knot := by
  have nd : (["_law_names_here", "_law_found", "_law_one", "_law_twin"] : List Str).Nodup := sc_law_knot.nd
  exact (dss_cons (ds_set false 1 nd (de_lst (da_cons (de_tup (da_cons (de_ix ix_seq ix_ok (de_var 0) de_int (fun _ _ => rfl)) (da_cons (de_ix ix_seq ix_ok (de_var 0) de_int (fun _ _ => rfl)) (da_cons de_int da_nil)))) da_nil)))
      (dss_cons (ds_for PassesOwn.never rfl (di_zip B.zip_ (da_cons (de_sl (de_var 0) (do_some de_int) do_none) (da_cons (de_sl (de_var 0) (do_some de_int) do_none) da_nil))) (dg_tup rfl (dgs_cons (dg_name 2 nd) (dgs_cons (dg_name 3 nd) dgs_nil))) (dss_one (ds_set false 1 nd (de_op op_addD add_ok (de_op op_addD add_ok (de_op op_addD add_ok (de_var 1) (de_lst (da_cons (de_tup (da_cons (de_var 2) (da_cons (de_var 3) (da_cons de_int da_nil)))) da_nil))) (de_callC C_law_back hr rfl (da_cons (de_var 1) da_nil))) (de_lst (da_cons (de_tup (da_cons (de_var 2) (da_cons (de_var 3) (da_cons (de_un un_neg neg_ok de_int) da_nil)))) da_nil))))))
      (dss_one (ds_ret (de_var 1)))))

abbrev s_law_right : Stmt := topS 13
theorem sc_law_right : FnScope ["_law_box_here", "_law_names_here", "_law_due", "_law_many", "_law_found", "_law_turn"] ["_law_box_here"] (defScope s_law_right) := ⟨rfl, rfl, rfl, by decide +kernel, rfl, by decide +kernel, by decide +kernel⟩
theorem d_law_right {f : Addr} {cdv : Value} {A : Around} {outer : List Env} {s : Shared} {H : Hp} {E : XK} {k : Nat} (hr : Room k (A.deeper (envOfC "_law_right" (defScope s_law_right) s.heap.objs.size f cdv))) (B : Bn mg) (C_law_take : Cal P w K mg base "_law_take" k ["_law_box_here", "_law_bound"] (spL K 2 Ph_law_take)) (C_law_names : Cal P w K mg base "_law_names" k ["_law_box_here", "_law_many"] (spL K 2 Ph_law_names)) (C_law_knot : Cal P w K mg base "_law_knot" k ["_law_names_here"] (spD K 1 Ph_law_knot)) (C_knot : Cal P w K mg base "knot" k ["ropes"] (spD K 1 Ph_knot)) (C_law_same : Cal P w K mg base "_law_same" k ["_law_found", "_law_due"] (spD K 2 Ph_law_same)) (K_knot_0_ropes : CalK P w K mg base "knot" k ["ropes"] 0 ["ropes"] [0] (spD K 1 Ph_knot)) (C_law_sameL : Cal P w K mg base "_law_same" k ["_law_found", "_law_due"] (spL K 2 Ph_law_sameL)) :
    DSs (cxOf CX0 P w K mg base ["_law_box_here", "_law_names_here", "_law_due", "_law_many", "_law_found", "_law_turn"] "_law_right" (defScope s_law_right) f cdv A outer s H E).nox (defBody s_law_right) w_law_right := by
  have nd : (["_law_box_here", "_law_names_here", "_law_due", "_law_many", "_law_found", "_law_turn"] : List Str).Nodup := sc_law_right.nd
  exact (dss_cons (ds_set false 1 nd (de_callTy call_tuple_of tupC_ok B.tuple_ (da_cons (de_callC_L C_law_names hr rfl (da_cons (de_var 0) (da_cons (de_op op_addD add_ok de_int (de_callC_L C_law_take hr rfl (da_cons (de_var 0) (da_cons de_int da_nil)))) da_nil))) da_nil)))
      (dss_cons (ds_par 2 3 rfl nd (da_consM false (de_callC C_law_knot hr rfl (da_cons (de_var 1) da_nil)) (da_consM false de_int da_nil)))
      (dss_cons (ds_set true 4 nd (de_callC C_knot hr rfl (da_cons (de_var 1) da_nil)))
      (dss_cons (ds_if (dt_not (dt_tru (de_callC_L C_law_sameL hr rfl (da_cons (de_var 4) (da_cons (de_var 2) da_nil))))) (dss_one (ds_ret de_bl)) dss_nil)
      (dss_cons (ds_for PassesOwn.never rfl (di_range1 B.range_ (da_cons (de_op op_sub sub_ok (de_callB call_len len_ok B.len_ (da_cons (de_var 1) da_nil)) de_int) da_nil)) (dg_name 5 nd) (dss_one (ds_set false 3 nd (de_op op_addD add_ok (de_op op_mulD mul_ok de_int (de_var 3)) de_int))))
      (dss_cons (ds_expr (de_append (de_var 4) de_str))
      (dss_one (ds_ret (de_and (de_cmp (op_eqD hr.units) eq_ok (de_callB call_len len_ok B.len_ (da_cons (de_var 2) da_nil)) (de_var 3) (nomark _)) (de_one (de_callC C_law_same hr rfl (da_cons (de_callK0 K_knot_0_ropes hr rfl (dk_cons (de_var 1) dk_nil) (fun xs hx => match xs, hx with | [_], _ => rfl)) (da_cons (de_var 2) da_nil)))))))))))))

abbrev s_law : Stmt := topS 14
theorem sc_law : FnScope ["_law_script", "_law_k", "_law_box_here"] ["_law_script"] (defScope s_law) := ⟨rfl, rfl, rfl, by decide +kernel, rfl, by decide +kernel, by decide +kernel⟩
theorem d_law {f : Addr} {cdv : Value} {A : Around} {outer : List Env} {s : Shared} {H : Hp} {E : XK} {k : Nat} (hr : Room k (A.deeper (envOfC "law" (defScope s_law) s.heap.objs.size f cdv))) (B : Bn mg) (C_law_box : Cal P w K mg base "_law_box" k ["_law_script", "_law_k"] (spD K 2 Ph_law_box)) (C_law_right : Cal P w K mg base "_law_right" k ["_law_box_here"] (spL K 1 Ph_law_right)) :
    DSs (cxOf CX0 P w K mg base ["_law_script", "_law_k", "_law_box_here"] "law" (defScope s_law) f cdv A outer s H E).nox (defBody s_law) w_law := by
  have nd : (["_law_script", "_law_k", "_law_box_here"] : List Str).Nodup := sc_law.nd
  exact (dss_cons (ds_for PassesOwn.never rfl (di_range1 B.range_ (da_cons (de_callB (call_max2 rfl) max2_ok B.max_ (da_cons de_int (da_cons (de_callB (call_min2 rfl) min2_ok B.min_ (da_cons de_int (da_cons (de_lenS B.len_ (de_var 0)) da_nil))) da_nil))) da_nil)) (dg_name 1 nd) (dss_cons (ds_set true 2 nd (de_callC C_law_box hr rfl (da_cons (de_var 0) (da_cons (de_var 1) da_nil))))
      (dss_one (ds_if (dw_pt (dw_or (dt_not (dt_tru (de_callC_L C_law_right hr rfl (da_cons (de_var 2) da_nil)))) (dw_or1 (dt_not (dt_tru (de_callC_L C_law_right hr rfl (da_cons (de_var 2) da_nil))))))) (dss_one (ds_ret de_bl)) dss_nil))))
      (dss_one (ds_ret de_bl)))
theorem ok_turned {f : Addr} {fd : FuncData} {k : Nat} (F : Fun K "turned" "turned" s_turned f fd) (B : Bn mg) : FnOk P w K mg base CX0 (k + 1) f fd ["hook"] (spD K 1 Ph_turned) :=
  dfn F sc_turned fun cdv A outer s H E hr => ⟨_, d_turned hr B, r_turned⟩

theorem ok_back {f : Addr} {fd : FuncData} {k : Nat} (F : Fun K "back" "back" s_back f fd) (B : Bn mg) (C_turned : Cal P w K mg base "turned" k ["hook"] (spD K 1 Ph_turned)) : FnOk P w K mg base CX0 (k + 1) f fd ["row"] (spD K 1 Ph_back) :=
  dfn F sc_back fun cdv A outer s H E hr => ⟨_, d_back hr B C_turned, r_back⟩

theorem ok_knot {f : Addr} {fd : FuncData} {k : Nat} (F : Fun K "knot" "knot" s_knot f fd) (B : Bn mg) {t_RIGHT : Tok} (K_RIGHT : mg "RIGHT" = some (.int (1) t_RIGHT)) (C_back : Cal P w K mg base "back" k ["row"] (spD K 1 Ph_back)) (C_turned : Cal P w K mg base "turned" k ["hook"] (spD K 1 Ph_turned)) : FnOk P w K mg base CX0 (k + 1) f fd ["ropes"] (spD K 1 Ph_knot) :=
  dfn F sc_knot fun cdv A outer s H E hr => ⟨_, d_knot hr B K_RIGHT C_back C_turned, r_knot⟩

theorem ok_law_box {f : Addr} {fd : FuncData} {k : Nat} (F : Fun K "_law_box" "_law_box" s_law_box f fd) (B : Bn mg) : FnOk P w K mg base CX0 (k + 1) f fd ["_law_script", "_law_k"] (spD K 2 Ph_law_box) :=
  dfn F sc_law_box fun cdv A outer s H E hr => ⟨_, d_law_box hr B, r_law_box⟩

theorem ok_law_take {f : Addr} {fd : FuncData} {k : Nat} (F : Fun K "_law_take" "_law_take" s_law_take f fd) (B : Bn mg) : FnOk P w K mg base CX0 (k + 1) f fd ["_law_box_here", "_law_bound"] (spL K 2 Ph_law_take) :=
  dfnL F sc_law_take rfl fun cdv A outer s H E hr => ⟨_, d_law_take hr B, r_law_take⟩

theorem no_law_same {vs : List V} {H : Hp} {Q : VK} {E : XK} (h : spD K 2 (Ph_law_sameN 0) vs H Q E) : False := by
  obtain ⟨_, G, rs, P, _, _, h, _⟩ := h
  exact n_law_same h

theorem ok_law_same {f : Addr} {fd : FuncData} {k : Nat} (F : Fun K "_law_same" "_law_same" s_law_same f fd) (B : Bn mg) (hm : mg "_law_same" = some (.ref f)) (hk : PySem.W.keepIn K (.ref f) = true) (hb : Binds K fd ["_law_found", "_law_due"] []) : ∀ n : Nat, FnOk P w K mg base CX0 (k + n) f fd ["_law_found", "_law_due"] (spD K 2 (Ph_law_sameN n))
  | 0 => ⟨fun vs H Q E h => h.1, fun A outer s H as us vs Q E hr he hb hv hs => (no_law_same hs).elim⟩
  | n + 1 => dfn F sc_law_same fun cdv A outer s H E hr => ⟨_, d_law_same hr B ⟨_, _, ok_law_same F B hm hk hb n, hm, hk, hb⟩, r_law_same n⟩

theorem ok_law_sameL {f : Addr} {fd : FuncData} {k : Nat} (F : Fun K "_law_same" "_law_same" s_law_same f fd) (B : Bn mg) {n : Nat} (C : Cal P w K mg base "_law_same" k ["_law_found", "_law_due"] (spD K 2 (Ph_law_sameN n))) : FnOk P w K mg base CX0 (k + 1) f fd ["_law_found", "_law_due"] (spL K 2 (Ph_law_sameLN (n + 1))) :=
  dfnL F sc_law_same rfl fun cdv A outer s H E hr => ⟨_, d_law_same hr B C, r_law_sameL n⟩

theorem ok_law_names {f : Addr} {fd : FuncData} {k : Nat} (F : Fun K "_law_names" "_law_names" s_law_names f fd) (B : Bn mg) (C_law_take : Cal P w K mg base "_law_take" k ["_law_box_here", "_law_bound"] (spL K 2 Ph_law_take)) : FnOk P w K mg base CX0 (k + 1) f fd ["_law_box_here", "_law_many"] (spL K 2 Ph_law_names) :=
  dfnL F sc_law_names rfl fun cdv A outer s H E hr => ⟨_, d_law_names hr B C_law_take, r_law_names⟩

theorem ok_law_back {f : Addr} {fd : FuncData} {k : Nat} (F : Fun K "_law_back" "_law_back" s_law_back f fd) (B : Bn mg) : FnOk P w K mg base CX0 (k + 1) f fd ["_law_strand"] (spD K 1 Ph_law_back) :=
  dfn F sc_law_back fun cdv A outer s H E hr => ⟨_, d_law_back hr B, r_law_back⟩

theorem ok_law_knot {f : Addr} {fd : FuncData} {k : Nat} (F : Fun K "_law_knot" "_law_knot" s_law_knot f fd) (B : Bn mg) (C_law_back : Cal P w K mg base "_law_back" k ["_law_strand"] (spD K 1 Ph_law_back)) : FnOk P w K mg base CX0 (k + 1) f fd ["_law_names_here"] (spD K 1 Ph_law_knot) :=
  dfn F sc_law_knot fun cdv A outer s H E hr => ⟨_, d_law_knot hr B C_law_back, r_law_knot⟩

theorem ok_law_right {f : Addr} {fd : FuncData} {k : Nat} (F : Fun K "_law_right" "_law_right" s_law_right f fd) (B : Bn mg) (C_law_take : Cal P w K mg base "_law_take" k ["_law_box_here", "_law_bound"] (spL K 2 Ph_law_take)) (C_law_names : Cal P w K mg base "_law_names" k ["_law_box_here", "_law_many"] (spL K 2 Ph_law_names)) (C_law_knot : Cal P w K mg base "_law_knot" k ["_law_names_here"] (spD K 1 Ph_law_knot)) (C_knot : Cal P w K mg base "knot" k ["ropes"] (spD K 1 Ph_knot)) (C_law_same : Cal P w K mg base "_law_same" k ["_law_found", "_law_due"] (spD K 2 Ph_law_same)) (K_knot_0_ropes : CalK P w K mg base "knot" k ["ropes"] 0 ["ropes"] [0] (spD K 1 Ph_knot)) (C_law_sameL : Cal P w K mg base "_law_same" k ["_law_found", "_law_due"] (spL K 2 Ph_law_sameL)) : FnOk P w K mg base CX0 (k + 1) f fd ["_law_box_here"] (spL K 1 Ph_law_right) :=
  dfnL F sc_law_right rfl fun cdv A outer s H E hr => ⟨_, d_law_right hr B C_law_take C_law_names C_law_knot C_knot C_law_same K_knot_0_ropes C_law_sameL, r_law_right⟩

theorem ok_law {f : Addr} {fd : FuncData} {k : Nat} (F : Fun K "law" "law" s_law f fd) (B : Bn mg) (C_law_box : Cal P w K mg base "_law_box" k ["_law_script", "_law_k"] (spD K 2 Ph_law_box)) (C_law_right : Cal P w K mg base "_law_right" k ["_law_box_here"] (spL K 1 Ph_law_right)) : FnOk P w K mg base CX0 (k + 1) f fd ["_law_script"] (spD K 1 Ph_law) :=
  dfn F sc_law fun cdv A outer s H E hr => ⟨_, d_law hr B C_law_box C_law_right, r_law⟩
end
theorem all_mk {l : PySem.W.OpenLaw} {w : World} {K : PySem.W.Frag} {h : Heap} {mg : Str → Option Value} {fa f1 f2 f3 f4 f5 f6 f7 f8 f9 f10 f11 : Addr} (X : K.In h) (G : h.Ns mainGlobals mg) (hfa : mg "law" = some (.ref fa))
    {od1 an1 od2 an2 od3 an3 od4 an4 od5 an5 od6 an6 od7 an7 od8 an8 od9 an9 od10 an10 od11 an11 : Option Addr} {sl1 sl2 sl3 sl4 sl5 sl6 sl7 sl8 sl9 sl10 sl11 : Array (Option Value)} {oc1 kV1 dc1 pm1 cd1 ct1 oc2 kV2 dc2 pm2 cd2 ct2 oc3 kV3 dc3 pm3 cd3 ct3 oc4 kV4 dc4 pm4 cd4 ct4 oc5 kV5 dc5 pm5 cd5 ct5 oc6 kV6 dc6 pm6 cd6 ct6 oc7 kV7 dc7 pm7 cd7 ct7 oc8 kV8 dc8 pm8 cd8 ct8 oc9 kV9 dc9 pm9 cd9 ct9 oc10 kV10 dc10 pm10 cd10 ct10 oc11 kV11 dc11 pm11 cd11 ct11 : Value}
    (a1 : PySem.W.nsIn K mainGlobals "turned" = some (some (.ref f1))) (l1 : K.lookup f1 = some ⟨oc1, od1, .func (PySem.W.fnOf "turned" "turned" (defArgs s_turned) (defBody s_turned) (defScope s_turned) .none kV1 dc1 pm1 an1 cd1 ct1), sl1⟩) (c1 : PySem.W.codeIn K cd1 "turned" = true) (k1 : PySem.W.keepIn K (.ref f1) = true)
    (a2 : PySem.W.nsIn K mainGlobals "back" = some (some (.ref f2))) (l2 : K.lookup f2 = some ⟨oc2, od2, .func (PySem.W.fnOf "back" "back" (defArgs s_back) (defBody s_back) (defScope s_back) .none kV2 dc2 pm2 an2 cd2 ct2), sl2⟩) (c2 : PySem.W.codeIn K cd2 "back" = true) (k2 : PySem.W.keepIn K (.ref f2) = true)
    (a3 : PySem.W.nsIn K mainGlobals "knot" = some (some (.ref f3))) (l3 : K.lookup f3 = some ⟨oc3, od3, .func (PySem.W.fnOf "knot" "knot" (defArgs s_knot) (defBody s_knot) (defScope s_knot) .none kV3 dc3 pm3 an3 cd3 ct3), sl3⟩) (c3 : PySem.W.codeIn K cd3 "knot" = true) (k3 : PySem.W.keepIn K (.ref f3) = true)
    (a4 : PySem.W.nsIn K mainGlobals "_law_box" = some (some (.ref f4))) (l4 : K.lookup f4 = some ⟨oc4, od4, .func (PySem.W.fnOf "_law_box" "_law_box" (defArgs s_law_box) (defBody s_law_box) (defScope s_law_box) .none kV4 dc4 pm4 an4 cd4 ct4), sl4⟩) (c4 : PySem.W.codeIn K cd4 "_law_box" = true) (k4 : PySem.W.keepIn K (.ref f4) = true)
    (a5 : PySem.W.nsIn K mainGlobals "_law_take" = some (some (.ref f5))) (l5 : K.lookup f5 = some ⟨oc5, od5, .func (PySem.W.fnOf "_law_take" "_law_take" (defArgs s_law_take) (defBody s_law_take) (defScope s_law_take) .none kV5 dc5 pm5 an5 cd5 ct5), sl5⟩) (c5 : PySem.W.codeIn K cd5 "_law_take" = true) (k5 : PySem.W.keepIn K (.ref f5) = true)
    (a6 : PySem.W.nsIn K mainGlobals "_law_same" = some (some (.ref f6))) (l6 : K.lookup f6 = some ⟨oc6, od6, .func (PySem.W.fnOf "_law_same" "_law_same" (defArgs s_law_same) (defBody s_law_same) (defScope s_law_same) .none kV6 dc6 pm6 an6 cd6 ct6), sl6⟩) (c6 : PySem.W.codeIn K cd6 "_law_same" = true) (k6 : PySem.W.keepIn K (.ref f6) = true)
    (a7 : PySem.W.nsIn K mainGlobals "_law_names" = some (some (.ref f7))) (l7 : K.lookup f7 = some ⟨oc7, od7, .func (PySem.W.fnOf "_law_names" "_law_names" (defArgs s_law_names) (defBody s_law_names) (defScope s_law_names) .none kV7 dc7 pm7 an7 cd7 ct7), sl7⟩) (c7 : PySem.W.codeIn K cd7 "_law_names" = true) (k7 : PySem.W.keepIn K (.ref f7) = true)
    (a8 : PySem.W.nsIn K mainGlobals "_law_back" = some (some (.ref f8))) (l8 : K.lookup f8 = some ⟨oc8, od8, .func (PySem.W.fnOf "_law_back" "_law_back" (defArgs s_law_back) (defBody s_law_back) (defScope s_law_back) .none kV8 dc8 pm8 an8 cd8 ct8), sl8⟩) (c8 : PySem.W.codeIn K cd8 "_law_back" = true) (k8 : PySem.W.keepIn K (.ref f8) = true)
    (a9 : PySem.W.nsIn K mainGlobals "_law_knot" = some (some (.ref f9))) (l9 : K.lookup f9 = some ⟨oc9, od9, .func (PySem.W.fnOf "_law_knot" "_law_knot" (defArgs s_law_knot) (defBody s_law_knot) (defScope s_law_knot) .none kV9 dc9 pm9 an9 cd9 ct9), sl9⟩) (c9 : PySem.W.codeIn K cd9 "_law_knot" = true) (k9 : PySem.W.keepIn K (.ref f9) = true)
    (a10 : PySem.W.nsIn K mainGlobals "_law_right" = some (some (.ref f10))) (l10 : K.lookup f10 = some ⟨oc10, od10, .func (PySem.W.fnOf "_law_right" "_law_right" (defArgs s_law_right) (defBody s_law_right) (defScope s_law_right) .none kV10 dc10 pm10 an10 cd10 ct10), sl10⟩) (c10 : PySem.W.codeIn K cd10 "_law_right" = true) (k10 : PySem.W.keepIn K (.ref f10) = true)
    (a11 : PySem.W.nsIn K mainGlobals "law" = some (some (.ref f11))) (l11 : K.lookup f11 = some ⟨oc11, od11, .func (PySem.W.fnOf "law" "law" (defArgs s_law) (defBody s_law) (defScope s_law) .none kV11 dc11 pm11 an11 cd11 ct11), sl11⟩) (c11 : PySem.W.codeIn K cd11 "law" = true) (k11 : PySem.W.keepIn K (.ref f11) = true)
    {t1 : Tok} (y1 : PySem.W.nsIn K mainGlobals "RIGHT" = some (some (.int (1) t1))) (z1 : PySem.W.nsIn K mainGlobals "reversed" = some none) (z2 : PySem.W.nsIn K mainGlobals "len" = some none) (z3 : PySem.W.nsIn K mainGlobals "abs" = some none) (z4 : PySem.W.nsIn K mainGlobals "int" = some none) (z5 : PySem.W.nsIn K mainGlobals "isinstance" = some none) (z6 : PySem.W.nsIn K mainGlobals "list" = some none) (z7 : PySem.W.nsIn K mainGlobals "tuple" = some none) (z8 : PySem.W.nsIn K mainGlobals "zip" = some none) (z9 : PySem.W.nsIn K mainGlobals "all" = some none) (z10 : PySem.W.nsIn K mainGlobals "str" = some none) (z11 : PySem.W.nsIn K mainGlobals "bool" = some none) (z12 : PySem.W.nsIn K mainGlobals "range" = some none) (z13 : PySem.W.nsIn K mainGlobals "sorted" = some none) (z14 : PySem.W.nsIn K mainGlobals "min" = some none) (z15 : PySem.W.nsIn K mainGlobals "max" = some none) :
    ∃ fd : FuncData, (∀ (s : Shared) (v : Value), BindsTo s fd ⟨[v], []⟩ [("_law_script", v)]) ∧ ∀ base : Heap, K.In base → base.Ns mainGlobals mg → FnOk l.prog w K mg base CX0 11 fa fd ["_law_script"] (spD K 1 Ph_law) := by
  have e := hfa.symm.trans (PySem.W.mg_of X G a11)
  cases e
  have F1 := fun_mk (st := s_turned) l1 c1 k1
  have b1 := F1.binds (ps := ["hook"]) fun _ _ _ _ _ _ us hl => match us, hl with | [_], _ => rfl
  have m1 := PySem.W.mg_of X G a1
  have F2 := fun_mk (st := s_back) l2 c2 k2
  have b2 := F2.binds (ps := ["row"]) fun _ _ _ _ _ _ us hl => match us, hl with | [_], _ => rfl
  have m2 := PySem.W.mg_of X G a2
  have F3 := fun_mk (st := s_knot) l3 c3 k3
  have b3 := F3.binds (ps := ["ropes"]) fun _ _ _ _ _ _ us hl => match us, hl with | [_], _ => rfl
  have m3 := PySem.W.mg_of X G a3
  have F4 := fun_mk (st := s_law_box) l4 c4 k4
  have b4 := F4.binds (ps := ["_law_script", "_law_k"]) fun _ _ _ _ _ _ us hl => match us, hl with | [_, _], _ => rfl
  have m4 := PySem.W.mg_of X G a4
  have F5 := fun_mk (st := s_law_take) l5 c5 k5
  have b5 := F5.binds (ps := ["_law_box_here", "_law_bound"]) fun _ _ _ _ _ _ us hl => match us, hl with | [_, _], _ => rfl
  have m5 := PySem.W.mg_of X G a5
  have F6 := fun_mk (st := s_law_same) l6 c6 k6
  have b6 := F6.binds (ps := ["_law_found", "_law_due"]) fun _ _ _ _ _ _ us hl => match us, hl with | [_, _], _ => rfl
  have m6 := PySem.W.mg_of X G a6
  have F7 := fun_mk (st := s_law_names) l7 c7 k7
  have b7 := F7.binds (ps := ["_law_box_here", "_law_many"]) fun _ _ _ _ _ _ us hl => match us, hl with | [_, _], _ => rfl
  have m7 := PySem.W.mg_of X G a7
  have F8 := fun_mk (st := s_law_back) l8 c8 k8
  have b8 := F8.binds (ps := ["_law_strand"]) fun _ _ _ _ _ _ us hl => match us, hl with | [_], _ => rfl
  have m8 := PySem.W.mg_of X G a8
  have F9 := fun_mk (st := s_law_knot) l9 c9 k9
  have b9 := F9.binds (ps := ["_law_names_here"]) fun _ _ _ _ _ _ us hl => match us, hl with | [_], _ => rfl
  have m9 := PySem.W.mg_of X G a9
  have F10 := fun_mk (st := s_law_right) l10 c10 k10
  have b10 := F10.binds (ps := ["_law_box_here"]) fun _ _ _ _ _ _ us hl => match us, hl with | [_], _ => rfl
  have m10 := PySem.W.mg_of X G a10
  have F11 := fun_mk (st := s_law) l11 c11 k11
  have b11 := F11.binds (ps := ["_law_script"]) fun _ _ _ _ _ _ us hl => match us, hl with | [_], _ => rfl
  have m11 := PySem.W.mg_of X G a11
  have K_RIGHT := PySem.W.mg_of X G y1
  have B : Bn mg := ⟨PySem.W.mg_none_of X G z1, PySem.W.mg_none_of X G z2, PySem.W.mg_none_of X G z3, PySem.W.mg_none_of X G z4, PySem.W.mg_none_of X G z5, PySem.W.mg_none_of X G z6, PySem.W.mg_none_of X G z7, PySem.W.mg_none_of X G z8, PySem.W.mg_none_of X G z9, PySem.W.mg_none_of X G z10, PySem.W.mg_none_of X G z11, PySem.W.mg_none_of X G z12, PySem.W.mg_none_of X G z13, PySem.W.mg_none_of X G z14, PySem.W.mg_none_of X G z15⟩
  refine ⟨PySem.W.fnOf "law" "law" (defArgs s_law) (defBody s_law) (defScope s_law) .none kV11 dc11 pm11 an11 cd11 ct11, fun s v => .of_eq rfl, fun base _ _ => ?_⟩
  have O1 := ok_turned (P := l.prog) (w := w) (base := base) (k := 0) F1 B 
  have C_turned : Cal l.prog w K mg base "turned" 1 ["hook"] (spD K 1 Ph_turned) := ⟨_, _, O1, m1, k1, b1⟩
  have O2 := ok_back (P := l.prog) (w := w) (base := base) (k := 1) F2 B (C_turned.mono (by decide))
  have C_back : Cal l.prog w K mg base "back" 2 ["row"] (spD K 1 Ph_back) := ⟨_, _, O2, m2, k2, b2⟩
  have O3 := ok_knot (P := l.prog) (w := w) (base := base) (k := 2) F3 B K_RIGHT (C_back.mono (by decide)) (C_turned.mono (by decide))
  have C_knot : Cal l.prog w K mg base "knot" 3 ["ropes"] (spD K 1 Ph_knot) := ⟨_, _, O3, m3, k3, b3⟩
  have K_knot_0_ropes : CalK l.prog w K mg base "knot" 3 ["ropes"] 0 ["ropes"] [0] (spD K 1 Ph_knot) := ⟨_, _, O3, m3, k3, DL.Fun.kbn F3 0 ["ropes"] [0] (fun _ _ _ _ _ _ us ws h1 h2 => match us, ws, h1, h2 with | [], [_], _, _ => rfl)⟩
  have O4 := ok_law_box (P := l.prog) (w := w) (base := base) (k := 0) F4 B 
  have C_law_box : Cal l.prog w K mg base "_law_box" 1 ["_law_script", "_law_k"] (spD K 2 Ph_law_box) := ⟨_, _, O4, m4, k4, b4⟩
  have O5 := ok_law_take (P := l.prog) (w := w) (base := base) (k := 0) F5 B 
  have C_law_take : Cal l.prog w K mg base "_law_take" 1 ["_law_box_here", "_law_bound"] (spL K 2 Ph_law_take) := ⟨_, _, O5, m5, k5, b5⟩
  have R6 := ok_law_same (P := l.prog) (w := w) (base := base) (k := 0) F6 B m6 k6 b6
  have C_law_same : Cal l.prog w K mg base "_law_same" 8 ["_law_found", "_law_due"] (spD K 2 Ph_law_same) := ⟨_, _, (R6 8).mono (by decide), m6, k6, b6⟩
  have C_law_sameL : Cal l.prog w K mg base "_law_same" 9 ["_law_found", "_law_due"] (spL K 2 Ph_law_sameL) := ⟨_, _, ok_law_sameL (k := 8) F6 B ⟨_, _, (R6 7).mono (by decide), m6, k6, b6⟩, m6, k6, b6⟩
  have O7 := ok_law_names (P := l.prog) (w := w) (base := base) (k := 1) F7 B (C_law_take.mono (by decide))
  have C_law_names : Cal l.prog w K mg base "_law_names" 2 ["_law_box_here", "_law_many"] (spL K 2 Ph_law_names) := ⟨_, _, O7, m7, k7, b7⟩
  have O8 := ok_law_back (P := l.prog) (w := w) (base := base) (k := 0) F8 B 
  have C_law_back : Cal l.prog w K mg base "_law_back" 1 ["_law_strand"] (spD K 1 Ph_law_back) := ⟨_, _, O8, m8, k8, b8⟩
  have O9 := ok_law_knot (P := l.prog) (w := w) (base := base) (k := 1) F9 B (C_law_back.mono (by decide))
  have C_law_knot : Cal l.prog w K mg base "_law_knot" 2 ["_law_names_here"] (spD K 1 Ph_law_knot) := ⟨_, _, O9, m9, k9, b9⟩
  have O10 := ok_law_right (P := l.prog) (w := w) (base := base) (k := 9) F10 B (C_law_take.mono (by decide)) (C_law_names.mono (by decide)) (C_law_knot.mono (by decide)) (C_knot.mono (by decide)) (C_law_same.mono (by decide)) (K_knot_0_ropes.mono (by decide)) (C_law_sameL.mono (by decide))
  have C_law_right : Cal l.prog w K mg base "_law_right" 10 ["_law_box_here"] (spL K 1 Ph_law_right) := ⟨_, _, O10, m10, k10, b10⟩
  exact ok_law (k := 10) F11 B (C_law_box.mono (by decide)) (C_law_right.mono (by decide))
end K41
open PySem PySem.W PyProof.Rows
set_option maxRecDepth 100000 in
set_option maxHeartbeats 0 in
theorem PySem.Challenge.cw_drawnropes_k41_knots_as_told_holds : PySem.Challenge.rw_drawnropes_k41_knots_as_told.Holds := by
  w_on; o_law; k_head; (case hw => w_witness2)
  k_fill
  refine DL.walkD (l := PySem.Challenge.rw_drawnropes_k41_knots_as_told) (n := 63) (k := 11) (x := "_law_script") (Φ := K41.Ph_law) rfl (by decide) rfl ⟨rfl, by decide, by decide⟩ (fun w h Y => PySem.W.kIn_of Y) ?F (fun ns hl => ⟨ns, rfl, rfl⟩)
  case F =>
    intro w mg fa h KX G hmg
    refine' K41.all_mk KX G hmg ?a1 ?l1 ?c1 ?k1 ?a2 ?l2 ?c2 ?k2 ?a3 ?l3 ?c3 ?k3 ?a4 ?l4 ?c4 ?k4 ?a5 ?l5 ?c5 ?k5 ?a6 ?l6 ?c6 ?k6 ?a7 ?l7 ?c7 ?k7 ?a8 ?l8 ?c8 ?k8 ?a9 ?l9 ?c9 ?k9 ?a10 ?l10 ?c10 ?k10 ?a11 ?l11 ?c11 ?k11 ?y1 ?z1 ?z2 ?z3 ?z4 ?z5 ?z6 ?z7 ?z8 ?z9 ?z10 ?z11 ?z12 ?z13 ?z14 ?z15
    (case a1 => k_is); (case l1 => k_is); (case c1 => k_is); (case k1 => k_is); (case a2 => k_is); (case l2 => k_is); (case c2 => k_is); (case k2 => k_is)
    (case a3 => k_is); (case l3 => k_is); (case c3 => k_is); (case k3 => k_is); (case a4 => k_is); (case l4 => k_is); (case c4 => k_is); (case k4 => k_is)
    (case a5 => k_is); (case l5 => k_is); (case c5 => k_is); (case k5 => k_is); (case a6 => k_is); (case l6 => k_is); (case c6 => k_is); (case k6 => k_is)
    (case a7 => k_is); (case l7 => k_is); (case c7 => k_is); (case k7 => k_is); (case a8 => k_is); (case l8 => k_is); (case c8 => k_is); (case k8 => k_is)
    (case a9 => k_is); (case l9 => k_is); (case c9 => k_is); (case k9 => k_is); (case a10 => k_is); (case l10 => k_is); (case c10 => k_is); (case k10 => k_is)
    (case a11 => k_is); (case l11 => k_is); (case c11 => k_is); (case k11 => k_is); (case y1 => k_is); (case z1 => k_is); (case z2 => k_is); (case z3 => k_is)
    (case z4 => k_is); (case z5 => k_is); (case z6 => k_is); (case z7 => k_is); (case z8 => k_is); (case z9 => k_is); (case z10 => k_is); (case z11 => k_is)
    (case z12 => k_is); (case z13 => k_is); (case z14 => k_is); (case z15 => k_is)
