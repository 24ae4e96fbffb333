import PyProof.Rows.All
import Wide.All
import OpenK.AllK
import Wide.FinOn
import HandS.ForMost
import HandS.NoneIn
import HandS.Zip
import HandS.TupAny
import HandS.Deep
import HandS.IsInst
import KE.SortData
import KE.KUnpackStar
import HandS.Style
import HandS.Defaults
import PySem.Challenge.RW_drawnropes_k77_whole_counts_by_the_sum
set_option Elab.async false
set_option linter.all false
set_option maxRecDepth 100000
set_option maxHeartbeats 4000000
/-! DLa: plain data over the hand layer: what represents what, cells, steps, the judgements of expressions. -/
namespace DL
open PySem PySem.Spec PyProof.Rows L2

/-! ### heaps -/
def Ex (H H' : Hp) : Prop := ∀ a o, H a = some o → H' a = some o
theorem Ex.refl (H : Hp) : Ex H H := fun _ _ h => h
theorem Ex.trans {H H1 H2 : Hp} (a : Ex H H1) (b : Ex H1 H2) : Ex H H2 := fun x o h => b x o (a x o h)
theorem Ex.new {H : Hp} {p : Addr} {o : HO} (h : H p = none) : Ex H (upd H p o) := fun a u e => by
  rw [upd_ne (ne_of_none e h)]; exact e
theorem Ex.free {H H' : Hp} {p : Addr} (e : Ex H H') (h : H' p = none) : H p = none := by
  cases q : H p with
  | none => rfl
  | some o => rw [e p o q] at h; cases h
/-- both sides get the same new object -/
theorem Ex.upd2 {H H' : Hp} {p : Addr} {o : HO} (e : Ex H H') : Ex (upd H p o) (upd H' p o) := fun a u h => by
  by_cases q : a = p
  · subst q; rw [upd_same] at h ⊢; exact h
  · rw [upd_ne q] at h ⊢; exact e a u h
/-- what the lesser heap does not know may change -/
theorem Ex.mut {H H' : Hp} {p : Addr} {o : HO} (e : Ex H H') (h : H p = none) : Ex H (upd H' p o) := fun a u ha => by
  rw [upd_ne (ne_of_none ha h)]; exact e a u ha
/-- the lesser heap learns what stands in the greater one -/
theorem Ex.learn {H H' : Hp} {p : Addr} {o : HO} (e : Ex H H') (h : H' p = some o) : Ex (upd H p o) H' := fun a u ha => by
  by_cases q : a = p
  · subst q; rw [upd_same] at ha; rw [h]; exact ha
  · rw [upd_ne q] at ha; exact e a u ha
theorem ex_sl {K : PySem.W.Frag} {H H' : Hp} {a : Addr} {xs : List V} (e : Ex H H') (h : SqL K H a xs) : SqL K H' a xs := by
  rcases h with (h | ⟨o, h⟩) | h
  · exact .inl (.inl (e _ _ h))
  · exact .inl (.inr ⟨o, e _ _ h⟩)
  · exact .inr h
theorem ex_st {K : PySem.W.Frag} {H H' : Hp} {a : Addr} {xs : List V} (e : Ex H H') (h : SqT K H a xs) : SqT K H' a xs := by
  rcases h with (h | ⟨o, h⟩) | h
  · exact .inl (.inl (e _ _ h))
  · exact .inl (.inr ⟨o, e _ _ h⟩)
  · exact .inr h
theorem sql_of {K : PySem.W.Frag} {H : Hp} {a : Addr} {xs : List V} (h : H a = some (.lst xs)) : SqL K H a xs := .inl (.inl h)
theorem sqt_of {K : PySem.W.Frag} {H : Hp} {a : Addr} {xs : List V} (h : H a = some (.tup xs)) : SqT K H a xs := .inl (.inl h)

/-! ### plain data in a heap -/
mutual
inductive Rp (K : PySem.W.Frag) (H : Hp) : V → PyData → Prop
  | non : Rp K H .non .none
  | bl (b : Bool) : Rp K H (.bl b) (.bool b)
  | int (i : Int) : Rp K H (.int i) (.int i)
  | str (x : Str) : Rp K H (.str x) (.str x)
  | lst {a : Addr} {xs : List V} {ds : List PyData} : H a = some (.lst xs) → RpA K H xs ds → Rp K H (.ref a) (.list ds)
  | tup {a : Addr} {xs : List V} {ds : List PyData} : SqT K H a xs → RpA K H xs ds → Rp K H (.ref a) (.tuple ds)
inductive RpA (K : PySem.W.Frag) (H : Hp) : List V → List PyData → Prop
  | nil : RpA K H [] []
  | cons {v : V} {vs : List V} {d : PyData} {ds : List PyData} : Rp K H v d → RpA K H vs ds → RpA K H (v :: vs) (d :: ds)
end
section
variable {K : PySem.W.Frag} {H H' : Hp}
mutual
theorem Rp.mono (e : Ex H H') : ∀ (d : PyData) (v : V), Rp K H v d → Rp K H' v d
  | .none, _, h => by cases h; exact .non
  | .bool b, _, h => by cases h; exact .bl b
  | .int i, _, h => by cases h; exact .int i
  | .str x, _, h => by cases h; exact .str x
  | .list ds, _, h => by
    cases h with
    | lst h1 h2 => exact .lst (e _ _ h1) (RpA.mono e ds _ h2)
  | .tuple ds, _, h => by
    cases h with
    | tup h1 h2 => exact .tup (ex_st e h1) (RpA.mono e ds _ h2)
  | .dict _, _, h => by cases h
theorem RpA.mono (e : Ex H H') : ∀ (ds : List PyData) (vs : List V), RpA K H vs ds → RpA K H' vs ds
  | [], _, h => by cases h; exact .nil
  | d :: ds, _, h => by
    cases h with
    | cons h1 h2 => exact .cons (Rp.mono e d _ h1) (RpA.mono e ds _ h2)
end
mutual
theorem Rp.dp : ∀ (d : PyData) (v : V), Rp K H v d → Dp K H v d
  | .none, _, h => by cases h; exact .non
  | .bool b, _, h => by cases h; exact .bl b
  | .int i, _, h => by cases h; exact .int i
  | .str x, _, h => by cases h; exact .str x
  | .list ds, _, h => by
    cases h with
    | lst h1 h2 => exact .lst (sql_of h1) (RpA.dp ds _ h2)
  | .tuple ds, _, h => by
    cases h with
    | tup h1 h2 => exact .tup h1 (RpA.dp ds _ h2)
  | .dict _, _, h => by cases h
theorem RpA.dp : ∀ (ds : List PyData) (vs : List V), RpA K H vs ds → DpAll K H vs ds
  | [], _, h => by cases h; exact .nil
  | d :: ds, _, h => by
    cases h with
    | cons h1 h2 => exact .cons (Rp.dp d _ h1) (RpA.dp ds _ h2)
end
theorem RpA.len : ∀ {vs : List V} {ds : List PyData}, RpA K H vs ds → vs.length = ds.length
  | _, _, .nil => rfl
  | _, _, .cons _ t => congrArg (· + 1) (RpA.len t)
theorem RpA.app : ∀ {vs ws : List V} {ds es : List PyData}, RpA K H vs ds → RpA K H ws es → RpA K H (vs ++ ws) (ds ++ es)
  | _, _, _, _, .nil, q => q
  | _, _, _, _, .cons r t, q => .cons r (RpA.app t q)
theorem RpA.take : ∀ (n : Nat) {vs : List V} {ds : List PyData}, RpA K H vs ds → RpA K H (vs.take n) (ds.take n)
  | 0, _, _, _ => .nil
  | _ + 1, _, _, .nil => .nil
  | n + 1, _, _, .cons r t => .cons r (RpA.take n t)
theorem RpA.drop : ∀ (n : Nat) {vs : List V} {ds : List PyData}, RpA K H vs ds → RpA K H (vs.drop n) (ds.drop n)
  | 0, _, _, r => r
  | _ + 1, _, _, .nil => .nil
  | n + 1, _, _, .cons _ t => RpA.drop n t
theorem RpA.get : ∀ {vs : List V} {ds : List PyData} {i : Nat} {d : PyData}, RpA K H vs ds → ds[i]? = some d → ∃ v, vs[i]? = some v ∧ Rp K H v d
  | _, _, _, _, .nil, e => by simp at e
  | _, _, 0, _, .cons r _, e => by simp at e; subst e; exact ⟨_, rfl, r⟩
  | _, _, i + 1, d, .cons _ t, e => by
    obtain ⟨v, h1, h2⟩ := RpA.get (i := i) (d := d) t (by simpa using e)
    exact ⟨v, by simpa using h1, h2⟩
theorem RpA.getV : ∀ {vs : List V} {ds : List PyData} {i : Nat} {v : V}, RpA K H vs ds → vs[i]? = some v → ∃ d, ds[i]? = some d ∧ Rp K H v d
  | _, _, _, _, .nil, e => by simp at e
  | _, _, 0, _, .cons r _, e => by simp at e; subst e; exact ⟨_, rfl, r⟩
  | _, _, i + 1, v, .cons _ t, e => by
    obtain ⟨d, h1, h2⟩ := RpA.getV (i := i) (v := v) t (by simpa using e)
    exact ⟨d, by simpa using h1, h2⟩
theorem RpA.set {v : V} {d : PyData} (r : Rp K H v d) : ∀ (i : Nat) {vs : List V} {ds : List PyData}, RpA K H vs ds → RpA K H (vs.set i v) (ds.set i d)
  | _, _, _, .nil => .nil
  | 0, _, _, .cons _ t => .cons r t
  | i + 1, _, _, .cons q t => .cons q (RpA.set r i t)
theorem RpA.rev : ∀ {vs : List V} {ds : List PyData}, RpA K H vs ds → RpA K H vs.reverse ds.reverse
  | _, _, .nil => .nil
  | _, _, .cons r t => by
    rw [List.reverse_cons, List.reverse_cons]
    exact (RpA.rev t).app (.cons r .nil)
end

/-! ### results, cells, places -/
inductive R where
  | d (x : PyData)
  | c (k : Nat)
  | f (xs : List PyData)
  | s (ns : List Int)
  | b (ks : List Nat)
inductive Cell where
  | l (xs : List PyData)
  | z (x : PyData)
abbrev Rho := List (Option R)
abbrev Kap := List Cell
/-- a fresh list that is let go is plain data -/
def R.st : R → R
  | .f xs => .d (.list xs)
  | r => r
/-- what is read there now -/
def val (κ : Kap) : R → Option PyData
  | .d x => some x
  | .f xs => some (.list xs)
  | .c k => match κ[k]? with
    | some (.l xs) => some (.list xs)
    | some (.z x) => some x
    | none => none
  | .s _ => none
  | .b _ => none

def It (K : PySem.W.Frag) (G : Hp) (As : List Addr) (v : V) : R → Prop
  | .d x => Rp K G v x
  | .c k => ∃ a, As[k]? = some a ∧ v = .ref a
  | .f _ => False
  | .s ns => ∃ a, v = .ref a ∧ SqL K G a (ns.map V.int)
  | .b ks => ∃ a vs, v = .ref a ∧ G a = some (.lst vs) ∧ vs.length = ks.length ∧ ∀ (i k : Nat), ks[i]? = some k → ∃ c, As[k]? = some c ∧ vs[i]? = some (V.ref c)
def CellOk (K : PySem.W.Frag) (G H : Hp) (a : Addr) : Cell → Prop
  | .l ds => G a = none ∧ ∃ vs, H a = some (.lst vs) ∧ RpA K G vs ds
  | .z x => Rp K G (.ref a) x
/-- what stands: G what is known for good, the cells at As -/
structure Cells (K : PySem.W.Frag) (G H : Hp) (As : List Addr) (κ : Kap) : Prop where
  ext : Ex G H
  len : As.length = κ.length
  nd : As.Nodup
  al : ∀ a, a ∈ As → ∃ o, H a = some o
  ok : ∀ (k : Nat) (c : Cell) (a : Addr), κ[k]? = some c → As[k]? = some a → CellOk K G H a c
structure Places (K : PySem.W.Frag) (G : Hp) (As : List Addr) (σ : L2.St) (ρ : Rho) : Prop where
  len : σ.length = ρ.length
  ok : ∀ (i : Nat) (r : R), ρ[i]? = some (some r) → ∃ v, σ[i]? = some (some v) ∧ It K G As v r
structure Step (G H : Hp) (As : List Addr) (G' H' : Hp) (As' : List Addr) : Prop where
  ex : Ex G G'
  pre : ∃ bs, As' = As ++ bs
  new : ∀ a, a ∈ As' → a ∈ As ∨ H a = none
  fr : ∀ b o, b ∉ As → H b = some o → H' b = some o
  dom : ∀ b, H' b = none → H b = none
  gn : ∀ b, G b = none → G' b = none ∨ H b = none ∨ b ∈ As
def Rv (K : PySem.W.Frag) (H0 G H : Hp) (As : List Addr) (v : V) : R → Prop
  | .f xs => ∃ p vs, v = .ref p ∧ H0 p = none ∧ G p = none ∧ p ∉ As ∧ H p = some (.lst vs) ∧ RpA K G vs xs
  | r => It K G As v r

section
variable {K : PySem.W.Frag} {G H G' H' G1 H1 H0 : Hp} {As As' As1 : List Addr} {σ : L2.St} {ρ : Rho} {κ κ' : Kap} {v : V} {r : R}
theorem Step.refl : Step G H As G H As := ⟨Ex.refl G, ⟨[], by simp⟩, fun _ h => .inl h, fun _ _ _ h => h, fun _ h => h, fun _ h => .inl h⟩
theorem Step.trans (a : Step G H As G1 H1 As1) (b : Step G1 H1 As1 G' H' As') : Step G H As G' H' As' where
  ex := a.ex.trans b.ex
  pre := by
    obtain ⟨x, ex⟩ := a.pre
    obtain ⟨y, ey⟩ := b.pre
    exact ⟨x ++ y, by rw [ey, ex, List.append_assoc]⟩
  new := fun c h => by
    rcases b.new c h with h | h
    · exact a.new c h
    · exact .inr (a.dom c h)
  fr := fun c o hc h => by
    refine b.fr c o (fun hm => ?_) (a.fr c o hc h)
    rcases a.new c hm with q | q
    · exact hc q
    · rw [h] at q; cases q
  dom := fun c h => a.dom c (b.dom c h)
  gn := fun c h => by
    rcases a.gn c h with q | q | q
    · rcases b.gn c q with z | z | z
      · exact .inl z
      · exact .inr (.inl (a.dom c z))
      · rcases a.new c z with y | y
        · exact .inr (.inr y)
        · exact .inr (.inl y)
    · exact .inr (.inl q)
    · exact .inr (.inr q)
theorem It.mono (e : Ex G G') (p : ∃ bs, As' = As ++ bs) (h : It K G As v r) : It K G' As' v r := by
  cases r with
  | d x => exact Rp.mono e x v h
  | c k =>
    obtain ⟨a, h1, h2⟩ := h
    obtain ⟨bs, rfl⟩ := p
    refine ⟨a, ?_, h2⟩
    rw [List.getElem?_append_left (List.getElem?_eq_some_iff.mp h1).1]
    exact h1
  | f xs => exact h
  | s ns =>
    obtain ⟨a, h1, h2⟩ := h
    exact ⟨a, h1, ex_sl e h2⟩
  | b ks =>
    obtain ⟨a, vs, h1, h2, h3, h4⟩ := h
    refine ⟨a, vs, h1, e _ _ h2, h3, fun i k hk => ?_⟩
    obtain ⟨c, e1, e2⟩ := h4 i k hk
    obtain ⟨bs, rfl⟩ := p
    exact ⟨c, by rw [List.getElem?_append_left (List.getElem?_eq_some_iff.mp e1).1]; exact e1, e2⟩
theorem Step.it (s : Step G H As G' H' As') (h : It K G As v r) : It K G' As' v r := h.mono s.ex s.pre
theorem Places.step (p : Places K G As σ ρ) (s : Step G H As G' H' As') : Places K G' As' σ ρ :=
  ⟨p.len, fun i r h => by
    obtain ⟨v, h1, h2⟩ := p.ok i r h
    exact ⟨v, h1, s.it h2⟩⟩
/-- the heap of what is known grows by a new object -/
theorem Cells.laid (c : Cells K G H As κ) {p : Addr} {o : HO} (hp : H p = none) : Cells K (upd G p o) (upd H p o) As κ where
  ext := c.ext.upd2
  len := c.len
  nd := c.nd
  al := fun a h => by
    obtain ⟨u, e⟩ := c.al a h
    exact ⟨u, by rw [upd_ne (ne_of_none e hp)]; exact e⟩
  ok := fun k x a h1 h2 => by
    have q := c.ok k x a h1 h2
    have eG : Ex G (upd G p o) := Ex.new (c.ext.free hp)
    cases x with
    | l ds =>
      obtain ⟨q1, vs, q2, q3⟩ := q
      have ne : a ≠ p := ne_of_none q2 hp
      exact ⟨by rw [upd_ne ne]; exact q1, vs, by rw [upd_ne ne]; exact q2, RpA.mono eG _ _ q3⟩
    | z x => exact Rp.mono eG _ _ q
/-- a new object that is not known for good -/
theorem Cells.fresh (c : Cells K G H As κ) {p : Addr} {o : HO} (hp : H p = none) : Cells K G (upd H p o) As κ where
  ext := c.ext.trans (Ex.new hp)
  len := c.len
  nd := c.nd
  al := fun a h => by
    obtain ⟨u, e⟩ := c.al a h
    exact ⟨u, by rw [upd_ne (ne_of_none e hp)]; exact e⟩
  ok := fun k x a h1 h2 => by
    have q := c.ok k x a h1 h2
    cases x with
    | l ds =>
      obtain ⟨q1, vs, q2, q3⟩ := q
      have ne : a ≠ p := ne_of_none q2 hp
      exact ⟨q1, vs, by rw [upd_ne ne]; exact q2, q3⟩
    | z x => exact q
theorem Cells.notin (c : Cells K G H As κ) {p : Addr} (hp : H p = none) : p ∉ As := fun hm => by
  obtain ⟨o, e⟩ := c.al p hm
  rw [hp] at e; cases e
theorem Step.laid (ext : Ex G H) {p : Addr} {o : HO} (hp : H p = none) : Step G H As (upd G p o) (upd H p o) As :=
  ⟨Ex.new (ext.free hp), ⟨[], by simp⟩, fun _ h => .inl h, fun b u _ e => by rw [upd_ne (ne_of_none e hp)]; exact e, fun b e => by
    by_cases q : b = p
    · subst q; exact hp
    · rw [upd_ne q] at e; exact e, fun b e => by
    by_cases q : b = p
    · subst q; exact .inr (.inl hp)
    · exact .inl (by rw [upd_ne q]; exact e)⟩
theorem Step.fresh {p : Addr} {o : HO} (hp : H p = none) : Step G H As G (upd H p o) As :=
  ⟨Ex.refl G, ⟨[], by simp⟩, fun _ h => .inl h, fun b u _ e => by rw [upd_ne (ne_of_none e hp)]; exact e, fun b e => by
    by_cases q : b = p
    · subst q; exact hp
    · rw [upd_ne q] at e; exact e, fun _ e => .inl e⟩
/-- what is known for good grows by an object that stands -/
theorem Cells.learn (c : Cells K G H As κ) {q : Addr} {o : HO} (g0 : G q = none) (nin : q ∉ As) (hq : H q = some o) : Cells K (upd G q o) H As κ :=
  ⟨c.ext.learn hq, c.len, c.nd, c.al, fun k x a h1 h2 => by
    have w := c.ok k x a h1 h2
    have eG : Ex G (upd G q o) := Ex.new g0
    cases x with
    | l ds =>
      obtain ⟨w1, ws, w2, w3⟩ := w
      have ne : a ≠ q := fun e => nin (by rw [← e]; exact List.mem_of_getElem? h2)
      exact ⟨by rw [upd_ne ne]; exact w1, ws, w2, RpA.mono eG _ _ w3⟩
    | z x => exact Rp.mono eG _ _ w⟩
/-- a fresh list is let go: it is known for good -/
theorem settle (s : Step G1 H1 As1 G H As) (c : Cells K G H As κ) (p : Places K G As σ ρ) (h : Rv K H1 G H As v r) : ∃ G', Step G1 H1 As1 G' H As ∧ Cells K G' H As κ ∧ Places K G' As σ ρ ∧ It K G' As v r.st ∧ Ex G G' := by
  cases r with
  | f xs =>
    obtain ⟨q, vs, rfl, h0, g0, nin, hq, rp⟩ := h
    have eG : Ex G (upd G q (.lst vs)) := Ex.new g0
    refine ⟨upd G q (.lst vs), ⟨s.ex.trans eG, s.pre, s.new, s.fr, s.dom, fun b hb => ?_⟩, c.learn g0 nin hq, ⟨p.len, fun i r h => ?_⟩, .lst upd_same (RpA.mono eG _ _ rp), eG⟩
    · by_cases e : b = q
      · subst e; exact .inr (.inl h0)
      · rw [upd_ne e]; exact s.gn b hb
    · obtain ⟨v, h1, h2⟩ := p.ok i r h
      exact ⟨v, h1, h2.mono eG ⟨[], by simp⟩⟩
  | d x => exact ⟨G, s, c, p, h, Ex.refl G⟩
  | c k => exact ⟨G, s, c, p, h, Ex.refl G⟩
  | s ns => exact ⟨G, s, c, p, h, Ex.refl G⟩
  | b ks => exact ⟨G, s, c, p, h, Ex.refl G⟩
/-- a cell is let go: what it holds is known for good -/
theorem freeze {k : Nat} {ds : List PyData} (c : Cells K G H As κ) (h : It K G As v (.c k)) (hk : κ[k]? = some (.l ds)) :
    ∃ G', Step G H As G' H As ∧ Cells K G' H As (κ.set k (.z (.list ds))) ∧ Rp K G' v (.list ds) := by
  obtain ⟨a, h1, rfl⟩ := h
  obtain ⟨g0, vs, hq, rp⟩ := c.ok k _ a hk h1
  have eG : Ex G (upd G a (.lst vs)) := Ex.new g0
  have hm : a ∈ As := List.mem_of_getElem? h1
  refine ⟨upd G a (.lst vs), ⟨eG, ⟨[], by simp⟩, fun _ h => .inl h, fun _ _ _ h => h, fun _ h => h, fun b hb => ?_⟩, ⟨c.ext.learn hq, by rw [List.length_set]; exact c.len, c.nd, c.al, fun j x b e1 e2 => ?_⟩, .lst upd_same (RpA.mono eG _ _ rp)⟩
  · by_cases e : b = a
    · subst e; exact .inr (.inr hm)
    · exact .inl (by rw [upd_ne e]; exact hb)
  · by_cases hj : j = k
    · subst hj
      rw [h1] at e2; cases e2
      rw [List.getElem?_set_self (List.getElem?_eq_some_iff.mp hk).1] at e1
      cases e1
      exact Rp.lst upd_same (RpA.mono eG _ _ rp)
    · rw [List.getElem?_set_ne (fun z => hj z.symm)] at e1
      have w := c.ok j x b e1 e2
      have ne : b ≠ a := fun z => hj (by
        subst z
        obtain ⟨l1, q1⟩ := List.getElem?_eq_some_iff.mp e2
        obtain ⟨l2, q2⟩ := List.getElem?_eq_some_iff.mp h1
        exact (List.getElem_inj c.nd).mp (q1.trans q2.symm))
      cases x with
      | l ds' =>
        obtain ⟨w1, ws, w2, w3⟩ := w
        exact ⟨by rw [upd_ne ne]; exact w1, ws, w2, RpA.mono eG _ _ w3⟩
      | z x => exact Rp.mono eG _ _ w
/-- a cell's list is another one now -/
theorem Cells.write {k : Nat} {a : Addr} {ds es : List PyData} {vs : List V} (c : Cells K G H As κ) (hk : κ[k]? = some (.l ds)) (h1 : As[k]? = some a) (hv : RpA K G vs es) : Cells K G (upd H a (.lst vs)) As (κ.set k (.l es)) := by
  obtain ⟨g0, ws, hq, rp⟩ := c.ok k _ a hk h1
  refine ⟨c.ext.mut g0, by rw [List.length_set]; exact c.len, c.nd, fun b hb => ?_, fun j x b e1 e2 => ?_⟩
  · by_cases e : b = a
    · subst e; exact ⟨_, upd_same⟩
    · rw [upd_ne e]; exact c.al b hb
  · by_cases hj : j = k
    · subst hj
      rw [h1] at e2; cases e2
      rw [List.getElem?_set_self (List.getElem?_eq_some_iff.mp hk).1] at e1
      cases e1
      exact ⟨g0, vs, upd_same, hv⟩
    · rw [List.getElem?_set_ne (fun z => hj z.symm)] at e1
      have w := c.ok j x b e1 e2
      have ne : b ≠ a := fun z => hj (by
        subst z
        obtain ⟨l1, q1⟩ := List.getElem?_eq_some_iff.mp e2
        obtain ⟨l2, q2⟩ := List.getElem?_eq_some_iff.mp h1
        exact (List.getElem_inj c.nd).mp (q1.trans q2.symm))
      cases x with
      | l ds' =>
        obtain ⟨w1, ws', w2, w3⟩ := w
        exact ⟨w1, ws', by rw [upd_ne ne]; exact w2, w3⟩
      | z x => exact w
theorem Step.write {a : Addr} {o u : HO} (hm : a ∈ As) (hq : H a = some u) : Step G H As G (upd H a o) As :=
  ⟨Ex.refl G, ⟨[], by simp⟩, fun _ h => .inl h, fun b u hb e => by
    rw [upd_ne (fun z => hb (by rw [z]; exact hm))]; exact e, fun b e => by
    by_cases q : b = a
    · subst q; rw [upd_same] at e; cases e
    · rw [upd_ne q] at e; exact e, fun _ e => .inl e⟩
/-- a new cell -/
theorem Cells.more {q : Addr} {ds : List PyData} {vs : List V} (c : Cells K G H As κ) (g0 : G q = none) (nin : q ∉ As) (hq : H q = some (.lst vs)) (rp : RpA K G vs ds) : Cells K G H (As ++ [q]) (κ ++ [.l ds]) where
  ext := c.ext
  len := by rw [List.length_append, List.length_append, c.len]; rfl
  nd := by
    rw [List.nodup_append]
    refine ⟨c.nd, by simp, fun x hx y hy e => nin ?_⟩
    rw [List.mem_singleton] at hy
    rw [← hy, ← e]; exact hx
  al := fun a h => by
    rcases List.mem_append.mp h with h | h
    · exact c.al a h
    · rw [List.mem_singleton] at h
      subst h; exact ⟨_, hq⟩
  ok := fun k x a e1 e2 => by
    by_cases hk : k < κ.length
    · rw [List.getElem?_append_left hk] at e1
      rw [List.getElem?_append_left (by rw [c.len]; exact hk)] at e2
      exact c.ok k x a e1 e2
    · have hk' : k = κ.length := by
        have := (List.getElem?_eq_some_iff.mp e1).1
        rw [List.length_append] at this
        have z : ([Cell.l ds] : List Cell).length = 1 := rfl
        omega
      subst hk'
      rw [List.getElem?_append_right (Nat.le_refl _), Nat.sub_self] at e1
      rw [← c.len, List.getElem?_append_right (Nat.le_refl _), Nat.sub_self] at e2
      cases e1
      cases e2
      exact ⟨g0, vs, hq, rp⟩
/-- a value as it is seen: its items are known for good -/
def Vw (K : PySem.W.Frag) (G H : Hp) (v : V) : PyData → Prop
  | .list ds => ∃ a vs, v = .ref a ∧ H a = some (.lst vs) ∧ RpA K G vs ds
  | x => Rp K G v x
theorem Vw.of (e : Ex G H) {x : PyData} (h : Rp K G v x) : Vw K G H v x := by
  cases h with
  | non => exact .non
  | bl b => exact .bl b
  | int i => exact .int i
  | str z => exact .str z
  | lst h1 h2 => exact ⟨_, _, rfl, e _ _ h1, h2⟩
  | tup h1 h2 => exact .tup h1 h2
theorem Vw.rp (e : Ex G H) : ∀ {x : PyData}, Vw K G H v x → Rp K H v x
  | .none, h => Rp.mono e _ _ h
  | .bool _, h => Rp.mono e _ _ h
  | .int _, h => Rp.mono e _ _ h
  | .str _, h => Rp.mono e _ _ h
  | .list _, h => by
    obtain ⟨a, vs, rfl, h1, h2⟩ := h
    exact .lst h1 (RpA.mono e _ _ h2)
  | .tuple _, h => Rp.mono e _ _ h
  | .dict _, h => Rp.mono e _ _ h
theorem Vw.tup (e : Ex G H) {ds : List PyData} (h : Vw K G H v (.tuple ds)) : ∃ a vs, v = .ref a ∧ SqT K H a vs ∧ RpA K G vs ds := by
  have h : Rp K G v (.tuple ds) := h
  cases h with
  | tup h1 h2 => exact ⟨_, _, rfl, ex_st e h1, h2⟩
theorem It.vw (c : Cells K G H As κ) (h : It K G As v r) {x : PyData} (e : val κ r = some x) : Vw K G H v x := by
  cases r with
  | d y =>
    cases e
    exact Vw.of c.ext h
  | f xs => exact h.elim
  | s ns => cases e
  | b ks => cases e
  | c k =>
    obtain ⟨a, h1, rfl⟩ := h
    unfold val at e
    simp only at e
    cases q : κ[k]? with
    | none => rw [q] at e; cases e
    | some cc =>
      rw [q] at e
      have w := c.ok k cc a q h1
      cases cc with
      | l ds =>
        cases e
        obtain ⟨_, vs, w2, w3⟩ := w
        exact ⟨a, vs, rfl, w2, w3⟩
      | z y =>
        cases e
        exact Vw.of c.ext w
end

/-! ### the judgements -/
/-- a reading over plain data: an expression, a test, arguments, a statement, a target -/
abbrev DTE := Rho → Kap → (R → Kap → Prop) → Prop
abbrev DTT := Rho → Kap → (Bool → Kap → Prop) → Prop
abbrev DTA := Rho → Kap → (List R → Kap → Prop) → Prop
structure DEnds where
  nx : Rho → Kap → Prop
  rt : R → Kap → Prop
  bk : Rho → Kap → Prop := fun _ _ => False
  ct : Rho → Kap → Prop := fun _ _ => False
abbrev DTS := DEnds → Rho → Kap → Prop
abbrev DTG := R → Rho → Kap → (Rho → Kap → Prop) → Prop

def DE (X : Cx) (e : Expr) (w : DTE) : Prop := ∃ t, PE X e t ∧ ∀ (G H : Hp) (As : List Addr) (σ : L2.St) (ρ : Rho) (κ : Kap) (P : R → Kap → Prop) (Q : VK), Cells X.K G H As κ → Places X.K G As σ ρ → w ρ κ P →
  (∀ v r G' H' As' κ', Step G H As G' H' As' → Cells X.K G' H' As' κ' → Places X.K G' As' σ ρ → Rv X.K H G' H' As' v r → P r κ' → Q v H') → t σ H Q
def DT (X : Cx) (e : Expr) (w : DTT) : Prop := ∃ t, PT X e t ∧ ∀ (G H : Hp) (As : List Addr) (σ : L2.St) (ρ : Rho) (κ : Kap) (P : Bool → Kap → Prop) (Q : Bool → Hp → Prop), Cells X.K G H As κ → Places X.K G As σ ρ → w ρ κ P →
  (∀ b G' H' As' κ', Step G H As G' H' As' → Cells X.K G' H' As' κ' → Places X.K G' As' σ ρ → P b κ' → Q b H') → t σ H Q
def DW (X : Cx) (e : Expr) (w : DTT) : Prop := ∃ t, PW X e t ∧ ∀ (G H : Hp) (As : List Addr) (σ : L2.St) (ρ : Rho) (κ : Kap) (P : Bool → Kap → Prop) (Q : Bool → Hp → Prop), Cells X.K G H As κ → Places X.K G As σ ρ → w ρ κ P →
  (∀ b G' H' As' κ', Step G H As G' H' As' → Cells X.K G' H' As' κ' → Places X.K G' As' σ ρ → P b κ' → Q b H') → t σ H Q
def DA (X : Cx) (es : List Expr) (w : DTA) : Prop := ∃ t, PA X es t ∧ ∀ (G H : Hp) (As : List Addr) (σ : L2.St) (ρ : Rho) (κ : Kap) (P : List R → Kap → Prop) (Q : List V → Hp → Prop), Cells X.K G H As κ → Places X.K G As σ ρ → w ρ κ P →
  (∀ vs rs G' H' As' κ', Step G H As G' H' As' → Cells X.K G' H' As' κ' → Places X.K G' As' σ ρ → Paired (It X.K G' As') vs rs → rs.length = es.length → P rs κ' → Q vs H') → t σ H Q
/-- what a statement reaches -/
structure Reach (K : PySem.W.Frag) (G H : Hp) (As : List Addr) (E : DEnds) (D : Ends) : Prop where
  nx : ∀ σ' ρ' G' H' As' κ', Step G H As G' H' As' → Cells K G' H' As' κ' → Places K G' As' σ' ρ' → E.nx ρ' κ' → D.nx σ' H'
  bk : ∀ σ' ρ' G' H' As' κ', Step G H As G' H' As' → Cells K G' H' As' κ' → Places K G' As' σ' ρ' → E.bk ρ' κ' → D.bk σ' H'
  ct : ∀ σ' ρ' G' H' As' κ', Step G H As G' H' As' → Cells K G' H' As' κ' → Places K G' As' σ' ρ' → E.ct ρ' κ' → D.ct σ' H'
  rt : ∀ v r G' H' As' κ', Step G H As G' H' As' → Cells K G' H' As' κ' → Rv K H G' H' As' v r → E.rt r κ' → D.rt v H'
def DS (X : Cx) (st : Stmt) (w : DTS) : Prop := ∃ t, PS X st t ∧ ∀ (G H : Hp) (As : List Addr) (σ : L2.St) (ρ : Rho) (κ : Kap) (E : DEnds) (D : Ends), Cells X.K G H As κ → Places X.K G As σ ρ → w E ρ κ → Reach X.K G H As E D → t D σ H
def DSs (X : Cx) (sts : List Stmt) (w : DTS) : Prop := ∃ t, PSs X sts t ∧ ∀ (G H : Hp) (As : List Addr) (σ : L2.St) (ρ : Rho) (κ : Kap) (E : DEnds) (D : Ends), Cells X.K G H As κ → Places X.K G As σ ρ → w E ρ κ → Reach X.K G H As E D → t D σ H
section
variable {K : PySem.W.Frag} {G H G1 H1 : Hp} {As As1 : List Addr} {E : DEnds} {D : Ends}
theorem Rv.back {K : PySem.W.Frag} {G0 H0 G1 H1 G H : Hp} {As0 As1 As : List Addr} {v : V} {r : R} (s : Step G0 H0 As0 G1 H1 As1) (h : Rv K H1 G H As v r) : Rv K H0 G H As v r := by
  cases r with
  | f xs =>
    obtain ⟨p, vs, e, h0, q⟩ := h
    exact ⟨p, vs, e, s.dom p h0, q⟩
  | d x => exact h
  | c k => exact h
  | s ns => exact h
  | b ks => exact h
theorem Reach.step (r : Reach K G H As E D) (s : Step G H As G1 H1 As1) : Reach K G1 H1 As1 E D :=
  ⟨fun a b c d e f x => r.nx a b c d e f (s.trans x), fun a b c d e f x => r.bk a b c d e f (s.trans x), fun a b c d e f x => r.ct a b c d e f (s.trans x), fun a b c d e f x y z => r.rt a b c d e f (s.trans x) y (z.back s)⟩
end

/-! ### names, constants -/
def wVar (i : Nat) : DTE := fun ρ κ P => match ρ[i]? with
  | some (some r) => P r κ
  | _ => False
def wC (x : PyData) : DTE := fun _ κ P => P (.d x) κ
section
variable {X : Cx}
theorem de_var (i : Nat) {x : Str} {pos : Pos} (hN : X.N[i]? = some x := by rfl) (hv : Vis X.env.scope x := by first | exact Or.inl rfl | exact Or.inr (Or.inl rfl) | exact Or.inr (Or.inr rfl)) (hd : (x == ("__debug__" : Str)) = false := by decide)
    (hcd : (x == ("__classdict__" : Str)) = false := by decide) : DE X (.Name x pos) (wVar i) := by
  refine ⟨_, pe_var hN hv hd hcd, fun G H As σ ρ κ P Q c p w k => ?_⟩
  unfold wVar at w
  split at w
  · rename_i r hr
    obtain ⟨v, h1, h2⟩ := p.ok i r hr
    refine ⟨v, h1, k v r G H As κ Step.refl c p ?_ w⟩
    cases r with
    | f xs => exact h2.elim
    | d x => exact h2
    | c k => exact h2
    | s ns => exact h2
    | b ks => exact h2
  · exact w.elim
theorem de_c {e : Expr} {v : V} {x : PyData} (h : PE X e (tC v)) (hx : ∀ G : Hp, Rp X.K G v x) : DE X e (wC x) :=
  ⟨_, h, fun G H As σ ρ κ P Q c p w k => k v (.d x) G H As κ Step.refl c p (hx G) w⟩
theorem de_int {i : Int} {j : Nat} {pos : Pos} : DE X (.Constant (.int i) j pos) (wC (.int i)) := de_c pe_int fun _ => .int i
theorem de_bl {b : Bool} {j : Nat} {pos : Pos} : DE X (.Constant (.bool b) j pos) (wC (.bool b)) := de_c pe_bl fun _ => .bl b
theorem de_non {j : Nat} {pos : Pos} : DE X (.Constant .none j pos) (wC .none) := de_c pe_non fun _ => .non
theorem de_str {x : Str} {j : Nat} {pos : Pos} : DE X (.Constant (.str x) j pos) (wC (.str x)) := de_c pe_str fun _ => .str x
end

/-! ### operations by values: what comes of them -/
/-- what an operation hands back: a value that is known, a new list, a new tuple -/
inductive Out where
  | v (x : PyData)
  | n (xs : List PyData)
  | t (xs : List PyData)
def Out.r : Out → R
  | .v x => .d x
  | .n xs => .f xs
  | .t xs => .d (.tuple xs)
def OutK (K : PySem.W.Frag) (G H : Hp) (Q : VK) : Out → Prop
  | .v x => ∀ w, Rp K G w x → Q w H
  | .n xs => ∀ p vs, H p = none → RpA K G vs xs → Q (.ref p) (upd H p (.lst vs))
  | .t xs => (∀ p vs, H p = none → RpA K G vs xs → Q (.ref p) (upd H p (.tup vs))) ∧ ∀ w, Rp K G w (.tuple xs) → Q w H
/-- an option that must be there -/
def Opt {α : Type} (o : Option α) (k : α → Prop) : Prop := match o with
  | some a => k a
  | none => False
theorem opt_some {α : Type} {a : α} {k : α → Prop} : Opt (some a) k = k a := rfl
theorem Opt.ex {α : Type} {o : Option α} {k : α → Prop} (h : Opt o k) : ∃ a, o = some a ∧ k a := by
  cases o with
  | none => exact h.elim
  | some a => exact ⟨a, rfl, h⟩
theorem Opt.mk {α : Type} {o : Option α} {k : α → Prop} {a : α} (e : o = some a) (h : k a) : Opt o k := by
  rw [e]; exact h
section
variable {K : PySem.W.Frag} {G H G0 H0 : Hp} {As As0 : List Addr} {σ : L2.St} {ρ : Rho} {κ : Kap} {Q : VK} {P : R → Kap → Prop}
theorem out_ok (s : Step G0 H0 As0 G H As) (c : Cells K G H As κ) (p : Places K G As σ ρ) (o : Out) (h : P o.r κ)
    (k : ∀ v r G' H' As' κ', Step G0 H0 As0 G' H' As' → Cells K G' H' As' κ' → Places K G' As' σ ρ → Rv K H0 G' H' As' v r → P r κ' → Q v H') : OutK K G H Q o := by
  cases o with
  | v x => exact fun w hw => k w (.d x) G H As κ s c p hw h
  | n xs => exact fun q vs hq hv => k _ (.f xs) G _ As κ (s.trans (Step.fresh hq)) (c.fresh hq) p ⟨q, vs, rfl, s.dom q hq, c.ext.free hq, c.notin hq, upd_same, hv⟩ h
  | t xs =>
    refine ⟨fun q vs hq hv => k _ (.d (.tuple xs)) _ _ As κ (s.trans (Step.laid c.ext hq)) (c.laid hq) (p.step (Step.laid c.ext hq)) ?_ h, fun w hw => k w (.d (.tuple xs)) G H As κ s c p hw h⟩
    exact Rp.tup (sqt_of upd_same) (RpA.mono (Ex.new (c.ext.free hq)) _ _ hv)
end
def OpD (K : PySem.W.Frag) (r2 : R2) (g : PyData → PyData → Option Out) : Prop := ∀ (G H : Hp) (v u : V) (x y : PyData) (o : Out) (Q : VK), Ex G H → Vw K G H v x → Vw K G H u y → g x y = some o → OutK K G H Q o → r2 v u H Q
def UnD (K : PySem.W.Frag) (r1 : V → Hp → VK → Prop) (g : PyData → Option Out) : Prop := ∀ (G H : Hp) (v : V) (x : PyData) (o : Out) (Q : VK), Ex G H → Vw K G H v x → g x = some o → OutK K G H Q o → r1 v H Q
def CallD (K : PySem.W.Frag) (rc : List V → Hp → VK → Prop) (g : List PyData → Option Out) : Prop := ∀ (G H : Hp) (vs : List V) (xs : List PyData) (o : Out) (Q : VK), Ex G H → Paired (Vw K G H) vs xs → g xs = some o → OutK K G H Q o → rc vs H Q
def wBin (g : PyData → PyData → Option Out) (wa wb : DTE) : DTE := fun ρ κ P => wa ρ κ fun r1 κ1 => wb ρ κ1 fun r2 κ2 => Opt (val κ2 r1.st) fun x => Opt (val κ2 r2.st) fun y => Opt (g x y) fun o => P o.r κ2
def wUn (g : PyData → Option Out) (wa : DTE) : DTE := fun ρ κ P => wa ρ κ fun r1 κ1 => Opt (val κ1 r1.st) fun x => Opt (g x) fun o => P o.r κ1
def vals (κ : Kap) : List R → Option (List PyData)
  | [] => some []
  | r :: rs => match val κ r, vals κ rs with
    | some x, some xs => some (x :: xs)
    | _, _ => none
def wCB (g : List PyData → Option Out) (wa : DTA) : DTE := fun ρ κ P => wa ρ κ fun rs κ1 => Opt (vals κ1 rs) fun xs => Opt (g xs) fun o => P o.r κ1
section
variable {X : Cx} {a b : Expr} {wa wb : DTE} {pos : Pos}
theorem bin_reads {ta tb : TE} {r2 : R2} {g : PyData → PyData → Option Out} (hg : OpD X.K r2 g)
    (ha : ∀ (G H : Hp) (As : List Addr) (σ : L2.St) (ρ : Rho) (κ : Kap) (P : R → Kap → Prop) (Q : VK), Cells X.K G H As κ → Places X.K G As σ ρ → wa ρ κ P → (∀ v r G' H' As' κ', Step G H As G' H' As' → Cells X.K G' H' As' κ' → Places X.K G' As' σ ρ → Rv X.K H G' H' As' v r → P r κ' → Q v H') → ta σ H Q)
    (hb : ∀ (G H : Hp) (As : List Addr) (σ : L2.St) (ρ : Rho) (κ : Kap) (P : R → Kap → Prop) (Q : VK), Cells X.K G H As κ → Places X.K G As σ ρ → wb ρ κ P → (∀ v r G' H' As' κ', Step G H As G' H' As' → Cells X.K G' H' As' κ' → Places X.K G' As' σ ρ → Rv X.K H G' H' As' v r → P r κ' → Q v H') → tb σ H Q)
    (G H : Hp) (As : List Addr) (σ : L2.St) (ρ : Rho) (κ : Kap) (P : R → Kap → Prop) (Q : VK) (c : Cells X.K G H As κ) (p : Places X.K G As σ ρ) (w : wBin g wa wb ρ κ P)
    (k : ∀ v r G' H' As' κ', Step G H As G' H' As' → Cells X.K G' H' As' κ' → Places X.K G' As' σ ρ → Rv X.K H G' H' As' v r → P r κ' → Q v H') : tOp r2 ta tb σ H Q := by
  refine ha G H As σ ρ κ _ _ c p w fun v1 r1 G1 H1 As1 κ1 s1 c1 p1 i1 w1 => ?_
  obtain ⟨G1', s1', c1', p1', i1', _⟩ := settle s1 c1 p1 i1
  refine hb G1' H1 As1 σ ρ κ1 _ _ c1' p1' w1 fun v2 r2 G2 H2 As2 κ2 s2 c2 p2 i2 w2 => ?_
  obtain ⟨G2', s2', c2', p2', i2', _⟩ := settle s2 c2 p2 i2
  obtain ⟨x, ex, w2⟩ := w2.ex
  obtain ⟨y, ey, w2⟩ := w2.ex
  obtain ⟨o, eo, w2⟩ := w2.ex
  exact hg G2' H2 v1 v2 x y o Q c2'.ext ((s2'.it i1').vw c2' ex) (i2'.vw c2' ey) eo (out_ok (s1'.trans s2') c2' p2' o w2 k)
theorem de_op {op : Operator} {r2 : R2} {g : PyData → PyData → Option Out} (ho : OpR X (binaryOp op) r2) (hg : OpD X.K r2 g) (ha : DE X a wa) (hb : DE X b wb) : DE X (.BinOp a op b pos) (wBin g wa wb) := by
  obtain ⟨ta, pa, ha⟩ := ha
  obtain ⟨tb, pb, hb⟩ := hb
  exact ⟨_, pe_op ho pa pb, bin_reads hg ha hb⟩
theorem de_cmp {op : CmpOp} {r2 : R2} {g : PyData → PyData → Option Out} (ho : OpR X (compareOp op) r2) (hg : OpD X.K r2 g) (ha : DE X a wa) (hb : DE X b wb) (hm : behindInMarks op b = false) : DE X (.Compare a [op] [b] pos) (wBin g wa wb) := by
  obtain ⟨ta, pa, ha⟩ := ha
  obtain ⟨tb, pb, hb⟩ := hb
  exact ⟨_, pe_cmpR ho pa pb hm, bin_reads hg ha hb⟩
theorem de_ix {r2 : R2} {g : PyData → PyData → Option Out} (ho : IxR X r2) (hg : OpD X.K r2 g) (ha : DE X a wa) (hb : DE X b wb) (hs : PlainIx b) : DE X (.Subscript a b pos) (wBin g wa wb) := by
  obtain ⟨ta, pa, ha⟩ := ha
  obtain ⟨tb, pb, hb⟩ := hb
  exact ⟨_, pe_ix ho pa pb hs, bin_reads hg ha hb⟩
theorem de_un {op : UnaryOp} {r1 : V → Hp → VK → Prop} {g : PyData → Option Out} (ho : UnR X (unaryOp op) r1) (hg : UnD X.K r1 g) (ha : DE X a wa) : DE X (.UnaryOp op a pos) (wUn g wa) := by
  obtain ⟨ta, pa, ha⟩ := ha
  refine ⟨_, pe_un ho pa, fun G H As σ ρ κ P Q c p w k => ?_⟩
  refine ha G H As σ ρ κ _ _ c p w fun v1 r1 G1 H1 As1 κ1 s1 c1 p1 i1 w1 => ?_
  obtain ⟨G1', s1', c1', p1', i1', _⟩ := settle s1 c1 p1 i1
  obtain ⟨x, ex, w2⟩ := w1.ex
  obtain ⟨o, eo, w2⟩ := w2.ex
  exact hg G1' H1 v1 x o Q c1'.ext (i1'.vw c1' ex) eo (out_ok s1' c1' p1' o w2 k)
end
end DL
/-! DLb: arguments, displays, calls, targets, statements, loops, comprehensions, defs, over plain data. -/
namespace DL
open PySem PySem.Spec PyProof.Rows L2

/-! ### what is let go for good -/
def dat (κ : Kap) : R → Option (PyData × Kap)
  | .d x => some (x, κ)
  | .f xs => some (.list xs, κ)
  | .c k => match κ[k]? with
    | some (.l xs) => some (.list xs, κ.set k (.z (.list xs)))
    | some (.z x) => some (x, κ)
    | none => none
  | .s _ => none
  | .b _ => none
def dats (κ : Kap) : List R → Option (List PyData × Kap)
  | [] => some ([], κ)
  | r :: rs => match dat κ r with
    | some (x, κ1) => match dats κ1 rs with
      | some (xs, κ2) => some (x :: xs, κ2)
      | none => none
    | none => none
/-- what a def is handed: plain data, or the script -/
def arg (κ : Kap) : R → Option (R × Kap)
  | .s ns => some (.s ns, κ)
  | r => match dat κ r with
    | some (x, κ1) => some (.d x, κ1)
    | none => none
def args (κ : Kap) : List R → Option (List R × Kap)
  | [] => some ([], κ)
  | r :: rs => match arg κ r with
    | some (x, κ1) => match args κ1 rs with
      | some (xs, κ2) => some (x :: xs, κ2)
      | none => none
    | none => none
section
variable {K : PySem.W.Frag} {G H G' H' G1 H1 H0 : Hp} {As As' As1 : List Addr} {σ : L2.St} {ρ : Rho} {κ κ' : Kap} {v : V} {r : R}
theorem dat_ok {x : PyData} (c : Cells K G H As κ) (h : It K G As v r) (e : dat κ r = some (x, κ')) : ∃ G', Step G H As G' H As ∧ Cells K G' H As κ' ∧ Rp K G' v x := by
  cases r with
  | d y =>
    cases e
    exact ⟨G, Step.refl, c, h⟩
  | f xs => exact h.elim
  | s ns => cases e
  | b ks => cases e
  | c k =>
    unfold dat at e
    simp only at e
    cases q : κ[k]? with
    | none => rw [q] at e; cases e
    | some cc =>
      rw [q] at e
      cases cc with
      | l ds =>
        cases e
        exact freeze c h q
      | z y =>
        cases e
        obtain ⟨a, h1, rfl⟩ := h
        exact ⟨G, Step.refl, c, c.ok k _ a q h1⟩
theorem dats_ok : ∀ {rs : List R} {vs : List V} {G : Hp} {κ : Kap} {xs : List PyData}, Cells K G H As κ → Paired (It K G As) vs rs → dats κ rs = some (xs, κ') → ∃ G', Step G H As G' H As ∧ Cells K G' H As κ' ∧ RpA K G' vs xs
  | [], _, G, κ, xs, c, h, e => by
    cases h
    cases e
    exact ⟨G, Step.refl, c, .nil⟩
  | r :: rs, _, G, κ, xs, c, h, e => by
    cases h with
    | cons h1 h2 =>
      unfold dats at e
      cases q : dat κ r with
      | none => rw [q] at e; cases e
      | some p =>
        obtain ⟨x, κ1⟩ := p
        rw [q] at e
        simp only at e
        cases q2 : dats κ1 rs with
        | none => rw [q2] at e; cases e
        | some p2 =>
          obtain ⟨ys, κ2⟩ := p2
          rw [q2] at e
          cases e
          obtain ⟨G1, s1, c1, r1⟩ := dat_ok c h1 q
          obtain ⟨G2, s2, c2, r2⟩ := dats_ok c1 (Paired.mapP h2 fun _ _ z => s1.it z) q2
          exact ⟨G2, s1.trans s2, c2, .cons (Rp.mono s2.ex _ _ r1) r2⟩
theorem arg_ok {x : R} (c : Cells K G H As κ) (h : It K G As v r) (e : arg κ r = some (x, κ')) : ∃ G', Step G H As G' H As ∧ Cells K G' H As κ' ∧ It K G' [] v x := by
  cases r with
  | s ns =>
    cases e
    exact ⟨G, Step.refl, c, h⟩
  | f xs => exact h.elim
  | d y =>
    cases e
    exact ⟨G, Step.refl, c, h⟩
  | b ks => cases e
  | c k =>
    unfold arg at e
    cases q : dat κ (.c k) with
    | none => simp only [q] at e; cases e
    | some p =>
      obtain ⟨y, κ1⟩ := p
      simp only [q] at e
      cases e
      exact dat_ok c h q
theorem It.none (e : Ex G G') (h : It K G [] v r) : It K G' [] v r := h.mono e ⟨[], rfl⟩
theorem args_ok : ∀ {rs : List R} {vs : List V} {G : Hp} {κ : Kap} {xs : List R}, Cells K G H As κ → Paired (It K G As) vs rs → args κ rs = some (xs, κ') → ∃ G', Step G H As G' H As ∧ Cells K G' H As κ' ∧ Paired (It K G' []) vs xs
  | [], _, G, κ, xs, c, h, e => by
    cases h
    cases e
    exact ⟨G, Step.refl, c, .nil⟩
  | r :: rs, _, G, κ, xs, c, h, e => by
    cases h with
    | cons h1 h2 =>
      unfold args at e
      cases q : arg κ r with
      | none => rw [q] at e; cases e
      | some p =>
        obtain ⟨x, κ1⟩ := p
        rw [q] at e
        simp only at e
        cases q2 : args κ1 rs with
        | none => rw [q2] at e; cases e
        | some p2 =>
          obtain ⟨ys, κ2⟩ := p2
          rw [q2] at e
          cases e
          obtain ⟨G1, s1, c1, r1⟩ := arg_ok c h1 q
          obtain ⟨G2, s2, c2, r2⟩ := args_ok c1 (Paired.mapP h2 fun _ _ z => s1.it z) q2
          exact ⟨G2, s1.trans s2, c2, .cons (r1.none s2.ex) r2⟩
theorem vals_ok : ∀ {rs : List R} {vs : List V} {xs : List PyData}, Cells K G H As κ → Paired (It K G As) vs rs → vals κ rs = some xs → Paired (Vw K G H) vs xs
  | [], _, xs, c, h, e => by
    cases h
    cases e
    exact .nil
  | r :: rs, _, xs, c, h, e => by
    cases h with
    | cons h1 h2 =>
      unfold vals at e
      cases q : val κ r with
      | none => rw [q] at e; cases e
      | some x =>
        rw [q] at e
        cases q2 : vals κ rs with
        | none => rw [q2] at e; cases e
        | some ys =>
          rw [q2] at e
          cases e
          exact .cons (h1.vw c q) (vals_ok c h2 q2)
end

/-! ### arguments -/
def wNil : DTA := fun _ κ P => P [] κ
def wCons (wa : DTE) (wr : DTA) : DTA := fun ρ κ P => wa ρ κ fun r κ1 => wr ρ κ1 fun rs κ2 => P (r.st :: rs) κ2
section
variable {X : Cx} {e : Expr} {es : List Expr} {wa : DTE} {wr : DTA} {pos : Pos}
theorem da_nil : DA X [] wNil := ⟨_, pa_nil, fun G H As σ ρ κ P Q c p w k => k [] [] G H As κ Step.refl c p .nil rfl w⟩
theorem da_cons (ha : DE X e wa) (hr : DA X es wr) (hs : starEach (e :: es) X.env = (false, eval e X.env) :: starEach es X.env := by rfl) : DA X (e :: es) (wCons wa wr) := by
  obtain ⟨ta, pa, ha⟩ := ha
  obtain ⟨tr, pr, hr⟩ := hr
  refine ⟨_, pa_cons pa pr hs, fun G H As σ ρ κ P Q c p w k => ?_⟩
  refine ha G H As σ ρ κ _ _ c p w fun v1 r1 G1 H1 As1 κ1 s1 c1 p1 i1 w1 => ?_
  obtain ⟨G1', s1', c1', p1', i1', _⟩ := settle s1 c1 p1 i1
  refine hr G1' H1 As1 σ ρ κ1 _ _ c1' p1' w1 fun vs rs G2 H2 As2 κ2 s2 c2 p2 i2 l2 w2 => ?_
  exact k _ _ G2 H2 As2 κ2 (s1'.trans s2) c2 p2 (.cons (s2.it i1') i2) (congrArg (· + 1) l2) w2
/-! displays -/
def wTup (wa : DTA) : DTE := fun ρ κ P => wa ρ κ fun rs κ1 => Opt (dats κ1 rs) fun q => q.1.length ≤ sizeLine ∧ P (.d (.tuple q.1)) q.2
def wLst (wa : DTA) : DTE := fun ρ κ P => wa ρ κ fun rs κ1 => Opt (dats κ1 rs) fun q => q.1.length ≤ sizeLine ∧ P (.f q.1) q.2
theorem de_tup {x1 : Nat} (h : DA X es wr) : DE X (.Tuple es x1 pos) (wTup wr) := by
  obtain ⟨t, pt, h⟩ := h
  refine ⟨_, pe_tup pt, fun G H As σ ρ κ P Q c p w k => ?_⟩
  refine h G H As σ ρ κ _ _ c p w fun vs rs G1 H1 As1 κ1 s1 c1 p1 i1 el w1 => ?_
  obtain ⟨⟨xs, κ2⟩, e, hl, w2⟩ := w1.ex
  obtain ⟨G2, s2, c2, rp⟩ := dats_ok c1 i1 e
  exact ⟨by rw [rp.len]; exact hl, fun q hq => (out_ok (P := P) (s1.trans s2) c2 (p1.step s2) (.t xs) w2 k).1 q _ hq rp⟩
theorem de_lst (h : DA X es wr) : DE X (.List es pos) (wLst wr) := by
  obtain ⟨t, pt, h⟩ := h
  refine ⟨_, pe_lst pt, fun G H As σ ρ κ P Q c p w k => ?_⟩
  refine h G H As σ ρ κ _ _ c p w fun vs rs G1 H1 As1 κ1 s1 c1 p1 i1 el w1 => ?_
  obtain ⟨⟨xs, κ2⟩, e, hl, w2⟩ := w1.ex
  obtain ⟨G2, s2, c2, rp⟩ := dats_ok c1 i1 e
  exact ⟨by rw [rp.len]; exact hl, fun q hq => out_ok (P := P) (s1.trans s2) c2 (p1.step s2) (.n xs) w2 k q _ hq rp⟩
/-! built-ins by name -/
theorem cb_reads {t : TA} {rc : List V → Hp → VK → Prop} {g : List PyData → Option Out} (hg : CallD X.K rc g)
    (h : ∀ (G H : Hp) (As : List Addr) (σ : L2.St) (ρ : Rho) (κ : Kap) (P : List R → Kap → Prop) (Q : List V → Hp → Prop), Cells X.K G H As κ → Places X.K G As σ ρ → wr ρ κ P → (∀ vs rs G' H' As' κ', Step G H As G' H' As' → Cells X.K G' H' As' κ' → Places X.K G' As' σ ρ → Paired (It X.K G' As') vs rs → rs.length = es.length → P rs κ' → Q vs H') → t σ H Q)
    (G H : Hp) (As : List Addr) (σ : L2.St) (ρ : Rho) (κ : Kap) (P : R → Kap → Prop) (Q : VK) (c : Cells X.K G H As κ) (p : Places X.K G As σ ρ) (w : wCB g wr ρ κ P)
    (k : ∀ v r G' H' As' κ', Step G H As G' H' As' → Cells X.K G' H' As' κ' → Places X.K G' As' σ ρ → Rv X.K H G' H' As' v r → P r κ' → Q v H') : tCB rc t σ H Q := by
  refine h G H As σ ρ κ _ _ c p w fun vs rs G1 H1 As1 κ1 s1 c1 p1 i1 el w1 => ?_
  obtain ⟨xs, e, w2⟩ := w1.ex
  obtain ⟨o, eo, w3⟩ := w2.ex
  exact hg G1 H1 vs xs o Q c1.ext (vals_ok c1 i1 e) eo (out_ok s1 c1 p1 o w3 k)
theorem de_callB {id : String} {x : Str} {p : Pos} {rc : List V → Hp → VK → Prop} {g : List PyData → Option Out} (hc : CallR X (.builtin id) rc) (hgd : CallD X.K rc g) (hm : X.mg x = none) (ha : DA X (e :: es) wr) (hg : Gl X x := by rfl) (hv : bootBuiltins x = some (.builtin id) := by decide +kernel) (hn : x ≠ "__name__" := by decide) (hdb : (x == ("__debug__" : Str)) = false := by decide)
    (he : starEach (e :: es) X.env = (false, eval e X.env) :: starEach es X.env := by rfl) (hpl : (backTo pos (starEach es X.env)).any (·.1) = false := by rfl) : DE X (.Call (.Name x p) (e :: es) [] pos) (wCB g wr) := by
  obtain ⟨t, pt, h⟩ := ha
  exact ⟨_, pe_callB hc hg hm hv pt hn hdb he hpl, cb_reads hgd h⟩
theorem de_callTy {T : String} {x : Str} {p : Pos} {rc : List V → Hp → VK → Prop} {g : List PyData → Option Out} (hc : CallR X (.type T) rc) (hgd : CallD X.K rc g) (hm : X.mg x = none) (ha : DA X (e :: es) wr) (hg : Gl X x := by rfl) (hv : bootBuiltins x = some (.type T) := by decide +kernel) (hn : x ≠ "__name__" := by decide) (hdb : (x == ("__debug__" : Str)) = false := by decide)
    (he : starEach (e :: es) X.env = (false, eval e X.env) :: starEach es X.env := by rfl) (hpl : (backTo pos (starEach es X.env)).any (·.1) = false := by rfl) : DE X (.Call (.Name x p) (e :: es) [] pos) (wCB g wr) := by
  obtain ⟨t, pt, h⟩ := ha
  exact ⟨_, pe_callTy hc hg hm hv pt hn hdb he hpl, cb_reads hgd h⟩
end

/-! ### own defs: what they promise over plain data -/
def spD (K : PySem.W.Frag) (n : Nat) (Φ : List R → (R → Prop) → Prop) : Sp := fun vs H Q _ => vs.length = n ∧ ∃ (G : Hp) (rs : List R) (P : R → Prop), Ex G H ∧ Paired (It K G []) vs rs ∧ Φ rs P ∧
  ∀ v r G' H', P r → Ex G' H' → Step G H [] G' H' [] → Rv K H G' H' [] v r → Q v H'
/-- the first argument is a list that may be changed -/
def spL (K : PySem.W.Frag) (n : Nat) (Φ : List PyData → List R → (R → List PyData → Prop) → Prop) : Sp := fun vs H Q _ => vs.length = n ∧ ∃ (G : Hp) (a : Addr) (ws : List V) (bs : List PyData) (rs : List R) (P : R → List PyData → Prop),
  vs = .ref a :: ws ∧ Cells K G H [a] [.l bs] ∧ Paired (It K G []) ws rs ∧ Φ bs rs P ∧
  ∀ v r bs' G' H', P r bs' → Cells K G' H' [a] [.l bs'] → Step G H [a] G' H' [a] → Rv K H G' H' [a] v r → Q v H'
def wCall (Φ : List R → (R → Prop) → Prop) (wa : DTA) : DTE := fun ρ κ P => wa ρ κ fun rs κ1 => Opt (args κ1 rs) fun q => Φ q.1 fun r => P r q.2
def lend (κ : Kap) : List R → Option (Nat × List PyData × List R × Kap)
  | .c k :: rs => match args κ rs with
    | some (xs, κ1) => match κ1[k]? with
      | some (.l bs) => some (k, bs, xs, κ1)
      | _ => none
    | none => none
  | _ => none
/-- the def's own cell is the caller's k-th -/
def R.lab (k : Nat) : R → R
  | .c _ => .c k
  | .b ks => .b (ks.map fun _ => k)
  | r => r
def wCallL (Φ : List PyData → List R → (R → List PyData → Prop) → Prop) (wa : DTA) : DTE := fun ρ κ P => wa ρ κ fun rs κ1 => Opt (lend κ1 rs) fun q => Φ q.2.1 q.2.2.1 fun r bs => P (r.lab q.1) (q.2.2.2.set q.1 (.l bs))
section
variable {K : PySem.W.Frag} {G H G' H' G1 H1 H0 : Hp} {As As' As1 : List Addr} {σ : L2.St} {ρ : Rho} {κ κ' : Kap} {v : V} {r : R}
/-- behind a call that changes none of the cells -/
theorem Cells.call (c : Cells K G H As κ) (s : Step G H [] G' H' []) (e : Ex G' H') : Cells K G' H' As κ where
  ext := e
  len := c.len
  nd := c.nd
  al := fun a h => by
    obtain ⟨o, q⟩ := c.al a h
    exact ⟨o, s.fr a o (by simp) q⟩
  ok := fun k x a e1 e2 => by
    have w := c.ok k x a e1 e2
    cases x with
    | l ds =>
      obtain ⟨w1, ws, w2, w3⟩ := w
      refine ⟨?_, ws, s.fr a _ (by simp) w2, RpA.mono s.ex _ _ w3⟩
      rcases s.gn a w1 with z | z | z
      · exact z
      · rw [w2] at z; cases z
      · cases z
    | z x => exact Rp.mono s.ex _ _ w
theorem Step.wide (s : Step G H [] G' H' []) : Step G H As G' H' As :=
  ⟨s.ex, ⟨[], by simp⟩, fun _ h => .inl h, fun b o _ h => s.fr b o (by simp) h, s.dom, fun b h => by
    rcases s.gn b h with z | z | z
    · exact .inl z
    · exact .inr (.inl z)
    · cases z⟩
theorem Rv.wide (c : Cells K G H As κ) (h : Rv K H G' H' [] v r) : Rv K H G' H' As v r := by
  cases r with
  | f xs =>
    obtain ⟨p, vs, e, h0, g0, _, q⟩ := h
    exact ⟨p, vs, e, h0, g0, c.notin h0, q⟩
  | d x => exact h
  | s ns => exact h
  | b ks =>
    obtain ⟨a, vs, h1, h2, h3, h4⟩ := h
    exact ⟨a, vs, h1, h2, h3, fun i k hk => by
      obtain ⟨c, z, _⟩ := h4 i k hk
      simp at z⟩
  | c k =>
    obtain ⟨a, z, _⟩ := h
    simp at z
/-- the cell that is lent -/
theorem Cells.one {k : Nat} {a : Addr} {ds : List PyData} (c : Cells K G H As κ) (hk : κ[k]? = some (.l ds)) (ha : As[k]? = some a) : Cells K G H [a] [.l ds] where
  ext := c.ext
  len := rfl
  nd := by simp
  al := fun b h => by
    rw [List.mem_singleton] at h
    subst h
    exact c.al b (List.mem_of_getElem? ha)
  ok := fun j x b e1 e2 => by
    cases j with
    | zero =>
      cases e1
      cases e2
      exact c.ok k _ _ hk ha
    | succ j => simp at e1
theorem Cells.lent {k : Nat} {a : Addr} {ds es : List PyData} (c : Cells K G H As κ) (hk : κ[k]? = some (.l ds)) (ha : As[k]? = some a) (s : Step G H [a] G' H' [a]) (c1 : Cells K G' H' [a] [.l es]) : Cells K G' H' As (κ.set k (.l es)) where
  ext := c1.ext
  len := by rw [List.length_set]; exact c.len
  nd := c.nd
  al := fun b h => by
    obtain ⟨o, q⟩ := c.al b h
    cases z : H' b with
    | none => rw [s.dom b z] at q; cases q
    | some u => exact ⟨u, rfl⟩
  ok := fun j x b e1 e2 => by
    by_cases hj : j = k
    · subst hj
      rw [ha] at e2; cases e2
      rw [List.getElem?_set_self (List.getElem?_eq_some_iff.mp hk).1] at e1
      cases e1
      exact c1.ok 0 _ _ rfl rfl
    · rw [List.getElem?_set_ne (fun z => hj z.symm)] at e1
      have w := c.ok j x b e1 e2
      have ne : b ≠ a := fun z => hj (by
        subst z
        obtain ⟨l1, q1⟩ := List.getElem?_eq_some_iff.mp e2
        obtain ⟨l2, q2⟩ := List.getElem?_eq_some_iff.mp ha
        exact (List.getElem_inj c.nd).mp (q1.trans q2.symm))
      have ni : b ∉ [a] := by rw [List.mem_singleton]; exact ne
      cases x with
      | l ds' =>
        obtain ⟨w1, ws, w2, w3⟩ := w
        refine ⟨?_, ws, s.fr b _ ni w2, RpA.mono s.ex _ _ w3⟩
        rcases s.gn b w1 with z | z | z
        · exact z
        · rw [w2] at z; cases z
        · exact absurd z ni
      | z x => exact Rp.mono s.ex _ _ w
theorem Step.lent {a : Addr} (hm : a ∈ As) (s : Step G H [a] G' H' [a]) : Step G H As G' H' As :=
  ⟨s.ex, ⟨[], by simp⟩, fun _ h => .inl h, fun b o hb h => s.fr b o (fun z => hb (by rw [List.mem_singleton] at z; rw [z]; exact hm)) h, s.dom, fun b h => by
    rcases s.gn b h with z | z | z
    · exact .inl z
    · exact .inr (.inl z)
    · exact .inr (.inr (by rw [List.mem_singleton] at z; rw [z]; exact hm))⟩
theorem Rv.lent {k : Nat} {a : Addr} (c : Cells K G H As κ) (ha : As[k]? = some a) (h : Rv K H G' H' [a] v r) : Rv K H G' H' As v (r.lab k) := by
  cases r with
  | f xs =>
    obtain ⟨p, vs, e, h0, g0, _, q⟩ := h
    exact ⟨p, vs, e, h0, g0, c.notin h0, q⟩
  | d x => exact h
  | s ns => exact h
  | b ks =>
    obtain ⟨p, vs, h1, h2, h3, h4⟩ := h
    refine ⟨p, vs, h1, h2, by rw [h3, List.length_map], fun i j hk => ?_⟩
    rw [List.getElem?_map] at hk
    cases q : ks[i]? with
    | none => rw [q] at hk; cases hk
    | some j' =>
      rw [q] at hk
      cases hk
      obtain ⟨b, e1, e2⟩ := h4 i j' q
      cases j' with
      | zero => cases e1; exact ⟨a, ha, e2⟩
      | succ j' => simp at e1
  | c j =>
    obtain ⟨b, e1, e2⟩ := h
    cases j with
    | zero => cases e1; exact ⟨a, ha, e2⟩
    | succ j => simp at e1
end
section
variable {X : Cx} {CX : CXT} {k : Nat} {f : Addr} {fd : FuncData} {ps : List Str} {n : Nat} {E : XK} {x : Str} {p pos : Pos} {e : Expr} {es : List Expr} {wr : DTA}
theorem de_call {Φ : List R → (R → Prop) → Prop} (F : FnOk X.prog X.w X.K X.mg X.base CX k f fd ps (spD X.K n Φ)) (hr : Room k X.A) (hm : X.mg x = some (.ref f)) (hk : PySem.W.keepIn X.K (.ref f) = true) (hb : Binds X.K fd ps []) (hx : Passes CX X E)
    (hn : n = (e :: es).length) (ha : DA X (e :: es) wr) (hg : Gl X x := by rfl) (hdb : (x == ("__debug__" : Str)) = false := by decide) (he : starEach (e :: es) X.env = (false, eval e X.env) :: starEach es X.env := by rfl) (hpl : (backTo pos (starEach es X.env)).any (·.1) = false := by rfl) :
    DE X (.Call (.Name x p) (e :: es) [] pos) (wCall Φ wr) := by
  obtain ⟨t, pt, h⟩ := ha
  refine ⟨_, pe_call F hr hg hm hk hb .nil hx pt hdb he hpl, fun G H As σ ρ κ P Q c pl w kk => ?_⟩
  refine h G H As σ ρ κ _ _ c pl w fun vs rs G1 H1 As1 κ1 s1 c1 p1 i1 el w1 => ?_
  obtain ⟨⟨xs, κ2⟩, ea, w2⟩ := w1.ex
  obtain ⟨G2, s2, c2, i2⟩ := args_ok c1 i1 ea
  rw [List.append_nil]
  refine ⟨by rw [Paired.length i1, hn]; exact el, G2, xs, _, c2.ext, i2, w2, fun v r G' H' hP hE s3 rv => ?_⟩
  have st : Step G H As G' H' As1 := (s1.trans s2).trans s3.wide
  exact kk v r G' H' As1 κ2 st (c2.call s3 hE) (pl.step st) ((rv.wide c2).back (s1.trans s2)) hP
theorem de_callL {Φ : List PyData → List R → (R → List PyData → Prop) → Prop} (F : FnOk X.prog X.w X.K X.mg X.base CX k f fd ps (spL X.K n Φ)) (hr : Room k X.A) (hm : X.mg x = some (.ref f)) (hk : PySem.W.keepIn X.K (.ref f) = true) (hb : Binds X.K fd ps []) (hx : Passes CX X E)
    (hn : n = (e :: es).length) (ha : DA X (e :: es) wr) (hg : Gl X x := by rfl) (hdb : (x == ("__debug__" : Str)) = false := by decide) (he : starEach (e :: es) X.env = (false, eval e X.env) :: starEach es X.env := by rfl) (hpl : (backTo pos (starEach es X.env)).any (·.1) = false := by rfl) :
    DE X (.Call (.Name x p) (e :: es) [] pos) (wCallL Φ wr) := by
  obtain ⟨t, pt, h⟩ := ha
  refine ⟨_, pe_call F hr hg hm hk hb .nil hx pt hdb he hpl, fun G H As σ ρ κ P Q c pl w kk => ?_⟩
  refine h G H As σ ρ κ _ _ c pl w fun vs rs G1 H1 As1 κ1 s1 c1 p1 i1 el w1 => ?_
  obtain ⟨⟨kc, bs, xs, κ2⟩, ea, w2⟩ := w1.ex
  cases rs with
  | nil => cases ea
  | cons r rs =>
    cases r with
    | d y => cases ea
    | f y => cases ea
    | s y => cases ea
    | b y => cases ea
    | c kk' =>
      cases i1 with
      | cons i1 i1r =>
        unfold lend at ea
        simp only at ea
        cases q2 : args κ1 rs with
        | none => rw [q2] at ea; cases ea
        | some pp =>
          obtain ⟨ys, κ3⟩ := pp
          rw [q2] at ea
          simp only at ea
          cases q3 : κ3[kk']? with
          | none => rw [q3] at ea; cases ea
          | some c3 =>
            cases c3 with
            | z y => rw [q3] at ea; cases ea
            | l ds =>
              rw [q3] at ea
              cases ea
              obtain ⟨G2, s2, c2, i2⟩ := args_ok c1 i1r q2
              obtain ⟨a, ha1, rfl⟩ := i1
              rw [List.append_nil]
              refine ⟨by rw [List.length_cons, Paired.length i1r, hn]; exact el, G2, a, _, _, _, _, rfl, c2.one q3 ha1, i2, w2, fun v r bs' G' H' hP hE s3 rv => ?_⟩
              have st : Step G H As G' H' As1 := (s1.trans s2).trans (s3.lent (List.mem_of_getElem? ha1))
              exact kk v _ G' H' As1 _ st (c2.lent q3 ha1 s3 hE) (pl.step st) ((rv.lent c2 ha1).back (s1.trans s2)) hP
end
end DL
/-! DLc: tests, targets, statements, loops, comprehensions, defs, over plain data. -/
namespace DL
open PySem PySem.Spec PyProof.Rows L2

/-! ### a value is kept: as plain data, or (m) a fresh list as a cell -/
def sto (m : Bool) (r : R) (κ : Kap) : R × Kap := match m, r with
  | true, .f xs => (.c κ.length, κ ++ [.l xs])
  | _, r => (r.st, κ)
section
variable {K : PySem.W.Frag} {G H G' H' G1 H1 H0 : Hp} {As As' As1 : List Addr} {σ : L2.St} {ρ : Rho} {κ κ' : Kap} {v : V} {r : R}
theorem sto_ok (m : Bool) (s : Step G1 H1 As1 G H As) (c : Cells K G H As κ) (h : Rv K H1 G H As v r) : ∃ G' As', Step G1 H1 As1 G' H As' ∧ Cells K G' H As' (sto m r κ).2 ∧ It K G' As' v (sto m r κ).1 ∧ Ex G G' ∧ ∃ bs, As' = As ++ bs := by
  have dflt : (sto m r κ) = (r.st, κ) → ∃ G' As', Step G1 H1 As1 G' H As' ∧ Cells K G' H As' (sto m r κ).2 ∧ It K G' As' v (sto m r κ).1 ∧ Ex G G' ∧ ∃ bs, As' = As ++ bs := fun e => by
    obtain ⟨G', s', c', _, i', e'⟩ := settle (σ := []) (ρ := []) s c ⟨rfl, fun i r h => by simp at h⟩ h
    rw [e]
    exact ⟨G', As, s', c', i', e', [], by simp⟩
  cases m with
  | false => exact dflt (by cases r <;> rfl)
  | true =>
    cases r with
    | d x => exact dflt rfl
    | c k => exact dflt rfl
    | s ns => exact dflt rfl
    | b ks => exact dflt rfl
    | f xs =>
      obtain ⟨q, vs, rfl, h0, g0, nin, hq, rp⟩ := h
      refine ⟨G, As ++ [q], ?_, c.more g0 nin hq rp, ⟨q, ?_, rfl⟩, Ex.refl G, [q], rfl⟩
      · obtain ⟨bs, e⟩ := s.pre
        refine ⟨s.ex, ⟨bs ++ [q], by rw [e, List.append_assoc]⟩, fun a ha => ?_, s.fr, s.dom, s.gn⟩
        rcases List.mem_append.mp ha with z | z
        · exact s.new a z
        · rw [List.mem_singleton] at z
          subst z; exact .inr h0
      · show (As ++ [q])[κ.length]? = some q
        rw [← c.len, List.getElem?_append_right (Nat.le_refl _), Nat.sub_self]
        rfl
theorem Places.mono (p : Places K G As σ ρ) (e : Ex G G') (hp : ∃ bs, As' = As ++ bs) : Places K G' As' σ ρ :=
  ⟨p.len, fun i r h => by
    obtain ⟨v, h1, h2⟩ := p.ok i r h
    exact ⟨v, h1, h2.mono e hp⟩⟩
theorem Places.put (p : Places K G As σ ρ) (i : Nat) (h : It K G As v r) : Places K G As (σ.set i (some v)) (ρ.set i (some r)) :=
  ⟨by rw [List.length_set, List.length_set]; exact p.len, fun j q e => by
    by_cases hj : i = j
    · subst hj
      by_cases hi : i < ρ.length
      · rw [List.getElem?_set_self hi] at e
        cases e
        exact ⟨v, List.getElem?_set_self (by rw [p.len]; exact hi), h⟩
      · rw [List.getElem?_eq_none (by rw [List.length_set]; omega)] at e; cases e
    · rw [List.getElem?_set_ne hj] at e ⊢
      exact p.ok j q e⟩
end
def wConsM (m : Bool) (wa : DTE) (wr : DTA) : DTA := fun ρ κ P => wa ρ κ fun r κ1 => wr ρ (sto m r κ1).2 fun rs κ2 => P ((sto m r κ1).1 :: rs) κ2
section
variable {X : Cx} {e a b : Expr} {es : List Expr} {wa wb : DTE} {wr : DTA} {pos : Pos} {wt wu : DTT}
theorem da_consM (m : Bool) (ha : DE X e wa) (hr : DA X es wr) (hs : starEach (e :: es) X.env = (false, eval e X.env) :: starEach es X.env := by rfl) : DA X (e :: es) (wConsM m wa wr) := by
  obtain ⟨ta, pa, ha⟩ := ha
  obtain ⟨tr, pr, hr⟩ := hr
  refine ⟨_, pa_cons pa pr hs, fun G H As σ ρ κ P Q c p w k => ?_⟩
  refine ha G H As σ ρ κ _ _ c p w fun v1 r1 G1 H1 As1 κ1 s1 c1 p1 i1 w1 => ?_
  obtain ⟨G1', As1', s1', c1', i1', e1, e2⟩ := sto_ok m s1 c1 i1
  refine hr G1' H1 As1' σ ρ _ _ _ c1' (p1.mono e1 e2) w1 fun vs rs G2 H2 As2 κ2 s2 c2 p2 i2 l2 w2 => ?_
  exact k _ _ G2 H2 As2 κ2 (s1'.trans s2) c2 p2 (.cons (s2.it i1') i2) (congrArg (· + 1) l2) w2

/-! ### tests -/
def truth : PyData → Option Bool
  | .none => some false
  | .bool b => some b
  | .int i => some (i != 0)
  | .str z => if z.length ≤ sizeLine then some ((z.length : Int) != 0) else none
  | .list xs => some (!xs.isEmpty)
  | .tuple xs => some (!xs.isEmpty)
  | .dict _ => none
def wTru (wa : DTE) : DTT := fun ρ κ P => wa ρ κ fun r κ1 => Opt (val κ1 r.st) fun x => Opt (truth x) fun b => P b κ1
def wB (wa : DTE) : DTT := fun ρ κ P => wa ρ κ fun r κ1 => match r with
  | .d (.bool b) => P b κ1
  | _ => False
theorem tru_of {K : PySem.W.Frag} {G H : Hp} {v : V} {x : PyData} {b : Bool} (ext : Ex G H) (h : Vw K G H v x) (e : truth x = some b) : TruV K v H b := by
  have emp : ∀ {vs : List V} {ds : List PyData}, RpA K G vs ds → (!vs.isEmpty) = !ds.isEmpty := fun r => by cases r <;> rfl
  cases x with
  | none => cases e; cases h; rfl
  | bool c => cases e; cases h; rfl
  | int i => cases e; cases h; rfl
  | str z =>
    cases h
    unfold truth at e
    simp only at e
    split at e
    · cases e; exact ⟨by assumption, rfl⟩
    · cases e
  | list xs =>
    cases e
    obtain ⟨a, vs, rfl, h1, h2⟩ := h
    exact .inl ⟨vs, sql_of h1, (emp h2).symm⟩
  | tuple xs =>
    cases e
    obtain ⟨a, vs, rfl, h1, h2⟩ := h.tup ext
    exact .inr (.inl ⟨vs, h1, (emp h2).symm⟩)
  | dict _ => cases e
theorem dt_tru (ha : DE X a wa) (he : ∀ whole, isTrue a X.env whole = (do let v ← whole; standAt a.pos; holding [v] (truthy v)) := by intro _; rfl) : DT X a (wTru wa) := by
  obtain ⟨ta, pa, ha⟩ := ha
  refine ⟨_, pt_truth pa he, fun G H As σ ρ κ P Q c p w k => ?_⟩
  refine ha G H As σ ρ κ _ _ c p w fun v1 r1 G1 H1 As1 κ1 s1 c1 p1 i1 w1 => ?_
  obtain ⟨G1', s1', c1', p1', i1', _⟩ := settle s1 c1 p1 i1
  obtain ⟨x, ex, w2⟩ := w1.ex
  obtain ⟨b, eb, w3⟩ := w2.ex
  exact ⟨b, tru_of c1'.ext (i1'.vw c1' ex) eb, k b G1' H1 As1 κ1 s1' c1' p1' w3⟩
theorem dt_cmp {op : CmpOp} {r2 : R2} {g : PyData → PyData → Option Out} (ho : OpR X (compareOp op) r2) (hg : OpD X.K r2 g) (ha : DE X a wa) (hb : DE X b wb) (hm : behindInMarks op b = false) : DT X (.Compare a [op] [b] pos) (wB (wBin g wa wb)) := by
  obtain ⟨ta, pa, ha⟩ := ha
  obtain ⟨tb, pb, hb⟩ := hb
  refine ⟨_, pt_cmpR ho pa pb hm, fun G H As σ ρ κ P Q c p w k => ?_⟩
  refine bin_reads hg ha hb G H As σ ρ κ _ _ c p w fun v r G1 H1 As1 κ1 s1 c1 p1 i1 w1 => ?_
  cases r with
  | d x =>
    cases x with
    | bool z =>
      have i1 : Rp X.K G1 v (.bool z) := i1
      cases i1
      exact ⟨z, rfl, k z G1 H1 As1 κ1 s1 c1 p1 w1⟩
    | _ => exact w1.elim
  | _ => exact w1.elim
def wNot (wt : DTT) : DTT := fun ρ κ P => wt ρ κ fun b κ1 => P (!b) κ1
def wAnd (wt wu : DTT) : DTT := fun ρ κ P => wt ρ κ fun b κ1 => if b = true then wu ρ κ1 P else P false κ1
def wOr (wt wu : DTT) : DTT := fun ρ κ P => wt ρ κ fun b κ1 => if b = true then P true κ1 else wu ρ κ1 P
theorem dt_not (h : DT X a wt) : DT X (.UnaryOp .Not a pos) (wNot wt) := by
  obtain ⟨t, pt, h⟩ := h
  exact ⟨_, pt_not pt, fun G H As σ ρ κ P Q c p w k => h G H As σ ρ κ _ _ c p w fun b => k (!b)⟩
theorem dw_pt (h : DW X a wt) : DT X a wt := by
  obtain ⟨t, pt, h⟩ := h
  exact ⟨_, pt.pt, h⟩
theorem dw_and1 (h : DT X a wt) : DW X (.BoolOp .And [a] pos) wt := by
  obtain ⟨t, pt, h⟩ := h
  exact ⟨_, pw_and1 pt, h⟩
theorem dw_or1 (h : DT X a wt) : DW X (.BoolOp .Or [a] pos) wt := by
  obtain ⟨t, pt, h⟩ := h
  exact ⟨_, pw_or1 pt, h⟩
theorem dw_and (h : DT X a wt) (hb : DW X (.BoolOp .And (b :: es) pos) wu) : DW X (.BoolOp .And (a :: b :: es) pos) (wAnd wt wu) := by
  obtain ⟨t, pt, h⟩ := h
  obtain ⟨u, pu, hb⟩ := hb
  refine ⟨_, pw_and pt pu, fun G H As σ ρ κ P Q c p w k => ?_⟩
  refine h G H As σ ρ κ _ _ c p w fun z G1 H1 As1 κ1 s1 c1 p1 w1 => ?_
  cases z with
  | true =>
    rw [if_pos rfl] at w1 ⊢
    exact hb G1 H1 As1 σ ρ κ1 _ _ c1 p1 w1 fun y G2 H2 As2 κ2 s2 c2 p2 w2 => k y G2 H2 As2 κ2 (s1.trans s2) c2 p2 w2
  | false =>
    rw [if_neg (by decide)] at w1 ⊢
    exact k false G1 H1 As1 κ1 s1 c1 p1 w1
theorem dw_or (h : DT X a wt) (hb : DW X (.BoolOp .Or (b :: es) pos) wu) : DW X (.BoolOp .Or (a :: b :: es) pos) (wOr wt wu) := by
  obtain ⟨t, pt, h⟩ := h
  obtain ⟨u, pu, hb⟩ := hb
  refine ⟨_, pw_or pt pu, fun G H As σ ρ κ P Q c p w k => ?_⟩
  refine h G H As σ ρ κ _ _ c p w fun z G1 H1 As1 κ1 s1 c1 p1 w1 => ?_
  cases z with
  | false =>
    rw [if_neg (by decide)] at w1 ⊢
    exact hb G1 H1 As1 σ ρ κ1 _ _ c1 p1 w1 fun y G2 H2 As2 κ2 s2 c2 p2 w2 => k y G2 H2 As2 κ2 (s1.trans s2) c2 p2 w2
  | true =>
    rw [if_pos rfl] at w1 ⊢
    exact k true G1 H1 As1 κ1 s1 c1 p1 w1
/-! and, or, not, a if t else b as values -/
def wAndV (wa wb : DTE) : DTE := fun ρ κ P => wa ρ κ fun r κ1 => match r with
  | .d (.bool z) => if z = true then wb ρ κ1 P else P (.d (.bool false)) κ1
  | _ => False
def wOrV (wa wb : DTE) : DTE := fun ρ κ P => wa ρ κ fun r κ1 => match r with
  | .d (.bool z) => if z = true then P (.d (.bool true)) κ1 else wb ρ κ1 P
  | _ => False
def wNotV (wa : DTE) : DTE := fun ρ κ P => wa ρ κ fun r κ1 => match r with
  | .d (.bool z) => P (.d (.bool (!z))) κ1
  | _ => False
def wIf (wt : DTT) (wa wb : DTE) : DTE := fun ρ κ P => wt ρ κ fun z κ1 => if z = true then wa ρ κ1 P else wb ρ κ1 P
theorem de_one {op : BoolOp} (h : DE X a wa) : DE X (.BoolOp op [a] pos) wa := by
  obtain ⟨t, pt, h⟩ := h
  exact ⟨_, pe_one pt, h⟩
theorem de_and (ha : DE X a wa) (hb : DE X (.BoolOp .And (b :: es) pos) wb) : DE X (.BoolOp .And (a :: b :: es) pos) (wAndV wa wb) := by
  obtain ⟨t, pt, ha⟩ := ha
  obtain ⟨u, pu, hb⟩ := hb
  refine ⟨_, pe_and pt pu, fun G H As σ ρ κ P Q c p w k => ?_⟩
  refine ha G H As σ ρ κ _ _ c p w fun v r G1 H1 As1 κ1 s1 c1 p1 i1 w1 => ?_
  cases r with
  | d x =>
    cases x with
    | bool z =>
      have i1 : Rp X.K G1 v (.bool z) := i1
      cases i1
      refine ⟨z, rfl, ?_⟩
      cases z with
      | true =>
        simp only [if_pos] at w1
        rw [if_pos rfl]
        exact hb G1 H1 As1 σ ρ κ1 _ _ c1 p1 w1 fun y r2 G2 H2 As2 κ2 s2 c2 p2 i2 w2 => k y r2 G2 H2 As2 κ2 (s1.trans s2) c2 p2 (i2.back s1) w2
      | false =>
        simp only [if_neg (show ¬ false = true by decide)] at w1
        rw [if_neg (by decide)]
        exact k _ (.d (.bool false)) G1 H1 As1 κ1 s1 c1 p1 (.bl false) w1
    | _ => exact w1.elim
  | _ => exact w1.elim
theorem de_or (ha : DE X a wa) (hb : DE X (.BoolOp .Or (b :: es) pos) wb) : DE X (.BoolOp .Or (a :: b :: es) pos) (wOrV wa wb) := by
  obtain ⟨t, pt, ha⟩ := ha
  obtain ⟨u, pu, hb⟩ := hb
  refine ⟨_, pe_or pt pu, fun G H As σ ρ κ P Q c p w k => ?_⟩
  refine ha G H As σ ρ κ _ _ c p w fun v r G1 H1 As1 κ1 s1 c1 p1 i1 w1 => ?_
  cases r with
  | d x =>
    cases x with
    | bool z =>
      have i1 : Rp X.K G1 v (.bool z) := i1
      cases i1
      refine ⟨z, rfl, ?_⟩
      cases z with
      | false =>
        simp only [if_neg (show ¬ false = true by decide)] at w1
        rw [if_neg (by decide)]
        exact hb G1 H1 As1 σ ρ κ1 _ _ c1 p1 w1 fun y r2 G2 H2 As2 κ2 s2 c2 p2 i2 w2 => k y r2 G2 H2 As2 κ2 (s1.trans s2) c2 p2 (i2.back s1) w2
      | true =>
        simp only [if_pos] at w1
        rw [if_pos rfl]
        exact k _ (.d (.bool true)) G1 H1 As1 κ1 s1 c1 p1 (.bl true) w1
    | _ => exact w1.elim
  | _ => exact w1.elim
theorem de_not (ha : DE X a wa) : DE X (.UnaryOp .Not a pos) (wNotV wa) := by
  obtain ⟨t, pt, ha⟩ := ha
  refine ⟨_, pe_not pt, fun G H As σ ρ κ P Q c p w k => ?_⟩
  refine ha G H As σ ρ κ _ _ c p w fun v r G1 H1 As1 κ1 s1 c1 p1 i1 w1 => ?_
  cases r with
  | d x =>
    cases x with
    | bool z =>
      have i1 : Rp X.K G1 v (.bool z) := i1
      cases i1
      exact ⟨z, rfl, k _ (.d (.bool (!z))) G1 H1 As1 κ1 s1 c1 p1 (.bl (!z)) w1⟩
    | _ => exact w1.elim
  | _ => exact w1.elim
theorem de_ifx {t : Expr} (ht : DT X t wt) (ha : DE X a wa) (hb : DE X b wb) : DE X (.IfExp t a b pos) (wIf wt wa wb) := by
  obtain ⟨tt, pt, ht⟩ := ht
  obtain ⟨ta, pa, ha⟩ := ha
  obtain ⟨tb, pb, hb⟩ := hb
  refine ⟨_, pe_ifExp pt pa pb, fun G H As σ ρ κ P Q c p w k => ?_⟩
  refine ht G H As σ ρ κ _ _ c p w fun z G1 H1 As1 κ1 s1 c1 p1 w1 => ?_
  cases z with
  | true =>
    rw [if_pos rfl] at w1 ⊢
    exact ha G1 H1 As1 σ ρ κ1 _ _ c1 p1 w1 fun y r2 G2 H2 As2 κ2 s2 c2 p2 i2 w2 => k y r2 G2 H2 As2 κ2 (s1.trans s2) c2 p2 (i2.back s1) w2
  | false =>
    rw [if_neg (by decide)] at w1 ⊢
    exact hb G1 H1 As1 σ ρ κ1 _ _ c1 p1 w1 fun y r2 G2 H2 As2 κ2 s2 c2 p2 i2 w2 => k y r2 G2 H2 As2 κ2 (s1.trans s2) c2 p2 (i2.back s1) w2
end

/-! ### targets -/
def Wr (js : List Nat) (σ σ' : L2.St) : Prop := σ'.length = σ.length ∧ ∀ i, i ∉ js → σ'[i]? = σ[i]?
def DG (X : Cx) (e : Expr) (js : List Nat) (w : DTG) : Prop := ∃ g, PG X e g ∧ ∀ (G H : Hp) (As : List Addr) (σ : L2.St) (ρ : Rho) (κ : Kap) (v : V) (r : R) (P : Rho → Kap → Prop) (Q : L2.St → Hp → Prop), Cells X.K G H As κ → Places X.K G As σ ρ → It X.K G As v r → w r ρ κ P →
  (∀ σ' ρ' G' H' As' κ', Wr js σ σ' → Step G H As G' H' As' → Cells X.K G' H' As' κ' → Places X.K G' As' σ' ρ' → P ρ' κ' → Q σ' H') → g v σ H Q
def DGs (X : Cx) (es : List Expr) (js : List Nat) (w : List PyData → Rho → Kap → (Rho → Kap → Prop) → Prop) : Prop := ∃ g, PGs X es g ∧ ∀ (G H : Hp) (As : List Addr) (σ : L2.St) (ρ : Rho) (κ : Kap) (vs : List V) (xs : List PyData) (P : Rho → Kap → Prop) (Q : L2.St → Hp → Prop), Cells X.K G H As κ → Places X.K G As σ ρ → RpA X.K G vs xs → w xs ρ κ P →
  (∀ σ' ρ' G' H' As' κ', Wr js σ σ' → Step G H As G' H' As' → Cells X.K G' H' As' κ' → Places X.K G' As' σ' ρ' → P ρ' κ' → Q σ' H') → g vs σ H Q
theorem Wr.refl {js : List Nat} {σ : L2.St} : Wr js σ σ := ⟨rfl, fun _ _ => rfl⟩
theorem Wr.trans {js is : List Nat} {σ σ1 σ2 : L2.St} (a : Wr js σ σ1) (b : Wr is σ1 σ2) : Wr (js ++ is) σ σ2 :=
  ⟨b.1.trans a.1, fun i h => (b.2 i fun z => h (List.mem_append_right _ z)).trans (a.2 i fun z => h (List.mem_append_left _ z))⟩
theorem wipe_in {σ : L2.St} {i : Nat} : ∀ {vs : List Nat}, i ∈ vs → (wipe σ vs)[i]? = if i < σ.length then some none else none
  | [], h => by cases h
  | v :: vs, h => by
    unfold wipe
    by_cases e : v = i
    · subst e
      by_cases hl : v < σ.length
      · rw [if_pos hl, List.getElem?_set_self (by rw [wipe_length]; exact hl)]
      · rw [if_neg hl, List.getElem?_eq_none (by rw [List.length_set, wipe_length]; omega)]
    · rw [List.getElem?_set_ne e]
      rcases List.mem_cons.mp h with z | z
      · exact absurd z.symm e
      · exact wipe_in z
theorem Wr.wipe {js vs : List Nat} {σ σ' : L2.St} (w : Wr js σ σ') (h : ∀ j, j ∈ js → j ∈ vs) : wipe σ' vs = wipe σ vs := by
  refine List.ext_getElem? fun i => ?_
  by_cases hi : i ∈ vs
  · rw [wipe_in hi, wipe_in hi, w.1]
  · rw [wipe_out hi, wipe_out hi]
    exact w.2 i fun z => hi (h i z)
def wName (i : Nat) : DTG := fun r ρ κ P => P (ρ.set i (some r)) κ
def wgNil : List PyData → Rho → Kap → (Rho → Kap → Prop) → Prop := fun xs ρ κ P => match xs with
  | [] => P ρ κ
  | _ => False
def wgCons (g : DTG) (gs : List PyData → Rho → Kap → (Rho → Kap → Prop) → Prop) : List PyData → Rho → Kap → (Rho → Kap → Prop) → Prop := fun xs ρ κ P => match xs with
  | x :: xs => g (.d x) ρ κ fun ρ1 κ1 => gs xs ρ1 κ1 P
  | [] => False
def wTupG (n : Nat) (gs : List PyData → Rho → Kap → (Rho → Kap → Prop) → Prop) : DTG := fun r ρ κ P => match r with
  | .d (.tuple xs) => xs.length = n ∧ gs xs ρ κ P
  | _ => False
/-- a written tuple of names that a LIST goes to -/
def wTupL (n : Nat) (gs : List PyData → Rho → Kap → (Rho → Kap → Prop) → Prop) : DTG := fun r ρ κ P => Opt (val κ r) fun x => match x with
  | .list xs => xs.length = n ∧ gs xs ρ κ P
  | _ => False
section
variable {X : Cx} {pos : Pos} {e : Expr} {es : List Expr} {js is : List Nat} {wg : DTG} {gs : List PyData → Rho → Kap → (Rho → Kap → Prop) → Prop}
theorem dg_name (i : Nat) {x : Str} (hN : X.N.Nodup) (hi : X.N[i]? = some x := by rfl) (hx : Loc X.env.scope x := by first | exact Or.inl rfl | exact Or.inr rfl) (hf : X.fn x = true ∨ X.env.scope.names.lookup x = some .local := by first | exact .inl rfl | exact .inr rfl) : DG X (.Name x pos) [i] (wName i) := by
  refine ⟨_, pg_name hN hi hx hf, fun G H As σ ρ κ v r P Q c p h w k => ?_⟩
  refine k _ _ G H As κ ⟨by rw [List.length_set], fun j hj => List.getElem?_set_ne fun z => hj (by rw [z]; exact List.mem_singleton.mpr rfl)⟩ Step.refl c (p.put i h) w
theorem dgs_nil : DGs X [] [] wgNil := by
  refine ⟨_, pgs_nil, fun G H As σ ρ κ vs xs P Q c p h w k => ?_⟩
  cases h with
  | nil => exact ⟨rfl, k σ ρ G H As κ Wr.refl Step.refl c p w⟩
  | cons _ _ => exact w.elim
theorem dgs_cons (h1 : DG X e js wg) (h2 : DGs X es is gs) (hs : (assignEach (e :: es) X.env).map (·.2) = assign e X.env :: (assignEach es X.env).map (·.2) := by rfl) : DGs X (e :: es) (js ++ is) (wgCons wg gs) := by
  obtain ⟨g, pg, h1⟩ := h1
  obtain ⟨u, pu, h2⟩ := h2
  refine ⟨_, pgs_cons pg pu hs, fun G H As σ ρ κ vs xs P Q c p h w k => ?_⟩
  cases h with
  | nil => exact w.elim
  | cons r1 r2 =>
    refine ⟨_, _, rfl, ?_⟩
    refine h1 G H As σ ρ κ _ (.d _) _ _ c p r1 w fun σ1 ρ1 G1 H1 As1 κ1 a1 s1 c1 p1 w1 => ?_
    refine h2 G1 H1 As1 σ1 ρ1 κ1 _ _ _ _ c1 p1 (RpA.mono s1.ex _ _ r2) w1 fun σ2 ρ2 G2 H2 As2 κ2 a2 s2 c2 p2 w2 => ?_
    exact k σ2 ρ2 G2 H2 As2 κ2 (a1.trans a2) (s1.trans s2) c2 p2 w2
theorem dg_tup {k n : Nat} (hc : X.calm = true) (h : DGs X es js gs) (hn : (assignEach es X.env).length = n := by rfl) (hst : (assignEach es X.env).findIdx? (·.1) = none := by rfl) : DG X (.Tuple es k pos) js (wTupG n gs) := by
  obtain ⟨g, pg, h⟩ := h
  refine ⟨_, pg_tup hc pg hn hst, fun G H As σ ρ κ v r P Q c p i w k => ?_⟩
  unfold wTupG at w
  split at w
  · rename_i xs
    obtain ⟨hl, w⟩ := w
    have i : Rp X.K G v (.tuple xs) := i
    cases i with
    | tup h1 h2 => exact ⟨_, _, rfl, ex_st c.ext h1, h2.len.trans hl, h G H As σ ρ κ _ _ P Q c p h2 w k⟩
  · exact w.elim
theorem dg_tupL {k n : Nat} (hc : X.calm = true) (h : DGs X es js gs) (hn : (assignEach es X.env).length = n := by rfl) (hst : (assignEach es X.env).findIdx? (·.1) = none := by rfl) : DG X (.Tuple es k pos) js (wTupL n gs) := by
  obtain ⟨g, pg, h⟩ := h
  refine ⟨_, pg_unl hc pg hn hst, fun G H As σ ρ κ v r P Q c p i w k => ?_⟩
  obtain ⟨x, ex, w⟩ := w.ex
  cases x with
  | list xs =>
    obtain ⟨hl, w⟩ := w
    obtain ⟨a, vs, rfl, h1, h2⟩ := i.vw c ex
    exact ⟨a, vs, rfl, sql_of h1, h2.len.trans hl, h G H As σ ρ κ _ _ P Q c p h2 w k⟩
  | _ => exact w.elim
end

/-! ### statements -/
def wNext : DTS := fun E ρ κ => E.nx ρ κ
def wSeq (a b : DTS) : DTS := fun E ρ κ => a { E with nx := b E } ρ κ
def wAsg (we : DTE) (wg : DTG) : DTS := fun E ρ κ => we ρ κ fun r κ1 => wg r.st ρ κ1 E.nx
def wSet (m : Bool) (i : Nat) (we : DTE) : DTS := fun E ρ κ => we ρ κ fun r κ1 => E.nx (ρ.set i (some (sto m r κ1).1)) (sto m r κ1).2
def wPar (i j : Nat) (wa : DTA) : DTS := fun E ρ κ => wa ρ κ fun rs κ1 => match rs with
  | [r, q] => E.nx ((ρ.set i (some r)).set j (some q)) κ1
  | _ => False
def setN : List Nat → List R → Rho → Rho
  | i :: is, r :: rs, ρ => setN is rs (ρ.set i (some r))
  | _, _, ρ => ρ
def wTT (is : List Nat) (wa : DTA) : DTS := fun E ρ κ => wa ρ κ fun rs κ1 => rs.length = is.length ∧ is.length ≤ sizeLine ∧ E.nx (setN is rs ρ) κ1
def wDrop (we : DTE) : DTS := fun E ρ κ => we ρ κ fun _ κ1 => E.nx ρ κ1
def wRet (we : DTE) : DTS := fun E ρ κ => we ρ κ E.rt
def wRetN : DTS := fun E _ κ => E.rt (.d .none) κ
def wIfS (wt : DTT) (a b : DTS) : DTS := fun E ρ κ => wt ρ κ fun z κ1 => if z = true then a E ρ κ1 else b E ρ κ1
def wBrk : DTS := fun E ρ κ => E.bk ρ κ
def wCnt : DTS := fun E ρ κ => E.ct ρ κ
section
variable {X : Cx} {pos : Pos} {e a b tg : Expr} {es : List Expr} {st : Stmt} {sts sts2 : List Stmt} {w u : DTS} {we wa : DTE} {wr : DTA} {wt : DTT} {wg : DTG} {js : List Nat}
theorem dss_nil : DSs X [] wNext := ⟨_, pss_nil, fun G H As σ ρ κ E D c p w r => r.nx σ ρ G H As κ Step.refl c p w⟩
theorem dss_cons (h1 : DS X st w) (h2 : DSs X sts u) : DSs X (st :: sts) (wSeq w u) := by
  obtain ⟨t1, p1, h1⟩ := h1
  obtain ⟨t2, p2, h2⟩ := h2
  refine ⟨_, pss_cons p1 p2, fun G H As σ ρ κ E D c p w r => ?_⟩
  refine h1 G H As σ ρ κ { E with nx := u E } _ c p w ⟨fun σ1 ρ1 G1 H1 As1 κ1 s1 c1 pl1 w1 => ?_, r.bk, r.ct, r.rt⟩
  exact h2 G1 H1 As1 σ1 ρ1 κ1 E D c1 pl1 w1 (r.step s1)
theorem dss_one (h1 : DS X st w) : DSs X [st] w := by
  obtain ⟨t1, p1, h1⟩ := h1
  exact ⟨_, pss_one p1, h1⟩
theorem ds_pass : DS X (.Pass pos) wNext := ⟨_, ps_pass, fun G H As σ ρ κ E D c p w r => r.nx σ ρ G H As κ Step.refl c p w⟩
theorem ds_break : DS X (.Break pos) wBrk := ⟨_, ps_break, fun G H As σ ρ κ E D c p w r => r.bk σ ρ G H As κ Step.refl c p w⟩
theorem ds_continue : DS X (.Continue pos) wCnt := ⟨_, ps_continue, fun G H As σ ρ κ E D c p w r => r.ct σ ρ G H As κ Step.refl c p w⟩
theorem ds_asg (he : DE X e we) (hg : DG X tg js wg) (hs : swapsWithSole [tg] e pos.line X.env = pure false := by rfl) (hw : swappedStores [tg] e X.env = pure none := by rfl) (h1 : (assignEach [tg] X.env).map (·.2) = [assign tg X.env] := by rfl) : DS X (.Assign [tg] e pos) (wAsg we wg) := by
  obtain ⟨t, pt, he⟩ := he
  obtain ⟨g, pg, hg⟩ := hg
  refine ⟨_, ps_asg pt pg hs hw h1, fun G H As σ ρ κ E D c p w r => ?_⟩
  refine he G H As σ ρ κ _ _ c p w fun v q G1 H1 As1 κ1 s1 c1 p1 i1 w1 => ?_
  obtain ⟨G1', s1', c1', p1', i1', _⟩ := settle s1 c1 p1 i1
  refine hg G1' H1 As1 σ ρ κ1 _ _ _ _ c1' p1' i1' w1 fun σ2 ρ2 G2 H2 As2 κ2 _ s2 c2 p2 w2 => ?_
  exact r.nx σ2 ρ2 G2 H2 As2 κ2 (s1'.trans s2) c2 p2 w2
theorem ds_set (m : Bool) (i : Nat) {x : Str} {pos' : Pos} (hN : X.N.Nodup) (he : DE X e we) (hi : X.N[i]? = some x := by rfl) (hx : Loc X.env.scope x := by first | exact Or.inl rfl | exact Or.inr rfl) (hs : swapsWith e (some (.Name x pos')) pos.line X.env = pure false := by rfl)
    (hf : X.fn x = true ∨ X.env.scope.names.lookup x = some .local := by first | exact .inl rfl | exact .inr rfl) : DS X (.Assign [.Name x pos'] e pos) (wSet m i we) := by
  obtain ⟨t, pt, he⟩ := he
  refine ⟨_, ps_set hN hi hx pt hs hf, fun G H As σ ρ κ E D c p w r => ?_⟩
  refine he G H As σ ρ κ _ _ c p w fun v q G1 H1 As1 κ1 s1 c1 p1 i1 w1 => ?_
  obtain ⟨G1', As1', s1', c1', i1', e1, e2⟩ := sto_ok m s1 c1 i1
  exact r.nx _ _ G1' H1 As1' _ s1' c1' ((p1.mono e1 e2).put i i1') w1
theorem ds_par (i j : Nat) {x y : Str} {px py pt : Pos} {kt k2 : Nat} {pt2 : Pos} (hc : X.calm = true) (hN : X.N.Nodup) (ha : DA X [a, b] wr) (hi : X.N[i]? = some x := by rfl) (hj : X.N[j]? = some y := by rfl) (hij : i ≠ j := by decide)
    (hx : X.env.scope.names.lookup x = some .local := by rfl) (hy : X.env.scope.names.lookup y = some .local := by rfl)
    (hw : swappedStores [.Tuple [.Name x px, .Name y py] kt pt] (.Tuple [a, b] k2 pt2) X.env = pure (some [x, y]) := by rfl)
    (hs : swapsWithSole [.Tuple [.Name x px, .Name y py] kt pt] (.Tuple [a, b] k2 pt2) pos.line X.env = pure false := by rfl) :
    DS X (.Assign [.Tuple [.Name x px, .Name y py] kt pt] (.Tuple [a, b] k2 pt2) pos) (wPar i j wr) := by
  obtain ⟨t, ptt, ha⟩ := ha
  refine ⟨_, ps_par hc hN hi hj hij hx hy ptt hw hs, fun G H As σ ρ κ E D c p w r => ?_⟩
  refine ha G H As σ ρ κ _ _ c p w fun vs rs G1 H1 As1 κ1 s1 c1 p1 i1 l1 w1 => ?_
  match rs, vs, i1, w1 with
  | [q1, q2], _, .cons h1 (.cons h2 .nil), w1 => exact ⟨_, _, rfl, r.nx _ _ G1 H1 As1 κ1 s1 c1 ((p1.put i h1).put j h2) w1⟩
  | [], _, _, w1 => exact w1.elim
  | [_], _, _, w1 => exact w1.elim
  | _ :: _ :: _ :: _, _, _, w1 => exact w1.elim
theorem ds_expr (he : DE X e we) (hs : swapsWith e none pos.line X.env = pure false := by rfl) : DS X (.Expr e pos) (wDrop we) := by
  obtain ⟨t, pt, he⟩ := he
  refine ⟨_, ps_expr pt hs, fun G H As σ ρ κ E D c p w r => ?_⟩
  exact he G H As σ ρ κ _ _ c p w fun v q G1 H1 As1 κ1 s1 c1 p1 i1 w1 => r.nx σ ρ G1 H1 As1 κ1 s1 c1 p1 w1
theorem ds_ret (he : DE X e we) : DS X (.Return (some e) pos) (wRet we) := by
  obtain ⟨t, pt, he⟩ := he
  refine ⟨_, ps_ret pt, fun G H As σ ρ κ E D c p w r => ?_⟩
  exact he G H As σ ρ κ _ _ c p w fun v q G1 H1 As1 κ1 s1 c1 p1 i1 w1 => r.rt v q G1 H1 As1 κ1 s1 c1 i1 w1
theorem ds_retN : DS X (.Return none pos) wRetN := ⟨_, ps_retN, fun G H As σ ρ κ E D c p w r => r.rt _ (.d .none) G H As κ Step.refl c .non w⟩
theorem ds_if {t : Expr} (ht : DT X t wt) (ha : DSs X sts w) (hb : DSs X sts2 u) : DS X (.If t sts sts2 pos) (wIfS wt w u) := by
  obtain ⟨tt, pt, ht⟩ := ht
  obtain ⟨ta, pa, ha⟩ := ha
  obtain ⟨tb, pb, hb⟩ := hb
  refine ⟨_, ps_if pt pa pb, fun G H As σ ρ κ E D c p w r => ?_⟩
  refine ht G H As σ ρ κ _ _ c p w fun z G1 H1 As1 κ1 s1 c1 p1 w1 => ?_
  cases z with
  | true =>
    rw [if_pos rfl] at w1 ⊢
    exact ha G1 H1 As1 σ ρ κ1 E D c1 p1 w1 (r.step s1)
  | false =>
    rw [if_neg (by decide)] at w1 ⊢
    exact hb G1 H1 As1 σ ρ κ1 E D c1 p1 w1 (r.step s1)
end
end DL
/-! DLd: walks, for, while, comprehensions, lists changed in place, a def's body, over plain data. -/
namespace DL
open PySem PySem.Spec PyProof.Rows L2

/-! ### what a for walks -/
def WalkOk (K : PySem.W.Frag) (G : Hp) (As : List Addr) (J : L2.It) (xs : List PyData) (ok : Kap → Prop) : Prop := ∀ (G' H' : Hp) (As' : List Addr) (κ' : Kap), Ex G G' → (∃ bs, As' = As ++ bs) → Cells K G' H' As' κ' → ok κ' →
  (∀ i, i < xs.length → J.go i H') ∧ J.stop xs.length H' ∧ ∀ i v H'' x, J.yld i H' v H'' → xs[i]? = some x → ∃ G'', Step G' H' As' G'' H'' As' ∧ Cells K G'' H'' As' κ' ∧ Rp K G'' v x
abbrev DTI := Rho → Kap → (List PyData → (Kap → Prop) → Kap → Prop) → Prop
def DI (X : Cx) (tg it : Expr) (w : DTI) : Prop := ∃ t, PI X tg it t ∧ ∀ (G H : Hp) (As : List Addr) (σ : L2.St) (ρ : Rho) (κ : Kap) (P : List PyData → (Kap → Prop) → Kap → Prop) (R : L2.It → Hp → Prop), Cells X.K G H As κ → Places X.K G As σ ρ → w ρ κ P →
  (∀ J xs ok G' H' As' κ', Step G H As G' H' As' → Cells X.K G' H' As' κ' → Places X.K G' As' σ ρ → WalkOk X.K G' As' J xs ok → ok κ' → P xs ok κ' → R J H') → t σ H R
/-- a list, a tuple, a text -/
def iSeq (K : PySem.W.Frag) (tl : TE) : TI := fun σ H R => tl σ H fun x H1 => (∃ a xs, x = .ref a ∧ SqL K H1 a xs ∧ R (Itl K a) H1) ∨ (∃ a xs, x = .ref a ∧ SqT K H1 a xs ∧ R (Itt K a) H1) ∨ ∃ z, x = .str z ∧ R (Its z) H1
section
variable {X : Cx} {tg l : Expr}
theorem pi_seq {tl : TE} (hl : PE X l tl) : PI X tg l (iSeq X.K tl) := by
  refine ⟨fun pins s σ H R I h => ?_⟩
  refine thn (hl.run pins s σ H _ I h) fun v s1 ⟨x, H1, I1, r1, q1⟩ => ?_
  rcases q1 with ⟨a, xs, ex, hq, q⟩ | ⟨a, xs, ex, hq, q⟩ | ⟨z, ex, q⟩
  · subst ex
    cases r1
    obtain ⟨its, rv, pl, hz⟩ := I1.list hq
    refine wpAny_pyIter_list pl.isList ⟨s1.heap.objs.size, [s1.heap.objs.size], _, _, H1, rfl, I1.kept (t' := s1.toks) fun b o e => Heap.get?_push_of_some _ e, turn_list a _, ⟨_, Heap.get?_push_size _ rfl, rfl, rfl⟩, fun b hb => ?_, q⟩
    have e : b = s1.heap.objs.size := by simpa using hb
    subst e
    exact I1.fpOk (Nat.le_refl _) (I1.hok.fresh (Nat.le_refl _))
  · subst ex
    cases r1
    obtain ⟨its, rv, pl, hz⟩ := I1.tuple hq
    refine wpAny_pyIter_tuple (show s1.heap.IsTuple a its.toArray from pl) ⟨s1.heap.objs.size, [s1.heap.objs.size], _, _, H1, rfl, I1.kept (t' := s1.toks) fun b o e => Heap.get?_push_of_some _ e, turn_tuple a _, ⟨_, Heap.get?_push_size _ rfl, rfl, rfl⟩, fun b hb => ?_, q⟩
    have e : b = s1.heap.objs.size := by simpa using hb
    subst e
    exact I1.fpOk (Nat.le_refl _) (I1.hok.fresh (Nat.le_refl _))
  · subst ex
    obtain ⟨t, rfl⟩ := r1
    cases ha : z.cps.all (· < 128)
    · exact wpAny_pyIter_wide ha (pi_one (tk := s1.toks) I1 _ (turn_str _ z t "str_iterator" (.inr rfl)) ⟨_, Heap.get?_push_size _ rfl, rfl, rfl⟩ q)
    · exact wpAny_pyIter_ascii ha (pi_one (tk := s1.toks) I1 _ (turn_str _ z t "str_ascii_iterator" (.inl rfl)) ⟨_, Heap.get?_push_size _ rfl, rfl, rfl⟩ q)
end
def wSq (we : DTE) : DTI := fun ρ κ P => we ρ κ fun r κ1 => Opt (val κ1 r.st) fun x => match x with
  | .list xs => P xs (fun κ' => val κ' r.st = some (.list xs)) κ1
  | .tuple xs => P xs (fun κ' => val κ' r.st = some (.tuple xs)) κ1
  | .str z => P (z.cps.toList.map fun c => .str ⟨#[c]⟩) (fun _ => True) κ1
  | _ => False
section
variable {K : PySem.W.Frag} {G H G' H' : Hp} {As As' : List Addr} {κ : Kap} {v : V} {r : R}
theorem walk_list {a : Addr} {xs : List PyData} (i0 : It K G As (.ref a) r) : WalkOk K G As (Itl K a) xs fun κ' => val κ' r = some (.list xs) := by
  intro G' H' As' κ' e p c h
  obtain ⟨b, vs, ev, h1, h2⟩ := (i0.mono e p).vw c h
  cases ev
  refine ⟨fun i hi => ?_, ⟨vs, sql_of h1, by rw [h2.len]; exact Nat.le_refl _⟩, fun i v H'' x y hx => ?_⟩
  · obtain ⟨v, e1, _⟩ := h2.get (List.getElem?_eq_getElem hi)
    exact ⟨vs, v, sql_of h1, e1⟩
  · obtain ⟨rfl, y⟩ := y
    obtain ⟨d, e1, e2⟩ := h2.getV (y vs (sql_of h1))
    rw [e1] at hx
    cases hx
    exact ⟨G', Step.refl, c, e2⟩
theorem walk_tuple {a : Addr} {xs : List PyData} (i0 : It K G As (.ref a) r) : WalkOk K G As (Itt K a) xs fun κ' => val κ' r = some (.tuple xs) := by
  intro G' H' As' κ' e p c h
  obtain ⟨b, vs, ev, h1, h2⟩ := (i0.mono e p).vw c h |>.tup c.ext
  cases ev
  refine ⟨fun i hi => ?_, ⟨vs, h1, by rw [h2.len]; exact Nat.le_refl _⟩, fun i v H'' x y hx => ?_⟩
  · obtain ⟨v, e1, _⟩ := h2.get (List.getElem?_eq_getElem hi)
    exact ⟨vs, v, h1, e1⟩
  · obtain ⟨rfl, y⟩ := y
    obtain ⟨d, e1, e2⟩ := h2.getV (y vs h1)
    rw [e1] at hx
    cases hx
    exact ⟨G', Step.refl, c, e2⟩
theorem walk_str {z : Str} : WalkOk K G As (Its z) (z.cps.toList.map fun c => .str ⟨#[c]⟩) fun _ => True := by
  intro G' H' As' κ' e p c _
  refine ⟨fun i hi => by simpa [Its] using hi, by simp [Its], fun i v H'' x y hx => ?_⟩
  obtain ⟨rfl, c0, e1, rfl⟩ := y
  rw [List.getElem?_map, Array.getElem?_toList, e1] at hx
  cases hx
  exact ⟨G', Step.refl, c, .str _⟩
theorem walk_range {lo : Int} {n : Nat} : WalkOk K G As (Itr lo n) ((List.range n).map fun (i : Nat) => .int (lo + (i : Int))) fun _ => True := by
  intro G' H' As' κ' e p c _
  refine ⟨fun i hi => by simpa [Itr] using hi, by simp [Itr], fun i v H'' x y hx => ?_⟩
  obtain ⟨rfl, rfl⟩ := y
  rw [List.getElem?_map] at hx
  cases q : (List.range n)[i]? with
  | none => rw [q] at hx; cases hx
  | some j =>
    rw [q] at hx
    have : j = i := by
      obtain ⟨h1, h2⟩ := List.getElem?_eq_some_iff.mp q
      rw [List.getElem_range] at h2
      exact h2.symm
    subst this
    cases hx
    exact ⟨G', Step.refl, c, .int _⟩
theorem walk_rev {a : Addr} {xs : List PyData} (i0 : It K G As (.ref a) r) : WalkOk K G As (Itv K a xs.length) xs.reverse fun κ' => val κ' r = some (.list xs) := by
  intro G' H' As' κ' e p c h
  obtain ⟨b, vs, ev, h1, h2⟩ := (i0.mono e p).vw c h
  cases ev
  have hl := h2.len
  refine ⟨fun i hi => ?_, ?_, fun i v H'' x y hx => ?_⟩
  · rw [List.length_reverse] at hi
    have : xs.length - 1 - i < vs.length := by omega
    exact ⟨hi, vs, vs[xs.length - 1 - i], sql_of h1, List.getElem?_eq_getElem this⟩
  · show xs.length ≤ xs.reverse.length
    rw [List.length_reverse]; exact Nat.le_refl _
  · obtain ⟨rfl, y⟩ := y
    have hi : i < xs.length := by
      have := (List.getElem?_eq_some_iff.mp hx).1
      rwa [List.length_reverse] at this
    obtain ⟨d, e1, e2⟩ := h2.getV (y vs (sql_of h1))
    rw [List.getElem?_reverse hi, e1] at hx
    cases hx
    exact ⟨G', Step.refl, c, e2⟩
def zipD : List PyData → List PyData → List PyData
  | x :: xs, y :: ys => .tuple [x, y] :: zipD xs ys
  | _, _ => []
theorem zipD_get : ∀ {xs ys : List PyData} {i : Nat} {d : PyData}, (zipD xs ys)[i]? = some d → ∃ x y, xs[i]? = some x ∧ ys[i]? = some y ∧ d = .tuple [x, y]
  | [], _, _, _, h => by simp [zipD] at h
  | _ :: _, [], _, _, h => by simp [zipD] at h
  | x :: xs, y :: ys, 0, d, h => by
    simp [zipD] at h
    exact ⟨x, y, rfl, rfl, h.symm⟩
  | x :: xs, y :: ys, i + 1, d, h => by
    obtain ⟨a, b, h1, h2, h3⟩ := zipD_get (xs := xs) (ys := ys) (i := i) (by simpa [zipD] using h)
    exact ⟨a, b, by simpa using h1, by simpa using h2, h3⟩
theorem zipD_len : ∀ (xs ys : List PyData), (zipD xs ys).length = min xs.length ys.length
  | [], _ => by simp [zipD]
  | _ :: _, [] => by simp [zipD]
  | x :: xs, y :: ys => by
    show (zipD xs ys).length + 1 = min (xs.length + 1) (ys.length + 1)
    rw [zipD_len xs ys]; omega
/-- a new pair that a walk hands over -/
theorem pair_new {T : Addr} {u w : V} {x y : PyData} {H' : Hp} (c : Cells K G H As κ) (hT : H T = none) (hu : Rp K G u x) (hw : Rp K G w y) : ∃ G'', Step G H As G'' (upd H T (.tup [u, w])) As ∧ Cells K G'' (upd H T (.tup [u, w])) As κ ∧ Rp K G'' (.ref T) (.tuple [x, y]) := by
  have eG : Ex G (upd G T (.tup [u, w])) := Ex.new (c.ext.free hT)
  exact ⟨upd G T (.tup [u, w]), Step.laid c.ext hT, c.laid hT, .tup (sqt_of upd_same) (.cons (Rp.mono eG _ _ hu) (.cons (Rp.mono eG _ _ hw) .nil))⟩
theorem walk_zipL {r2 : R} {a b : Addr} {xs ys : List PyData} (i1 : It K G As (.ref a) r) (i2 : It K G As (.ref b) r2) : WalkOk K G As (Itz K a b) (zipD xs ys) fun κ' => val κ' r = some (.list xs) ∧ val κ' r2 = some (.list ys) := by
  intro G' H' As' κ' e p c ⟨h, h'⟩
  obtain ⟨_, vs, ev, h1, h2⟩ := (i1.mono e p).vw c h
  cases ev
  obtain ⟨_, ws, ev, h3, h4⟩ := (i2.mono e p).vw c h'
  cases ev
  have l1 := h2.len
  have l2 := h4.len
  refine ⟨fun i hi => ?_, ⟨vs, ws, sql_of h1, sql_of h3, ?_⟩, fun i v H'' x y hx => ?_⟩
  · rw [zipD_len] at hi
    have q1 : i < vs.length := by omega
    have q2 : i < ws.length := by omega
    exact ⟨vs, ws, _, _, sql_of h1, sql_of h3, List.getElem?_eq_getElem q1, List.getElem?_eq_getElem q2⟩
  · rw [zipD_len]; omega
  · obtain ⟨T, u, w, rfl, hT, rfl, f1, f2⟩ := y
    obtain ⟨d1, e1, r1⟩ := h2.getV (f1 vs (sql_of h1))
    obtain ⟨d2, e2, r2⟩ := h4.getV (f2 ws (sql_of h3))
    obtain ⟨x1, x2, g1, g2, rfl⟩ := zipD_get hx
    rw [e1] at g1; cases g1
    rw [e2] at g2; cases g2
    exact pair_new (H' := H') c hT r1 r2
theorem walk_zipT {r2 : R} {a b : Addr} {xs ys : List PyData} (i1 : It K G As (.ref a) r) (i2 : It K G As (.ref b) r2) : WalkOk K G As (RZ.ItzT K a b) (zipD xs ys) fun κ' => val κ' r = some (.tuple xs) ∧ val κ' r2 = some (.tuple ys) := by
  intro G' H' As' κ' e p c ⟨h, h'⟩
  obtain ⟨_, vs, ev, h1, h2⟩ := (i1.mono e p).vw c h |>.tup c.ext
  cases ev
  obtain ⟨_, ws, ev, h3, h4⟩ := (i2.mono e p).vw c h' |>.tup c.ext
  cases ev
  have l1 := h2.len
  have l2 := h4.len
  refine ⟨fun i hi => ?_, ⟨vs, ws, h1, h3, ?_⟩, fun i v H'' x y hx => ?_⟩
  · rw [zipD_len] at hi
    have q1 : i < vs.length := by omega
    have q2 : i < ws.length := by omega
    exact ⟨vs, ws, _, _, h1, h3, List.getElem?_eq_getElem q1, List.getElem?_eq_getElem q2⟩
  · rw [zipD_len]; omega
  · obtain ⟨T, u, w, rfl, hT, rfl, f1, f2⟩ := y
    obtain ⟨d1, e1, r1⟩ := h2.getV (f1 vs h1)
    obtain ⟨d2, e2, r2⟩ := h4.getV (f2 ws h3)
    obtain ⟨x1, x2, g1, g2, rfl⟩ := zipD_get hx
    rw [e1] at g1; cases g1
    rw [e2] at g2; cases g2
    exact pair_new (H' := H') c hT r1 r2
def enumD : Nat → List PyData → List PyData
  | _, [] => []
  | i, x :: xs => .tuple [.int i, x] :: enumD (i + 1) xs
theorem enumD_get : ∀ {xs : List PyData} {k i : Nat} {d : PyData}, (enumD k xs)[i]? = some d → ∃ x, xs[i]? = some x ∧ d = .tuple [.int ((k + i : Nat) : Int), x]
  | [], _, _, _, h => by simp [enumD] at h
  | x :: xs, k, 0, d, h => by
    simp [enumD] at h
    exact ⟨x, rfl, h.symm⟩
  | x :: xs, k, i + 1, d, h => by
    obtain ⟨a, h1, h2⟩ := enumD_get (xs := xs) (k := k + 1) (i := i) (by simpa [enumD] using h)
    refine ⟨a, by simpa using h1, ?_⟩
    rw [h2, show k + 1 + i = k + (i + 1) by omega]
theorem enumD_len : ∀ (k : Nat) (xs : List PyData), (enumD k xs).length = xs.length
  | _, [] => rfl
  | k, _ :: xs => congrArg (· + 1) (enumD_len (k + 1) xs)
theorem walk_enum {a : Addr} {xs : List PyData} (i1 : It K G As (.ref a) r) : WalkOk K G As (Ite K a) (enumD 0 xs) fun κ' => val κ' r = some (.list xs) := by
  intro G' H' As' κ' e p c h
  obtain ⟨_, vs, ev, h1, h2⟩ := (i1.mono e p).vw c h
  cases ev
  have l1 := h2.len
  refine ⟨fun i hi => ?_, ⟨vs, sql_of h1, by rw [enumD_len]; omega⟩, fun i v H'' x y hx => ?_⟩
  · rw [enumD_len] at hi
    have q1 : i < vs.length := by omega
    exact ⟨vs, _, sql_of h1, List.getElem?_eq_getElem q1⟩
  · obtain ⟨T, u, rfl, hT, rfl, f1⟩ := y
    obtain ⟨d1, e1, r1⟩ := h2.getV (f1 vs (sql_of h1))
    obtain ⟨x1, g1, rfl⟩ := enumD_get hx
    rw [e1] at g1; cases g1
    rw [Nat.zero_add]
    exact pair_new (H' := H') c hT (.int _) r1
end
section
variable {X : Cx} {tg l : Expr} {we : DTE} {pos p : Pos}
theorem di_seq (he : DE X l we) : DI X tg l (wSq we) := by
  obtain ⟨t, pt, he⟩ := he
  refine ⟨_, pi_seq pt, fun G H As σ ρ κ P R c p w k => ?_⟩
  refine he G H As σ ρ κ _ _ c p w fun v r G1 H1 As1 κ1 s1 c1 p1 i1 w1 => ?_
  obtain ⟨G1', s1', c1', p1', i1', _⟩ := settle s1 c1 p1 i1
  obtain ⟨x, ex, w2⟩ := w1.ex
  cases x with
  | list xs =>
    obtain ⟨a, vs, rfl, h1, h2⟩ := i1'.vw c1' ex
    exact .inl ⟨a, vs, rfl, sql_of h1, k _ xs _ G1' H1 As1 κ1 s1' c1' p1' (walk_list i1') ex w2⟩
  | tuple xs =>
    obtain ⟨a, vs, rfl, h1, h2⟩ := i1'.vw c1' ex |>.tup c1'.ext
    exact .inr (.inl ⟨a, vs, rfl, h1, k _ xs _ G1' H1 As1 κ1 s1' c1' p1' (walk_tuple i1') ex w2⟩)
  | str z =>
    have h := i1'.vw c1' ex
    cases h
    exact .inr (.inr ⟨z, rfl, k _ _ _ G1' H1 As1 κ1 s1' c1' p1' walk_str trivial w2⟩)
  | none => exact w2.elim
  | bool _ => exact w2.elim
  | int _ => exact w2.elim
  | dict _ => exact w2.elim
def wRng1 (wa : DTA) : DTI := fun ρ κ P => wa ρ κ fun rs κ1 => match rs with
  | [.d (.int n)] => -(2 ^ 62) ≤ n ∧ n < 2 ^ 62 ∧ P ((List.range n.toNat).map fun (i : Nat) => .int (0 + (i : Int))) (fun _ => True) κ1
  | _ => False
def wRng2 (wa : DTA) : DTI := fun ρ κ P => wa ρ κ fun rs κ1 => match rs with
  | [.d (.int m), .d (.int n)] => (-(2 ^ 62) ≤ m ∧ m < 2 ^ 62 ∧ -(2 ^ 62) ≤ n ∧ n < 2 ^ 62) ∧ P ((List.range (n - m).toNat).map fun (i : Nat) => .int (m + (i : Int))) (fun _ => True) κ1
  | _ => False
def wRev (wa : DTA) : DTI := fun ρ κ P => wa ρ κ fun rs κ1 => match rs with
  | [r] => Opt (val κ1 r) fun x => match x with
    | .list xs => P xs.reverse (fun κ' => val κ' r = some (.list xs)) κ1
    | _ => False
  | _ => False
def wEnum (wa : DTA) : DTI := fun ρ κ P => wa ρ κ fun rs κ1 => match rs with
  | [r] => Opt (val κ1 r) fun x => match x with
    | .list xs => P (enumD 0 xs) (fun κ' => val κ' r = some (.list xs)) κ1
    | _ => False
  | _ => False
def wZip (wa : DTA) : DTI := fun ρ κ P => wa ρ κ fun rs κ1 => match rs with
  | [r, q] => Opt (val κ1 r) fun x => Opt (val κ1 q) fun y => match x, y with
    | .list xs, .list ys => P (zipD xs ys) (fun κ' => val κ' r = some (.list xs) ∧ val κ' q = some (.list ys)) κ1
    | .tuple xs, .tuple ys => P (zipD xs ys) (fun κ' => val κ' r = some (.tuple xs) ∧ val κ' q = some (.tuple ys)) κ1
    | _, _ => False
  | _ => False
variable {wr : DTA} {a b : Expr}
theorem di_range1 (hm : X.mg "range" = none) (ha : DA X [a] wr) (hg : Gl X "range" := by rfl) (hs : starEach [a] X.env = [(false, eval a X.env)] := by rfl) : DI X tg (.Call (.Name "range" p) [a] [] pos) (wRng1 wr) := by
  obtain ⟨t, pt, ha⟩ := ha
  refine ⟨_, pi_range1 hg hm pt hs, fun G H As σ ρ κ P R c p w k => ?_⟩
  refine ha G H As σ ρ κ _ _ c p w fun vs rs G1 H1 As1 κ1 s1 c1 p1 i1 l1 w1 => ?_
  split at w1
  · rename_i n
    obtain ⟨h1, h2, w1⟩ := w1
    match vs, i1 with
    | [_], .cons z .nil =>
      have z : Rp X.K G1 _ (.int n) := z
      cases z
      exact ⟨n, rfl, h1, h2, k _ _ _ G1 H1 As1 κ1 s1 c1 p1 walk_range trivial w1⟩
  · exact w1.elim
theorem di_range2 (hm : X.mg "range" = none) (ha : DA X [a, b] wr) (hg : Gl X "range" := by rfl) (hs : starEach [a, b] X.env = [(false, eval a X.env), (false, eval b X.env)] := by rfl) (hs2 : starEach [b] X.env = [(false, eval b X.env)] := by rfl) : DI X tg (.Call (.Name "range" p) [a, b] [] pos) (wRng2 wr) := by
  obtain ⟨t, pt, ha⟩ := ha
  refine ⟨_, pi_range2 hg hm pt hs hs2, fun G H As σ ρ κ P R c p w k => ?_⟩
  refine ha G H As σ ρ κ _ _ c p w fun vs rs G1 H1 As1 κ1 s1 c1 p1 i1 l1 w1 => ?_
  split at w1
  · rename_i m n
    obtain ⟨h1, w1⟩ := w1
    match vs, i1 with
    | [_, _], .cons z (.cons y .nil) =>
      have z : Rp X.K G1 _ (.int m) := z
      have y : Rp X.K G1 _ (.int n) := y
      cases z
      cases y
      exact ⟨m, n, rfl, h1, k _ _ _ G1 H1 As1 κ1 s1 c1 p1 walk_range trivial w1⟩
  · exact w1.elim
theorem di_rev (hm : X.mg "reversed" = none) (ha : DA X [a] wr) (hg : Gl X "reversed" := by rfl) (hs : starEach [a] X.env = [(false, eval a X.env)] := by rfl) : DI X tg (.Call (.Name "reversed" p) [a] [] pos) (wRev wr) := by
  obtain ⟨t, pt, ha⟩ := ha
  refine ⟨_, pi_reversed hg hm pt hs, fun G H As σ ρ κ P R c p w k => ?_⟩
  refine ha G H As σ ρ κ _ _ c p w fun vs rs G1 H1 As1 κ1 s1 c1 p1 i1 l1 w1 => ?_
  split at w1
  · rename_i r
    obtain ⟨x, ex, w2⟩ := w1.ex
    match vs, i1 with
    | [_], .cons z .nil =>
      cases x with
      | list xs =>
        obtain ⟨a, ws, rfl, h1, h2⟩ := z.vw c1 ex
        refine ⟨a, ws, rfl, sql_of h1, ?_⟩
        rw [h2.len]
        exact k _ _ _ G1 H1 As1 κ1 s1 c1 p1 (walk_rev z) ex w2
      | _ => exact w2.elim
  · exact w1.elim
theorem di_enum {elts : List Expr} {kk : Nat} {tpos : Pos} (hm : X.mg "enumerate" = none) (ha : DA X [a] wr) (hg : Gl X "enumerate" := by rfl) (hs : starEach [a] X.env = [(false, eval a X.env)] := by rfl) : DI X (.Tuple elts kk tpos) (.Call (.Name "enumerate" p) [a] [] pos) (wEnum wr) := by
  obtain ⟨t, pt, ha⟩ := ha
  refine ⟨_, pi_enum hg hm pt hs, fun G H As σ ρ κ P R c p w k => ?_⟩
  refine ha G H As σ ρ κ _ _ c p w fun vs rs G1 H1 As1 κ1 s1 c1 p1 i1 l1 w1 => ?_
  split at w1
  · rename_i r
    obtain ⟨x, ex, w2⟩ := w1.ex
    match vs, i1 with
    | [_], .cons z .nil =>
      cases x with
      | list xs =>
        obtain ⟨a, ws, rfl, h1, h2⟩ := z.vw c1 ex
        exact ⟨a, ws, rfl, sql_of h1, k _ _ _ G1 H1 As1 κ1 s1 c1 p1 (walk_enum z) ex w2⟩
      | _ => exact w2.elim
  · exact w1.elim
theorem di_zip {elts : List Expr} {kk : Nat} {tpos : Pos} (hm : X.mg "zip" = none) (ha : DA X [a, b] wr) (hg : Gl X "zip" := by rfl) (hs : starEach [a, b] X.env = (false, eval a X.env) :: starEach [b] X.env := by rfl) (hpl : (backTo pos (starEach [b] X.env)).any (·.1) = false := by rfl) :
    DI X (.Tuple elts kk tpos) (.Call (.Name "zip" p) [a, b] [] pos) (wZip wr) := by
  obtain ⟨t, pt, ha⟩ := ha
  refine ⟨_, RZ.pi_zipA hg hm pt hs hpl, fun G H As σ ρ κ P R c p w k => ?_⟩
  refine ha G H As σ ρ κ _ _ c p w fun vs rs G1 H1 As1 κ1 s1 c1 p1 i1 l1 w1 => ?_
  split at w1
  · rename_i r q
    obtain ⟨x, ex, w2⟩ := w1.ex
    obtain ⟨y, ey, w2⟩ := w2.ex
    match vs, i1 with
    | [_, _], .cons z1 (.cons z2 .nil) =>
      split at w2
      · obtain ⟨a, ws, rfl, h1, h2⟩ := z1.vw c1 ex
        obtain ⟨b, us, rfl, h3, h4⟩ := z2.vw c1 ey
        exact ⟨a, b, ws, us, rfl, .inl ⟨sql_of h1, sql_of h3, k _ _ _ G1 H1 As1 κ1 s1 c1 p1 (walk_zipL z1 z2) ⟨ex, ey⟩ w2⟩⟩
      · obtain ⟨a, ws, rfl, h1, h2⟩ := z1.vw c1 ex |>.tup c1.ext
        obtain ⟨b, us, rfl, h3, h4⟩ := z2.vw c1 ey |>.tup c1.ext
        exact ⟨a, b, ws, us, rfl, .inr ⟨h1, h3, k _ _ _ G1 H1 As1 κ1 s1 c1 p1 (walk_zipT z1 z2) ⟨ex, ey⟩ w2⟩⟩
      · exact w2.elim
  · exact w1.elim
end

/-! ### for -/
def forL (ok : Kap → Prop) (g : DTG) (b : DTS) (E : DEnds) : List PyData → Rho → Kap → Prop
  | [], ρ, κ => E.nx ρ κ
  | x :: xs, ρ, κ => g (.d x) ρ κ fun ρ1 κ1 => b { nx := fun ρ2 κ2 => ok κ2 ∧ forL ok g b E xs ρ2 κ2, rt := E.rt, bk := E.nx, ct := fun ρ2 κ2 => ok κ2 ∧ forL ok g b E xs ρ2 κ2 } ρ1 κ1
def wFor (wi : DTI) (g : DTG) (b : DTS) : DTS := fun E ρ κ => wi ρ κ fun xs ok κ1 => forL ok g b E xs ρ κ1
def whileN (t : DTT) (b : DTS) (E : DEnds) : Nat → Rho → Kap → Prop
  | 0, _, _ => False
  | n + 1, ρ, κ => t ρ κ fun z κ1 => if z = true then b { nx := whileN t b E n, rt := E.rt, bk := E.nx, ct := whileN t b E n } ρ κ1 else E.nx ρ κ1
def wWhile (t : DTT) (b : DTS) : DTS := fun E ρ κ => ∃ n, whileN t b E n ρ κ
section
variable {X : Cx} {tg it c : Expr} {body : List Stmt} {wi : DTI} {g : DTG} {b : DTS} {js : List Nat} {pos : Pos} {wt : DTT}
theorem ds_for (hp : PassesOwn (model X.prog X.w) X.A X.env X.xe) (hc : X.calm = true) (hi : DI X tg it wi) (hg : DG X tg js g) (hb : DSs X body b) (hs : ∀ x, foldedSetIterable it X.env x = pure x := by intro _; rfl) : DS X (.For tg it body [] pos) (wFor wi g b) := by
  obtain ⟨ti, pi, hi⟩ := hi
  obtain ⟨tg', pg, hg⟩ := hg
  obtain ⟨tb, pb, hb⟩ := hb
  refine ⟨_, ps_for hp hc pi pg pb hs, fun G H As σ ρ κ E D cc p w r => ?_⟩
  refine hi G H As σ ρ κ _ _ cc p w fun J xs ok G1 H1 As1 κ1 s1 c1 p1 wk o1 w1 => ?_
  refine ⟨fun i m σ' H' => i + m = xs.length ∧ ∃ G' As' ρ' κ', Step G1 H1 As1 G' H' As' ∧ Cells X.K G' H' As' κ' ∧ Places X.K G' As' σ' ρ' ∧ ok κ' ∧ forL ok g b E (xs.drop i) ρ' κ',
    ⟨xs.length, by omega, G1, As1, ρ, κ1, Step.refl, c1, p1, o1, w1⟩, fun i m σ' H' hW => ?_⟩
  obtain ⟨em, G', As', ρ', κ', s', c', p', o', f⟩ := hW
  obtain ⟨wgo, wst, wyl⟩ := wk G' H' As' κ' s'.ex s'.pre c' o'
  cases m with
  | zero =>
    have ei : i = xs.length := by omega
    subst ei
    rw [List.drop_length] at f
    exact .inl ⟨wst, r.nx _ _ G' H' As' κ' (s1.trans s') c' p' f⟩
  | succ m =>
    have hi' : i < xs.length := by omega
    rw [List.drop_eq_getElem_cons hi'] at f
    refine .inr ⟨wgo i hi', fun σ2 H2 => ∃ G2 As2 ρ2 κ2, Step G1 H1 As1 G2 H2 As2 ∧ Cells X.K G2 H2 As2 κ2 ∧ Places X.K G2 As2 σ2 ρ2 ∧ ok κ2 ∧ forL ok g b E (xs.drop (i + 1)) ρ2 κ2,
      fun σ2 H2 ⟨G2, As2, ρ2, κ2, q⟩ => ⟨m, by omega, by omega, G2, As2, ρ2, κ2, q⟩, fun v H2 hy => ?_⟩
    obtain ⟨G2, s2, c2, r2⟩ := wyl i v H2 _ hy (List.getElem?_eq_getElem hi')
    refine hg G2 H2 As' σ' ρ' κ' v (.d xs[i]) _ _ c2 (p'.step s2) r2 f fun σ3 ρ3 G3 H3 As3 κ3 _ s3 c3 p3 w3 => ?_
    have st : Step G1 H1 As1 G3 H3 As3 := (s'.trans s2).trans s3
    refine hb G3 H3 As3 σ3 ρ3 κ3 _ _ c3 p3 w3 ⟨fun a b' c d e f' x y z q => ⟨c, e, b', f', st.trans x, y, z, q.1, q.2⟩, fun a b' c d e f' x y z q => r.nx a b' c d e f' ((s1.trans st).trans x) y z q, fun a b' c d e f' x y z q => ⟨c, e, b', f', st.trans x, y, z, q.1, q.2⟩, fun a b' c d e f' x y z q => r.rt a b' c d e f' ((s1.trans st).trans x) y (z.back (s1.trans st)) q⟩
theorem ds_while (hp : PassesOwn (model X.prog X.w) X.A X.env X.xe) (ht : DT X c wt) (hb : DSs X body b) : DS X (.While c body [] pos) (wWhile wt b) := by
  obtain ⟨tt, pt, ht⟩ := ht
  obtain ⟨tb, pb, hb⟩ := hb
  refine ⟨_, ps_while hp pt pb, fun G H As σ ρ κ E D cc p w r => ?_⟩
  obtain ⟨n, w⟩ := w
  refine ⟨fun m σ' H' => ∃ G' As' ρ' κ', Step G H As G' H' As' ∧ Cells X.K G' H' As' κ' ∧ Places X.K G' As' σ' ρ' ∧ whileN wt b E m ρ' κ', ⟨n, G, As, ρ, κ, Step.refl, cc, p, w⟩, fun m σ' H' hW => ?_⟩
  obtain ⟨G', As', ρ', κ', s', c', p', f⟩ := hW
  cases m with
  | zero => exact f.elim
  | succ m =>
    refine ht G' H' As' σ' ρ' κ' _ _ c' p' f fun z G1 H1 As1 κ1 s1 c1 p1 w1 => ?_
    cases z with
    | false =>
      rw [if_neg (by decide)] at w1 ⊢
      exact r.nx _ _ G1 H1 As1 κ1 (s'.trans s1) c1 p1 w1
    | true =>
      rw [if_pos rfl] at w1 ⊢
      have st : Step G H As G1 H1 As1 := s'.trans s1
      refine ⟨fun σ2 H2 => ∃ G2 As2 ρ2 κ2, Step G H As G2 H2 As2 ∧ Cells X.K G2 H2 As2 κ2 ∧ Places X.K G2 As2 σ2 ρ2 ∧ whileN wt b E m ρ2 κ2, fun σ2 H2 q => ⟨m, Nat.lt_succ_self m, q⟩, ?_⟩
      exact hb G1 H1 As1 σ' ρ' κ1 _ _ c1 p1 w1 ⟨fun a b' c d e f' x y z q => ⟨c, e, b', f', st.trans x, y, z, q⟩, fun a b' c d e f' x y z q => r.nx a b' c d e f' (st.trans x) y z q, fun a b' c d e f' x y z q => ⟨c, e, b', f', st.trans x, y, z, q⟩, fun a b' c d e f' x y z q => r.rt a b' c d e f' (st.trans x) y (z.back st) q⟩
end

/-! ### comprehensions -/
def wipeR (ρ : Rho) : List Nat → Rho
  | [] => ρ
  | v :: vs => (wipeR ρ vs).set v none
theorem wipeR_some {ρ : Rho} {i : Nat} {x : R} : ∀ {vs : List Nat}, (wipeR ρ vs)[i]? = some (some x) → ρ[i]? = some (some x) ∧ i ∉ vs
  | [], h => ⟨h, by simp⟩
  | v :: vs, h => by
    unfold wipeR at h
    by_cases hi : v = i
    · subst hi
      by_cases hv : v < (wipeR ρ vs).length
      · rw [List.getElem?_set_self hv] at h; cases h
      · rw [List.getElem?_eq_none (by rw [List.length_set]; omega)] at h; cases h
    · rw [List.getElem?_set_ne hi] at h
      obtain ⟨h1, h2⟩ := wipeR_some h
      exact ⟨h1, by simp only [List.mem_cons, not_or]; exact ⟨fun e => hi e.symm, h2⟩⟩
theorem wipeR_len (ρ : Rho) : ∀ vs : List Nat, (wipeR ρ vs).length = ρ.length
  | [] => rfl
  | v :: vs => by unfold wipeR; rw [List.length_set, wipeR_len ρ vs]
theorem Places.wipe {K : PySem.W.Frag} {G : Hp} {As : List Addr} {σ : L2.St} {ρ : Rho} (p : Places K G As σ ρ) (vs : List Nat) : Places K G As (wipe σ vs) (wipeR ρ vs) :=
  ⟨by rw [wipe_length, wipeR_len]; exact p.len, fun i r h => by
    obtain ⟨h1, h2⟩ := wipeR_some h
    obtain ⟨v, e, q⟩ := p.ok i r h1
    exact ⟨v, by rw [wipe_out h2]; exact e, q⟩⟩
def lcL (ok : Kap → Prop) (g : DTG) (t : DTT) (e : DTE) (ρw : Rho) (P : R → Kap → Prop) : List PyData → List PyData → Kap → Prop
  | [], acc, κ => P (.f acc) κ
  | x :: xs, acc, κ => g (.d x) ρw κ fun ρ1 κ1 => t ρ1 κ1 fun b κ2 => if b = true then e ρ1 κ2 fun r κ3 => Opt (dat κ3 r.st) fun q => acc.length < sizeLine ∧ ok q.2 ∧ lcL ok g t e ρw P xs (acc ++ [q.1]) q.2 else ok κ2 ∧ lcL ok g t e ρw P xs acc κ2
def wLc (wi : DTI) (g : DTG) (t : DTT) (e : DTE) (vs : List Nat) : DTE := fun ρ κ P => wi ρ κ fun xs ok κ1 => lcL ok g t e (wipeR ρ vs) P xs [] κ1
def wYes : DTT := fun _ κ P => P true κ
def DTs (X : Cx) (ifs : List Expr) (w : DTT) : Prop := ∃ t, PTs X ifs t ∧ ∀ (G H : Hp) (As : List Addr) (σ : L2.St) (ρ : Rho) (κ : Kap) (P : Bool → Kap → Prop) (Q : Bool → Hp → Prop), Cells X.K G H As κ → Places X.K G As σ ρ → w ρ κ P →
  (∀ b G' H' As' κ', Step G H As G' H' As' → Cells X.K G' H' As' κ' → Places X.K G' As' σ ρ → P b κ' → Q b H') → t σ H Q
section
variable {X : Cx}
theorem dts_nil : DTs X [] wYes := ⟨_, pts_nil, fun G H As σ ρ κ P Q c p w k => k true G H As κ Step.refl c p w⟩
theorem dts_one {c : Expr} {wt : DTT} (h : DT X c wt) : DTs X [c] wt := by
  obtain ⟨t, pt, h⟩ := h
  exact ⟨_, pts_one pt, h⟩
/-- where a block's parts are read: its context, whatever it is -/
structure BI where
  s : Shared
  H : Hp
  C : Addr
  cl : List (Str × Addr)
  fp : List Addr
abbrev BI.cx (i : BI) (X : Cx) (scope : Scope) : Cx := X.blk i.s i.H scope (compEnvC scope i.cl i.C X.env) i.fp
/-- one reading for all contexts -/
theorem uni_G {scope : Scope} {tg : Expr} {js : List Nat} {w : DTG} (h : ∀ i : BI, DG (i.cx X scope) tg js w) : ∃ g, (∀ i : BI, PG (i.cx X scope) tg g) ∧ ∀ (G H : Hp) (As : List Addr) (σ : L2.St) (ρ : Rho) (κ : Kap) (v : V) (r : R) (P : Rho → Kap → Prop) (Q : L2.St → Hp → Prop), Cells X.K G H As κ → Places X.K G As σ ρ → It X.K G As v r → w r ρ κ P →
    (∀ σ' ρ' G' H' As' κ', Wr js σ σ' → Step G H As G' H' As' → Cells X.K G' H' As' κ' → Places X.K G' As' σ' ρ' → P ρ' κ' → Q σ' H') → g v σ H Q := by
  obtain ⟨f, hf⟩ := Classical.skolem.mp h
  exact ⟨fun v σ H Q => ∀ i, f i v σ H Q, fun i => ⟨fun pins s σ H v u Q I r q => (hf i).1.run pins s σ H v u Q I r (q i)⟩, fun G H As σ ρ κ v r P Q c p i0 w k i => (hf i).2 G H As σ ρ κ v r P Q c p i0 w k⟩
theorem uni_T {scope : Scope} {ifs : List Expr} {w : DTT} (h : ∀ i : BI, DTs (i.cx X scope) ifs w) : ∃ t, (∀ i : BI, PTs (i.cx X scope) ifs t) ∧ ∀ (G H : Hp) (As : List Addr) (σ : L2.St) (ρ : Rho) (κ : Kap) (P : Bool → Kap → Prop) (Q : Bool → Hp → Prop), Cells X.K G H As κ → Places X.K G As σ ρ → w ρ κ P →
    (∀ b G' H' As' κ', Step G H As G' H' As' → Cells X.K G' H' As' κ' → Places X.K G' As' σ ρ → P b κ' → Q b H') → t σ H Q := by
  obtain ⟨f, hf⟩ := Classical.skolem.mp h
  exact ⟨fun σ H Q => ∀ i, f i σ H Q, fun i => ⟨fun pins s σ H Q I q => (hf i).1.run pins s σ H Q I (q i)⟩, fun G H As σ ρ κ P Q c p w k i => (hf i).2 G H As σ ρ κ P Q c p w k⟩
theorem uni_E {scope : Scope} {e : Expr} {w : DTE} (h : ∀ i : BI, DE (i.cx X scope) e w) : ∃ t, (∀ i : BI, PE (i.cx X scope) e t) ∧ ∀ (G H : Hp) (As : List Addr) (σ : L2.St) (ρ : Rho) (κ : Kap) (P : R → Kap → Prop) (Q : VK), Cells X.K G H As κ → Places X.K G As σ ρ → w ρ κ P →
    (∀ v r G' H' As' κ', Step G H As G' H' As' → Cells X.K G' H' As' κ' → Places X.K G' As' σ ρ → Rv X.K H G' H' As' v r → P r κ' → Q v H') → t σ H Q := by
  obtain ⟨f, hf⟩ := Classical.skolem.mp h
  exact ⟨fun σ H Q => ∀ i, f i σ H Q, fun i => ⟨fun pins s σ H Q I q => (hf i).1.run pins s σ H Q I (q i)⟩, fun G H As σ ρ κ P Q c p w k i => (hf i).2 G H As σ ρ κ P Q c p w k⟩
variable {elt tg iter : Expr} {ifs : List Expr} {scope : Scope} {own : List (Str × Nat)} {pos : Pos} {wi : DTI} {g : DTG} {wt : DTT} {we : DTE} {js : List Nat}
theorem lc_reads {ti : TI} {gg : TG} {tt : TT} {te : TE} {vs : List Nat} (hj : ∀ j, j ∈ js → j ∈ vs)
    (hi : ∀ (G H : Hp) (As : List Addr) (σ : L2.St) (ρ : Rho) (κ : Kap) (P : List PyData → (Kap → Prop) → Kap → Prop) (R : L2.It → Hp → Prop), Cells X.K G H As κ → Places X.K G As σ ρ → wi ρ κ P → (∀ J xs ok G' H' As' κ', Step G H As G' H' As' → Cells X.K G' H' As' κ' → Places X.K G' As' σ ρ → WalkOk X.K G' As' J xs ok → ok κ' → P xs ok κ' → R J H') → ti σ H R)
    (hg : ∀ (G H : Hp) (As : List Addr) (σ : L2.St) (ρ : Rho) (κ : Kap) (v : V) (r : R) (P : Rho → Kap → Prop) (Q : L2.St → Hp → Prop), Cells X.K G H As κ → Places X.K G As σ ρ → It X.K G As v r → g r ρ κ P → (∀ σ' ρ' G' H' As' κ', Wr js σ σ' → Step G H As G' H' As' → Cells X.K G' H' As' κ' → Places X.K G' As' σ' ρ' → P ρ' κ' → Q σ' H') → gg v σ H Q)
    (ht : ∀ (G H : Hp) (As : List Addr) (σ : L2.St) (ρ : Rho) (κ : Kap) (P : Bool → Kap → Prop) (Q : Bool → Hp → Prop), Cells X.K G H As κ → Places X.K G As σ ρ → wt ρ κ P → (∀ b G' H' As' κ', Step G H As G' H' As' → Cells X.K G' H' As' κ' → Places X.K G' As' σ ρ → P b κ' → Q b H') → tt σ H Q)
    (he : ∀ (G H : Hp) (As : List Addr) (σ : L2.St) (ρ : Rho) (κ : Kap) (P : R → Kap → Prop) (Q : VK), Cells X.K G H As κ → Places X.K G As σ ρ → we ρ κ P → (∀ v r G' H' As' κ', Step G H As G' H' As' → Cells X.K G' H' As' κ' → Places X.K G' As' σ ρ → Rv X.K H G' H' As' v r → P r κ' → Q v H') → te σ H Q)
    (G H : Hp) (As : List Addr) (σ : L2.St) (ρ : Rho) (κ : Kap) (P : R → Kap → Prop) (Q : VK) (c : Cells X.K G H As κ) (p : Places X.K G As σ ρ) (w : wLc wi g wt we vs ρ κ P)
    (k : ∀ v r G' H' As' κ', Step G H As G' H' As' → Cells X.K G' H' As' κ' → Places X.K G' As' σ ρ → Rv X.K H G' H' As' v r → P r κ' → Q v H') : tLc ti gg tt te vs σ H Q := by
  refine hi G H As σ ρ κ _ _ c p w fun J xs ok G1 H1 As1 κ1 s1 c1 p1 wk o1 w1 => fun D hD => ?_
  have gD1 : G1 D = none := c1.ext.free hD
  have nD1 : D ∉ As1 := c1.notin hD
  -- the list that is made stands at D, is known to nobody, and only the turns change it
  let W : Nat → Hp → Prop := fun i H' => ∃ G' As' κ' acc vs', Step G1 H1 As1 G' H' As' ∧ Cells X.K G' H' As' κ' ∧ G' D = none ∧ D ∉ As' ∧ H' D = some (.lst vs') ∧ RpA X.K G' vs' acc ∧ ok κ' ∧ lcL ok g wt we (wipeR ρ vs) P (xs.drop i) acc κ'
  -- a step keeps the list at D as it is
  have keep : ∀ {Ga Ha Asa Gb Hb Asb} {vs' : List V}, Step Ga Ha Asa Gb Hb Asb → Ga D = none → D ∉ Asa → Ha D = some (.lst vs') → Gb D = none ∧ D ∉ Asb ∧ Hb D = some (.lst vs') := fun s g0 n0 h0 => by
    refine ⟨?_, fun hm => ?_, s.fr D _ n0 h0⟩
    · rcases s.gn D g0 with z | z | z
      · exact z
      · rw [h0] at z; cases z
      · exact absurd z n0
    · rcases s.new D hm with z | z
      · exact n0 z
      · rw [h0] at z; cases z
  -- a turn's end: the item goes onto the list
  have grow : ∀ {G' H' As' κ' acc vs' v y i}, Step G1 H1 As1 G' H' As' → Cells X.K G' H' As' κ' → G' D = none → D ∉ As' → H' D = some (.lst vs') → RpA X.K G' vs' acc → Rp X.K G' v y → ok κ' → lcL ok g wt we (wipeR ρ vs) P (xs.drop i) (acc ++ [y]) κ' → W i (upd H' D (.lst (vs' ++ [v]))) := fun {G' H' As' κ' acc vs' v y i} s c g0 n0 h0 rp rv o f => by
    refine ⟨G', As', κ', acc ++ [y], vs' ++ [v], ⟨s.ex, s.pre, s.new, fun b u hb e => ?_, fun b e => ?_, s.gn⟩, ⟨c.ext.mut g0, c.len, c.nd, fun a ha => ?_, fun j x a e1 e2 => ?_⟩, g0, n0, upd_same, rp.app (.cons rv .nil), o, f⟩
    · by_cases q : b = D
      · subst q; rw [hD] at e; cases e
      · rw [upd_ne q]; exact s.fr b u hb e
    · by_cases q : b = D
      · subst q; rw [upd_same] at e; cases e
      · rw [upd_ne q] at e; exact s.dom b e
    · by_cases q : a = D
      · subst q; exact ⟨_, upd_same⟩
      · rw [upd_ne q]; exact c.al a ha
    · have z := c.ok j x a e1 e2
      cases x with
      | l ds =>
        obtain ⟨z1, ws, z2, z3⟩ := z
        have ne : a ≠ D := fun q => n0 (by rw [← q]; exact List.mem_of_getElem? e2)
        exact ⟨z1, ws, by rw [upd_ne ne]; exact z2, z3⟩
      | z x => exact z
  refine ⟨fun i m H' => i + m = xs.length ∧ W i H', ⟨xs.length, by omega, G1, As1, κ1, [], [], Step.fresh hD, c1.fresh hD, gD1, nD1, upd_same, .nil, o1, w1⟩, fun i m H' hW => ?_⟩
  obtain ⟨em, G', As', κ', acc, vs', s', c', g', n', h', rp, o', f⟩ := hW
  obtain ⟨wgo, wst, wyl⟩ := wk G' H' As' κ' s'.ex s'.pre c' o'
  cases m with
  | zero =>
    have ei : i = xs.length := by omega
    subst ei
    rw [List.drop_length] at f
    have st := s1.trans s'
    exact .inl ⟨wst, k _ (.f acc) G' H' As' κ' st c' (p.step st) ⟨D, vs', rfl, s1.dom D hD, g', n', h', rp⟩ f⟩
  | succ m =>
    have hi' : i < xs.length := by omega
    rw [List.drop_eq_getElem_cons hi'] at f
    refine .inr ⟨wgo i hi', W (i + 1), fun H2 q => ⟨m, by omega, by omega, q⟩, fun v H2 hy => ?_⟩
    obtain ⟨G2, s2, c2, r2⟩ := wyl i v H2 _ hy (List.getElem?_eq_getElem hi')
    obtain ⟨g2, n2, h2⟩ := keep s2 g' n' h'
    refine hg G2 H2 As' (wipe σ vs) (wipeR ρ vs) κ' v (.d xs[i]) _ _ c2 ((p.step ((s1.trans s').trans s2)).wipe vs) r2 f fun σ3 ρ3 G3 H3 As3 κ3 a3 s3 c3 p3 w3 => ⟨?_, ?_⟩
    · have hw : wipe (wipe σ vs) vs = wipe σ vs := by
        refine List.ext_getElem? fun j => ?_
        by_cases hj : j ∈ vs
        · rw [wipe_in hj, wipe_in hj, wipe_length]
        · rw [wipe_out hj]
      rw [← hw]
      have q := a3.wipe hj
      rw [q]
    · obtain ⟨g3, n3, h3⟩ := keep s3 g2 n2 h2
      refine ht G3 H3 As3 σ3 ρ3 κ3 _ _ c3 p3 w3 fun z G4 H4 As4 κ4 s4 c4 p4 w4 => ?_
      obtain ⟨g4, n4, h4⟩ := keep s4 g3 n3 h3
      have st4 : Step G1 H1 As1 G4 H4 As4 := ((s'.trans s2).trans s3).trans s4
      cases z with
      | false =>
        rw [if_neg (by decide)] at w4 ⊢
        exact ⟨G4, As4, κ4, acc, vs', st4, c4, g4, n4, h4, RpA.mono (((s2.trans s3).trans s4)).ex _ _ rp, w4.1, w4.2⟩
      | true =>
        rw [if_pos rfl] at w4 ⊢
        refine he G4 H4 As4 σ3 ρ3 κ4 _ _ c4 p4 w4 fun v5 r5 G5 H5 As5 κ5 s5 c5 p5 i5 w5 => ?_
        obtain ⟨G5', s5', c5', p5', i5', _⟩ := settle s5 c5 p5 i5
        obtain ⟨⟨y, κ6⟩, e6, hl, ho, w6⟩ := w5.ex
        obtain ⟨G6, s6, c6, r6⟩ := dat_ok c5' i5' e6
        have st6 := s5'.trans s6
        obtain ⟨g6, n6, h6⟩ := keep st6 g4 n4 h4
        have rp6 := RpA.mono ((((s2.trans s3).trans s4)).trans st6).ex _ _ rp
        refine ⟨vs', h6, by rw [rp6.len]; exact hl, ?_⟩
        exact grow (st4.trans st6) c6 g6 n6 h6 rp6 r6 ho w6
theorem de_lc (hc : X.calm = true) (hN : X.N.Nodup) (hi : DI X tg iter wi) (ok : BlkOk X.N X.env.scope scope own) (hg : ∀ i : BI, DG (i.cx X scope) tg js g) (ht : ∀ i : BI, DTs (i.cx X scope) ifs wt) (he : ∀ i : BI, DE (i.cx X scope) elt we)
    (hj : ∀ j, j ∈ js → j ∈ own.map (·.2) := by decide) (hs : ∀ x, foldedSetIterable iter X.env x = pure x := by intro _; rfl) : DE X (.ListComp elt [⟨tg, iter, ifs, 0⟩] scope pos) (wLc wi g wt we (own.map (·.2))) := by
  obtain ⟨ti, pi, hi⟩ := hi
  obtain ⟨gg, pg, hg⟩ := uni_G hg
  obtain ⟨tt, pt, ht⟩ := uni_T ht
  obtain ⟨te, pe, he⟩ := uni_E he
  exact ⟨_, pe_lc hc hN pi ok (fun s H C cl fp => pg ⟨s, H, C, cl, fp⟩) (fun s H C cl fp => pt ⟨s, H, C, cl, fp⟩) (fun s H C cl fp => pe ⟨s, H, C, cl, fp⟩) hs, lc_reads hj hi hg ht he⟩
/-- name = [..] -/
theorem ds_setLc (m : Bool) (i : Nat) {y : Str} {py spos : Pos} (hc : X.calm = true) (hN : X.N.Nodup) (hsw : swapsWith (.ListComp elt [⟨tg, iter, ifs, 0⟩] scope pos) (some (.Name y py)) spos.line X.env = pure true) (hi : DI X tg iter wi) (ok : BlkOk X.N X.env.scope scope own) (hg : ∀ i : BI, DG (i.cx X scope) tg js g) (ht : ∀ i : BI, DTs (i.cx X scope) ifs wt) (he : ∀ i : BI, DE (i.cx X scope) elt we)
    (hy : X.N[i]? = some y := by rfl) (hyl : X.env.scope.names.lookup y = some .local := by rfl) (hj : ∀ j, j ∈ js → j ∈ own.map (·.2) := by decide) (hs : ∀ x, foldedSetIterable iter X.env x = pure x := by intro _; rfl) :
    DS X (.Assign [.Name y py] (.ListComp elt [⟨tg, iter, ifs, 0⟩] scope pos) spos) (wSet m i (wLc wi g wt we (own.map (·.2)))) := by
  obtain ⟨ti, pi, hi⟩ := hi
  obtain ⟨gg, pg, hg⟩ := uni_G hg
  obtain ⟨tt, pt, ht⟩ := uni_T ht
  obtain ⟨te, pe, he⟩ := uni_E he
  refine ⟨_, ps_setLc hc hN hy hyl hsw pi ok (fun s H C cl fp => pg ⟨s, H, C, cl, fp⟩) (fun s H C cl fp => pt ⟨s, H, C, cl, fp⟩) (fun s H C cl fp => pe ⟨s, H, C, cl, fp⟩) hs, fun G H As σ ρ κ E D c p w r => ?_⟩
  refine lc_reads hj hi hg ht he G H As σ ρ κ _ _ c p w fun v q G1 H1 As1 κ1 s1 c1 p1 i1 w1 => ?_
  obtain ⟨G1', As1', s1', c1', i1', e1, e2⟩ := sto_ok m s1 c1 i1
  exact r.nx _ _ G1' H1 As1' _ s1' c1' ((p1.mono e1 e2).put i i1') w1
end

/-! ### lists changed in place -/
def wAppend (wo wa : DTE) : DTE := fun ρ κ P => wo ρ κ fun ro κ1 => (match ro with
  | .c k => (∃ zs, κ1[k]? = some (.l zs)) ∧ wa ρ κ1 fun r κ2 => Opt (dat κ2 r.st) fun q => match q.2[k]? with
    | some (.l xs) => xs.length < sizeLine ∧ P (.d .none) (q.2.set k (.l (xs ++ [q.1])))
    | _ => False
  | _ => False)
/-- o[i] = v -/
def wSub (wo wi : DTE) : DTG := fun r ρ κ P => Opt (dat κ r) fun q => wo ρ q.2 fun ro κ1 => match ro with
  | .c k => wi ρ κ1 fun ri κ2 => match ri, κ2[k]? with
    | .d (.int i), some (.l xs) => Opt (ixN xs.length i) fun j => P ρ (κ2.set k (.l (xs.set j q.1)))
    | _, _ => False
  | _ => False
section
variable {X : Cx} {o a i : Expr} {wo wa wi : DTE} {apos cpos pos : Pos}
theorem de_append (ho : DE X o wo) (ha : DE X a wa) (hbase : attributeBase o "append" X.env (eval o X.env) = eval o X.env := by rfl)
    (hfew : ((backTo cpos (starEach [a] X.env)).all (fun x => !x.1) && (backToKw cpos (keywordEach [] X.env)).all (fun x => x.1.isSome) && decide (([a] : List Expr).length + ([] : List Keyword).length + (if ([] : List Keyword).isEmpty then 0 else 1) < 30)) = true := by rfl)
    (hline : (apos.endLine == cpos.line) = true := by rfl) (hs : starEach [a] X.env = (false, eval a X.env) :: starEach [] X.env := by rfl) (hplain : (backTo cpos (starEach [] X.env)).any (·.1) = false := by rfl) :
    DE X (.Call (.Attribute o "append" apos) [a] [] cpos) (wAppend wo wa) := by
  obtain ⟨to, po, ho⟩ := ho
  obtain ⟨ta, pa, ha⟩ := ha
  refine ⟨_, pe_bm PySem.F.plainAttrs_list PySem.F.slot_list_append PySem.F.type_list_append mt_append po (pa_cons pa pa_nil hs) hbase hfew hline hs hplain, fun G H As σ ρ κ P Q c p w k => ?_⟩
  refine ho G H As σ ρ κ _ _ c p w fun v1 r1 G1 H1 As1 κ1 s1 c1 p1 i1 w1 => ?_
  cases r1 with
  | c kk =>
    obtain ⟨l, hl, rfl⟩ := i1
    obtain ⟨⟨zs, ez⟩, w1⟩ := w1
    obtain ⟨_, zv, z2, _⟩ := c1.ok kk _ l ez hl
    refine ⟨.inl ⟨rfl, zv, sql_of z2⟩, ?_⟩
    refine ha G1 H1 As1 σ ρ κ1 _ _ c1 p1 w1 fun v2 r2 G2 H2 As2 κ2 s2 c2 p2 i2 w2 => ?_
    obtain ⟨G2', s2', c2', p2', i2', _⟩ := settle s2 c2 p2 i2
    obtain ⟨⟨x, κ3⟩, e3, w3⟩ := w2.ex
    obtain ⟨G3, s3, c3, r3⟩ := dat_ok c2' i2' e3
    have st := s2'.trans s3
    obtain ⟨bs, eb⟩ := st.pre
    have hl3 : As2[kk]? = some l := by rw [eb, List.getElem?_append_left (List.getElem?_eq_some_iff.mp hl).1]; exact hl
    simp only at w3
    cases q : κ3[kk]? with
    | none => rw [q] at w3; exact w3.elim
    | some cc =>
      rw [q] at w3
      cases cc with
      | z y => exact w3.elim
      | l xs =>
        obtain ⟨w4, w5⟩ := w3
        obtain ⟨g0, vs, hq, rp⟩ := c3.ok kk _ l q hl3
        refine ⟨l, vs, v2, rfl, rfl, hq, by rw [rp.len]; exact w4, ?_⟩
        have sw : Step G3 H2 As2 G3 (upd H2 l (.lst (vs ++ [v2]))) As2 := Step.write (List.mem_of_getElem? hl3) hq
        have sa := (s1.trans st).trans sw
        exact k .non (.d .none) G3 _ As2 _ sa (c3.write q hl3 (rp.app (.cons r3 .nil))) (p.step sa) .non w5
  | _ => exact w1.elim
theorem dg_sub (ho : DE X o wo) (hi : DE X i wi) (hx : ∀ v, assign (.Subscript o i pos) X.env v = (do
      let ov ← holding [v] (eval o X.env)
      let iv ← holding [v, ov] (eval i X.env)
      standAt pos
      holding [v, ov, iv] (setItem ov iv v)
      release [v, ov, iv] []) := by intro _; rfl) : DG X (.Subscript o i pos) [] (wSub wo wi) := by
  obtain ⟨to, po, ho⟩ := ho
  obtain ⟨ti, pi, hi⟩ := hi
  refine ⟨_, pg_sub po pi set_list hx, fun G H As σ ρ κ v r P Q c p i0 w k => ?_⟩
  obtain ⟨⟨x, κ0⟩, e0, w⟩ := w.ex
  obtain ⟨G0, s0, c0, r0⟩ := dat_ok c i0 e0
  refine ho G0 H As σ ρ κ0 _ _ c0 (p.step s0) w fun v1 r1 G1 H1 As1 κ1 s1 c1 p1 i1 w1 => ?_
  cases r1 with
  | c kk =>
    obtain ⟨l, hl, rfl⟩ := i1
    refine hi G1 H1 As1 σ ρ κ1 _ _ c1 p1 w1 fun v2 r2 G2 H2 As2 κ2 s2 c2 p2 i2 w2 => ?_
    split at w2
    · rename_i o1 o2 ii xs hk
      obtain ⟨j, ej, w3⟩ := w2.ex
      have i2 : Rp X.K G2 v2 (.int ii) := i2
      cases i2
      obtain ⟨bs, eb⟩ := s2.pre
      have hl2 : As2[kk]? = some l := by rw [eb, List.getElem?_append_left (List.getElem?_eq_some_iff.mp hl).1]; exact hl
      obtain ⟨g0, vs, hq, rp⟩ := c2.ok kk _ l hk hl2
      refine ⟨l, vs, ii, j, rfl, rfl, hq, by rw [rp.len]; exact ej, ?_⟩
      have sw : Step G2 H2 As2 G2 (upd H2 l (.lst (vs.set j v))) As2 := Step.write (List.mem_of_getElem? hl2) hq
      have sa := ((s0.trans s1).trans s2).trans sw
      exact k σ ρ G2 _ As2 _ Wr.refl sa (c2.write hk hl2 (rp.set (Rp.mono (s1.trans s2).ex _ _ r0) j)) (p.step sa) w3
    · exact w2.elim
  | _ => exact w1.elim
end

/-! ### a def's body -/
def outR (κ : Kap) (n : Nat) : R → Option R
  | .c k => if k < n then some (.c k) else match κ[k]? with
    | some (.l xs) => some (.f xs)
    | some (.z x) => some (.d x)
    | none => none
  | .b _ => none
  | r => some r
/-- a def's end: what its cell holds then, what it hands back -/
def endL (κ : Kap) (r : R) (Pd : R → List PyData → Prop) : Prop := match (κ[(0 : Nat)]? : Option Cell) with
  | some (.l bs) => Opt (outR κ 1 r) fun r' => Pd r' bs
  | _ => False
theorem endL_ex {κ : Kap} {r : R} {Pd : R → List PyData → Prop} (h : endL κ r Pd) : ∃ bs r', κ[(0 : Nat)]? = some (.l bs) ∧ outR κ 1 r = some r' ∧ Pd r' bs := by
  unfold endL at h
  split at h
  · rename_i bs e
    obtain ⟨r', e', q⟩ := h.ex
    exact ⟨bs, r', e, e', q⟩
  · exact h.elim
section
variable {P : Program} {w : World} {K : PySem.W.Frag} {mg : Str → Option Value} {base : Heap} {x qual : Str} {st : Stmt} {f : Addr} {fd : FuncData} {N ps : List Str} {k : Nat}
theorem out_rv {K : PySem.W.Frag} {G0 H0 G H : Hp} {As0 As : List Addr} {κ : Kap} {v : V} {r r' : R} {n : Nat} (hn : As0.length = n) (s : Step G0 H0 As0 G H As) (c : Cells K G H As κ) (h : Rv K H0 G H As v r) (e : outR κ n r = some r') : Rv K H0 G H As0 v r' := by
  obtain ⟨bs, eb⟩ := s.pre
  cases r with
  | d x => cases e; exact h
  | s ns => cases e; exact h
  | b ks => cases e
  | f xs =>
    cases e
    obtain ⟨p, vs, ev, h0, g0, nin, q⟩ := h
    exact ⟨p, vs, ev, h0, g0, fun z => nin (by rw [eb]; exact List.mem_append_left _ z), q⟩
  | c j =>
    obtain ⟨a, ha, rfl⟩ := h
    unfold outR at e
    simp only at e
    split at e
    · rename_i hj
      cases e
      refine ⟨a, ?_, rfl⟩
      rw [eb, List.getElem?_append_left (by omega)] at ha
      exact ha
    · rename_i hj
      have hna : a ∉ As0 := fun hm => by
        have nd := c.nd
        rw [eb] at nd ha
        obtain ⟨i, hi, ei⟩ := List.getElem_of_mem hm
        have h1 : (As0 ++ bs)[i]? = some a := by rw [List.getElem?_append_left hi, List.getElem?_eq_getElem hi, ei]
        obtain ⟨l1, q1⟩ := List.getElem?_eq_some_iff.mp h1
        obtain ⟨l2, q2⟩ := List.getElem?_eq_some_iff.mp ha
        have := (List.getElem_inj nd).mp (q1.trans q2.symm)
        omega
      split at e
      · rename_i xs hk
        cases e
        obtain ⟨g0, vs, hq, rp⟩ := c.ok j _ a hk ha
        refine ⟨a, vs, rfl, ?_, g0, hna, hq, rp⟩
        rcases s.new a (List.mem_of_getElem? ha) with z | z
        · exact absurd z hna
        · exact z
      · rename_i x hk
        cases e
        exact c.ok j _ a hk ha
      · cases e
theorem Step.short {G0 H0 G H : Hp} {As0 As : List Addr} (s : Step G0 H0 As0 G H As) : Step G0 H0 As0 G H As0 :=
  ⟨s.ex, ⟨[], by simp⟩, fun _ h => .inl h, s.fr, s.dom, s.gn⟩
/-- the slots at the entry -/
theorem places_start {K : PySem.W.Frag} {G : Hp} {As : List Addr} {vs : List V} {rs : List R} (h : Paired (It K G As) vs rs) (m : Nat) : Places K G As (vs.map some ++ List.replicate m none) (rs.map some ++ List.replicate m none) := by
  have hl := Paired.length h
  refine ⟨by rw [List.length_append, List.length_append, List.length_map, List.length_map, List.length_replicate, List.length_replicate, hl], fun i r e => ?_⟩
  by_cases hi : i < rs.length
  · rw [List.getElem?_append_left (by rw [List.length_map]; exact hi), List.getElem?_map, List.getElem?_eq_getElem hi] at e
    cases e
    have get : ∀ {vs : List V} {rs : List R} {i : Nat} (hi : i < rs.length), Paired (It K G As) vs rs → ∃ v, vs[i]? = some v ∧ It K G As v rs[i] := fun {vs} => by
      induction vs with
      | nil => intro rs i hi h; cases h; exact absurd hi (by simp)
      | cons v vs ih =>
        intro rs i hi h
        cases h with
        | cons r t =>
          cases i with
          | zero => exact ⟨v, rfl, r⟩
          | succ i => exact ih (i := i) (by simpa using hi) t
    obtain ⟨v, e1, e2⟩ := get hi h
    refine ⟨v, ?_, e2⟩
    rw [List.getElem?_append_left (by rw [List.length_map, hl]; exact hi), List.getElem?_map, e1]
    rfl
  · rw [List.getElem?_append_right (by rw [List.length_map]; omega), List.getElem?_replicate] at e
    split at e <;> cases e
theorem dfn {Φ : List R → (R → Prop) → Prop} (F : Fun K x qual st f fd) (S : FnScope N ps (defScope st))
    (hb : ∀ (cdv : Value) (A : Around) (outer : List Env) (s : Shared) (H : Hp) (E : XK), Room k (A.deeper (envOfC qual (defScope st) s.heap.objs.size f cdv)) →
      ∃ wd, DSs (cxOf CX0 P w K mg base N qual (defScope st) f cdv A outer s H E).nox (defBody st) wd ∧ ∀ rs Pd, Φ rs Pd → rs.length = ps.length → wd { nx := fun _ _ => Pd (.d .none), rt := fun r κ => Opt (outR κ 0 r) Pd } (rs.map some ++ List.replicate (N.length - ps.length) none) []) :
    FnOk P w K mg base CX0 (k + 1) f fd ps (spD K ps.length Φ) := by
  refine F.ok S (fun vs H Q E h => h.1) (fun cdv A outer s H vs Q E hr h => ?_)
  obtain ⟨hl, G, rs, Pd, ext, i0, hΦ, kk⟩ := h
  obtain ⟨wd, ⟨t, pt, ht⟩, hw⟩ := hb cdv A outer s H E hr
  have hl2 : rs.length = ps.length := (Paired.length i0).symm.trans hl
  refine ⟨t, pt, ?_⟩
  have c0 : Cells K G H [] [] := ⟨ext, rfl, by simp, fun a h => (List.not_mem_nil h).elim, fun j c a h => by simp at h⟩
  have p0 := places_start i0 (N.length - ps.length)
  unfold L2.start
  rw [hl]
  refine ht G H [] _ _ [] _ _ c0 p0 (hw rs Pd hΦ hl2) ⟨fun σ' ρ' G' H' As' κ' s' c' _ q => ?_, fun _ _ _ _ _ _ _ _ _ q => q.elim, fun _ _ _ _ _ _ _ _ _ q => q.elim, fun v r G' H' As' κ' s' c' rv q => ?_⟩
  · exact kk .non (.d .none) G' H' q c'.ext s'.short .non
  · obtain ⟨r', e, q⟩ := q.ex
    exact kk v r' G' H' q c'.ext s'.short (out_rv rfl s' c' rv e)
theorem dfnL {Φ : List PyData → List R → (R → List PyData → Prop) → Prop} {n : Nat} (F : Fun K x qual st f fd) (S : FnScope N ps (defScope st)) (hn : ps.length = n + 1)
    (hb : ∀ (cdv : Value) (A : Around) (outer : List Env) (s : Shared) (H : Hp) (E : XK), Room k (A.deeper (envOfC qual (defScope st) s.heap.objs.size f cdv)) →
      ∃ wd, DSs (cxOf CX0 P w K mg base N qual (defScope st) f cdv A outer s H E).nox (defBody st) wd ∧ ∀ bs rs Pd, Φ bs rs Pd → rs.length = n → wd { nx := fun _ κ => endL κ (.d .none) Pd, rt := fun r κ => endL κ r Pd } (some (.c 0) :: (rs.map some ++ List.replicate (N.length - ps.length) none)) [.l bs]) :
    FnOk P w K mg base CX0 (k + 1) f fd ps (spL K ps.length Φ) := by
  refine F.ok S (fun vs H Q E h => h.1) (fun cdv A outer s H vs Q E hr h => ?_)
  obtain ⟨hl, G, a, ws, bs, rs, Pd, rfl, c0, i0, hΦ, kk⟩ := h
  obtain ⟨wd, ⟨t, pt, ht⟩, hw⟩ := hb cdv A outer s H E hr
  have hl2 : rs.length = n := by
    have e1 := Paired.length i0
    rw [List.length_cons] at hl
    omega
  refine ⟨t, pt, ?_⟩
  have i1 : Paired (It K G [a]) (V.ref a :: ws) (R.c 0 :: rs) := .cons ⟨a, rfl, rfl⟩ (Paired.mapP i0 fun _ _ z => z.mono (Ex.refl G) ⟨[a], rfl⟩)
  have p0 := places_start i1 (N.length - ps.length)
  have one : ∀ {G' H' As' κ' bs'}, Step G H [a] G' H' As' → Cells K G' H' As' κ' → κ'[0]? = some (.l bs') → Cells K G' H' [a] [.l bs'] := fun s' c' e => by
    obtain ⟨zs, ez⟩ := s'.pre
    exact c'.one e (by rw [ez]; rfl)
  unfold L2.start
  rw [hl]
  refine ht G H [a] _ _ [.l bs] _ _ c0 p0 (hw bs rs Pd hΦ hl2) ⟨fun σ' ρ' G' H' As' κ' s' c' _ q => ?_, fun _ _ _ _ _ _ _ _ _ q => q.elim, fun _ _ _ _ _ _ _ _ _ q => q.elim, fun v r G' H' As' κ' s' c' rv q => ?_⟩
  · obtain ⟨bs', r', e, e', q⟩ := endL_ex q
    cases e'
    exact kk .non (.d .none) bs' G' H' q (one s' c' e) s'.short .non
  · obtain ⟨bs', r', e0, e, q⟩ := endL_ex q
    exact kk v r' bs' G' H' q (one s' c' e0) s'.short (out_rv rfl s' c' rv e)
end
end DL
/-! DLe: operators, comparisons, subscripts, slices, built-ins, over plain data. -/
namespace DL
open PySem PySem.Spec PyProof.Rows L2

section
variable {K : PySem.W.Frag} {G H : Hp} {v : V}
theorem vw_int {i : Int} (h : Vw K G H v (.int i)) : v = .int i := by
  have h : Rp K G v (.int i) := h
  cases h; rfl
theorem vw_str {z : Str} (h : Vw K G H v (.str z)) : v = .str z := by
  have h : Rp K G v (.str z) := h
  cases h; rfl
theorem vw_bool {b : Bool} (h : Vw K G H v (.bool b)) : v = .bl b := by
  have h : Rp K G v (.bool b) := h
  cases h; rfl
theorem vw_none (h : Vw K G H v .none) : v = .non := by
  have h : Rp K G v .none := h
  cases h; rfl
end

/-! ### operators -/
def addD : PyData → PyData → Option Out
  | .int i, .int j => some (.v (.int (i + j)))
  | .str x, .str y => if x.length + y.length ≤ sizeLine then some (.v (.str (x ++ y))) else none
  | .list xs, .list ys => if xs.length + ys.length ≤ sizeLine then some (.n (xs ++ ys)) else none
  | .tuple xs, .tuple ys => if xs.length + ys.length ≤ sizeLine then some (.t (xs ++ ys)) else none
  | _, _ => none
def rAddD (K : PySem.W.Frag) : R2 := fun x y H Q => (∃ i j, x = .int i ∧ y = .int j ∧ Q (.int (i + j)) H) ∨ (∃ i j, x = .str i ∧ y = .str j ∧ i.length + j.length ≤ sizeLine ∧ Q (.str (i ++ j)) H) ∨ rCat x y H Q ∨ rCatA K x y H Q
theorem op_addD {X : Cx} : OpR X (binaryOp .Add) (rAddD X.K) := by
  intro pins s σ H x y v u Q I rx ry h
  rcases h with h | h | h | h
  · exact op_add pins s σ H x y v u Q I rx ry h
  · exact op_add_str pins s σ H x y v u Q I rx ry h
  · exact op_cat pins s σ H x y v u Q I rx ry h
  · exact op_catA pins s σ H x y v u Q I rx ry h
theorem add_ok {K : PySem.W.Frag} : OpD K (rAddD K) addD := by
  intro G H v u x y o Q ext hx hy e k
  unfold addD at e
  split at e
  · cases e
    rw [vw_int hx, vw_int hy]
    exact .inl ⟨_, _, rfl, rfl, k _ (.int _)⟩
  · split at e
    · cases e
      rw [vw_str hx, vw_str hy]
      exact .inr (.inl ⟨_, _, rfl, rfl, by assumption, k _ (.str _)⟩)
    · cases e
  · split at e
    · cases e
      obtain ⟨a, vs, rfl, h1, h2⟩ := hx
      obtain ⟨b, ws, rfl, h3, h4⟩ := hy
      exact .inr (.inr (.inl ⟨a, b, vs, ws, rfl, rfl, h1, h3, by rw [h2.len, h4.len]; assumption, fun p hp => k p _ hp (h2.app h4)⟩))
    · cases e
  · split at e
    · cases e
      have hx' := hx
      have hy' := hy
      obtain ⟨a, vs, rfl, h1, h2⟩ := hx.tup ext
      obtain ⟨b, ws, rfl, h3, h4⟩ := hy.tup ext
      refine .inr (.inr (.inr ⟨a, b, vs, ws, rfl, rfl, h1, h3, by rw [h2.len, h4.len]; assumption, fun z => ?_, fun _ z => ?_, fun _ _ p hp => k.1 p _ hp (h2.app h4)⟩))
      · subst z
        cases h2
        exact k.2 _ hy'
      · subst z
        cases h4
        rw [List.append_nil] at k
        exact k.2 _ hx'
    · cases e
  · cases e

def intD (f : Int → Int → Option PyData) : PyData → PyData → Option Out
  | .int i, .int j => (f i j).map .v
  | _, _ => none
theorem int_ok {K : PySem.W.Frag} {r : R2} {f : Int → Int → Option PyData} (h : ∀ (i j : Int) (z : PyData) (H : Hp) (Q : VK), f i j = some z → (∀ w, (∀ G, Rp K G w z) → Q w H) → r (.int i) (.int j) H Q) : OpD K r (intD f) := by
  intro G H v u x y o Q ext hx hy e k
  unfold intD at e
  split at e
  · rename_i i j
    cases q : f i j with
    | none => rw [q] at e; cases e
    | some z =>
      rw [q] at e
      cases e
      rw [vw_int hx, vw_int hy]
      exact h i j z H Q q fun w hw => k w (hw G)
  · cases e
def subD := intD fun i j => some (.int (i - j))
theorem sub_ok {K : PySem.W.Frag} : OpD K (rI0 fun i j => .int (i - j)) subD := int_ok fun i j z H Q e k => by
  cases e; exact ⟨i, j, rfl, rfl, k _ fun _ => .int _⟩
open Classical in
noncomputable def modD := intD fun i j => if 0 < j then some (.int (i % j)) else none
theorem mod_ok {K : PySem.W.Frag} : OpD K (rI (fun _ j => 0 < j) fun i j => .int (i % j)) modD := int_ok fun i j z H Q e k => by
  split at e
  · cases e; exact ⟨i, j, rfl, rfl, by assumption, k _ fun _ => .int _⟩
  · cases e
open Classical in
noncomputable def fdivD := intD fun i j => if 0 < j ∧ j < 1073741824 then some (.int (i / j)) else none
theorem fdiv_ok {K : PySem.W.Frag} : OpD K (rI CDiv fun i j => .int (i / j)) fdivD := int_ok fun i j z H Q e k => by
  split at e
  · cases e; exact ⟨i, j, rfl, rfl, by assumption, k _ fun _ => .int _⟩
  · cases e
open Classical in
noncomputable def powD := intD fun i j => if 0 ≤ j ∧ j ≤ 1000000 ∧ i.natAbs < 2 ^ 64 then some (.int (i ^ j.toNat)) else none
theorem pow_ok {K : PySem.W.Frag} : OpD K (rI CPow fun i j => .int (i ^ j.toNat)) powD := int_ok fun i j z H Q e k => by
  split at e
  · cases e; exact ⟨i, j, rfl, rfl, by assumption, k _ fun _ => .int _⟩
  · cases e
open Classical in
/-- ints, and a list so many times -/
noncomputable def mulD : PyData → PyData → Option Out
  | .int i, .int j => if CMul i j then some (.v (.int (i * j))) else none
  | .list xs, .int k => @ite _ (-(2 ^ 63) ≤ k ∧ k < 2 ^ 63 ∧ xs.length * k.toNat ≤ sizeLine) (propDecidable _) (some (.n (List.replicate k.toNat xs).flatten)) none
  | _, _ => none
def rMulD : R2 := fun x y H Q => rI CMul (fun i j => .int (i * j)) x y H Q ∨ rRep x y H Q
theorem op_mulD {X : Cx} : OpR X (binaryOp .Mult) rMulD := by
  intro pins s σ H x y v u Q I rx ry h
  rcases h with h | h
  · exact op_mul pins s σ H x y v u Q I rx ry h
  · exact op_rep pins s σ H x y v u Q I rx ry h
theorem RpA.rep {K : PySem.W.Frag} {H : Hp} {vs : List V} {ds : List PyData} (h : RpA K H vs ds) : ∀ n : Nat, RpA K H (List.replicate n vs).flatten (List.replicate n ds).flatten
  | 0 => .nil
  | n + 1 => by
    rw [List.replicate_succ, List.replicate_succ, List.flatten_cons, List.flatten_cons]
    exact h.app (RpA.rep h n)
theorem mul_ok {K : PySem.W.Frag} : OpD K rMulD mulD := by
  intro G H v u x y o Q ext hx hy e k
  unfold mulD at e
  split at e
  · split at e
    · cases e
      rw [vw_int hx, vw_int hy]
      exact .inl ⟨_, _, rfl, rfl, by assumption, k _ (.int _)⟩
    · cases e
  · split at e
    · rename_i hc
      cases e
      obtain ⟨a, vs, rfl, h1, h2⟩ := hx
      rw [vw_int hy]
      refine .inr ⟨a, _, vs, rfl, rfl, h1, hc.1, hc.2.1, by rw [h2.len]; exact hc.2.2, fun p hp => k p _ hp ?_⟩
      exact h2.rep _
    · cases e
  · cases e
def negD : PyData → Option Out
  | .int i => some (.v (.int (-i)))
  | _ => none
theorem neg_ok {K : PySem.W.Frag} : UnD K (rU fun i => .int (-i)) negD := by
  intro G H v x o Q ext hx e k
  unfold negD at e
  split at e
  · cases e
    rw [vw_int hx]
    exact ⟨_, rfl, k _ (.int _)⟩
  · cases e

/-! ### comparisons -/
def eqD (neg : Bool) (x y : PyData) : Option Out := if SeqAt.shaped x = true ∧ SeqAt.shaped y = true then some (.v (.bool (if neg then !PyData.eqv x y else PyData.eqv x y))) else none
theorem eq_ok {K : PySem.W.Frag} : OpD K (rEqD K) (eqD false) := by
  intro G H v u x y o Q ext hx hy e k
  unfold eqD at e
  split at e
  · rename_i hs
    cases e
    exact ⟨x, y, Rp.dp _ _ (hx.rp ext), Rp.dp _ _ (hy.rp ext), hs.1, hs.2, k _ (.bl _)⟩
  · cases e
theorem ne_ok {K : PySem.W.Frag} : OpD K (rNeD K) (eqD true) := by
  intro G H v u x y o Q ext hx hy e k
  unfold eqD at e
  split at e
  · rename_i hs
    cases e
    exact ⟨x, y, Rp.dp _ _ (hx.rp ext), Rp.dp _ _ (hy.rp ext), hs.1, hs.2, k _ (.bl _)⟩
  · cases e
/-- <, <=, >, >= of ints and of texts -/
def ordD (fi : Int → Int → Bool) (fs : List Nat → List Nat → Bool) : PyData → PyData → Option Out
  | .int i, .int j => some (.v (.bool (fi i j)))
  | .str x, .str y => some (.v (.bool (fs x.cps.toList y.cps.toList)))
  | _, _ => none
def rOrdD (fi : Int → Int → Bool) (fs : List Nat → List Nat → Bool) : R2 := fun x y H Q => (∃ i j, x = .int i ∧ y = .int j ∧ Q (.bl (fi i j)) H) ∨ ∃ i j, x = .str i ∧ y = .str j ∧ Q (.bl (fs i.cps.toList j.cps.toList)) H
theorem ord_ok {K : PySem.W.Frag} {fi : Int → Int → Bool} {fs : List Nat → List Nat → Bool} : OpD K (rOrdD fi fs) (ordD fi fs) := by
  intro G H v u x y o Q ext hx hy e k
  unfold ordD at e
  split at e
  · cases e
    rw [vw_int hx, vw_int hy]
    exact .inl ⟨_, _, rfl, rfl, k _ (.bl _)⟩
  · cases e
    rw [vw_str hx, vw_str hy]
    exact .inr ⟨_, _, rfl, rfl, k _ (.bl _)⟩
  · cases e
def ltI (i j : Int) : Bool := decide (i < j)
def leI (i j : Int) : Bool := decide (i ≤ j)
def gtI (i j : Int) : Bool := decide (j < i)
def geI (i j : Int) : Bool := decide (j ≤ i)
def ltS (i j : List Nat) : Bool := decide (i < j)
section
variable {X : Cx}
theorem op_ltD : OpR X (compareOp .Lt) (rOrdD ltI ltS) := by
  intro pins s σ H x y v u Q I rx ry h
  rcases h with h | h
  · exact op_lt pins s σ H x y v u Q I rx ry h
  · exact op_lt_str pins s σ H x y v u Q I rx ry h
theorem op_leD : OpR X (compareOp .LtE) (rOrdD leI fun _ _ => false) ∨ True := .inr trivial
end
/-- <=, >, >= of ints -/
def ciD (f : Int → Int → Bool) := intD fun i j => some (.bool (f i j))
theorem ci_ok {K : PySem.W.Frag} {f : Int → Int → Bool} : OpD K (rI0 fun i j => .bl (f i j)) (ciD f) := int_ok fun i j z H Q e k => by
  cases e; exact ⟨i, j, rfl, rfl, k _ fun _ => .bl _⟩
section
variable {X : Cx}
theorem op_leI : OpR X (compareOp .LtE) (rI0 fun i j => .bl (leI i j)) := op_le
theorem op_gtI : OpR X (compareOp .Gt) (rI0 fun i j => .bl (gtI i j)) := op_gt
theorem op_geI : OpR X (compareOp .GtE) (rI0 fun i j => .bl (geI i j)) := op_ge
end
/-- is None, is not None -/
def isND (neg : Bool) : PyData → PyData → Option Out
  | x, .none => some (.v (.bool (match x with
    | .none => !neg
    | _ => neg)))
  | _, _ => none
theorem isN_ok {K : PySem.W.Frag} {neg : Bool} : OpD K (fun x y H Q => y = .non ∧ Q (.bl (if neg then !decide (x = .non) else decide (x = .non))) H) (isND neg) := by
  intro G H v u x y o Q ext hx hy e k
  unfold isND at e
  split at e
  · cases e
    refine ⟨vw_none hy, ?_⟩
    have nr : ∀ {a : Addr}, decide (V.ref a = V.non) = false := fun {a} => decide_eq_false fun q => nomatch q
    cases x with
    | none =>
      rw [vw_none hx]
      cases neg
      · exact k _ (.bl _)
      · exact k _ (.bl _)
    | bool b => rw [vw_bool hx]; cases neg <;> exact k _ (.bl _)
    | int i => rw [vw_int hx]; cases neg <;> exact k _ (.bl _)
    | str z => rw [vw_str hx]; cases neg <;> exact k _ (.bl _)
    | list xs =>
      obtain ⟨a, vs, rfl, _⟩ := hx
      rw [nr]
      cases neg <;> exact k _ (.bl _)
    | tuple xs =>
      obtain ⟨a, vs, rfl, _⟩ := hx.tup ext
      rw [nr]
      cases neg <;> exact k _ (.bl _)
    | dict xs =>
      have hx : Rp K G v (.dict xs) := hx
      cases hx
  · cases e
section
variable {X : Cx}
theorem op_isND : OpR X (compareOp .Is) (fun x y H Q => y = .non ∧ Q (.bl (if false = true then !decide (x = .non) else decide (x = .non))) H) := fun pins s σ H x y v u Q I rx ry h => op_isN pins s σ H x y v u Q I rx ry h
theorem op_notND : OpR X (compareOp .IsNot) (fun x y H Q => y = .non ∧ Q (.bl (if true = true then !decide (x = .non) else decide (x = .non))) H) := fun pins s σ H x y v u Q I rx ry h => op_notN pins s σ H x y v u Q I rx ry h
end
/-- x in a list of data, in a tuple of flat data, in a text -/
def flatD : PyData → Bool
  | .none => true
  | .bool _ => true
  | .int _ => true
  | .str _ => true
  | _ => false
def inD (neg : Bool) : PyData → PyData → Option Out
  | x, .list ys => if SeqAt.shaped x = true ∧ SeqAt.shaped (.list ys) = true then some (.v (.bool (if neg then !ys.any fun z => PyData.eqv z x else ys.any fun z => PyData.eqv z x))) else none
  | x, .tuple ys => if flatD x = true ∧ ys.all flatD = true then some (.v (.bool (if neg then !ys.any fun z => PyData.eqv z x else ys.any fun z => PyData.eqv z x))) else none
  | .str i, .str j => some (.v (.bool (if neg then !(!(Builtin.Str.occurrences j i 0 j.length 1).isEmpty) else !(Builtin.Str.occurrences j i 0 j.length 1).isEmpty)))
  | _, _ => none
def rInA (K : PySem.W.Frag) (neg : Bool) : R2 := fun x y H Q => (∃ d ds, Dp K H x d ∧ Dp K H y (.list ds) ∧ SeqAt.shaped d = true ∧ SeqAt.shaped (.list ds) = true ∧ Q (.bl (if neg then !ds.any fun z => PyData.eqv z d else ds.any fun z => PyData.eqv z d)) H) ∨ rIn K neg x y H Q ∨
  ∃ i j, x = .str i ∧ y = .str j ∧ Q (.bl (if neg then !(!(Builtin.Str.occurrences j i 0 j.length 1).isEmpty) else !(Builtin.Str.occurrences j i 0 j.length 1).isEmpty)) H
section
variable {X : Cx}
theorem op_inA (hu : X.A.units + 65 < cLine) : OpR X (compareOp .In) (rInA X.K false) := by
  intro pins s σ H x y v u Q I rx ry h
  rcases h with h | h | h
  · exact op_inD hu pins s σ H x y v u Q I rx ry h
  · exact op_in_seq pins s σ H x y v u Q I rx ry h
  · exact op_in_str pins s σ H x y v u Q I rx ry h
theorem op_notInA (hu : X.A.units + 65 < cLine) : OpR X (compareOp .NotIn) (rInA X.K true) := by
  intro pins s σ H x y v u Q I rx ry h
  rcases h with h | h | h
  · exact op_notInD hu pins s σ H x y v u Q I rx ry h
  · exact op_notIn_seq pins s σ H x y v u Q I rx ry h
  · exact op_notIn_str pins s σ H x y v u Q I rx ry h
end
theorem flat_V {K : PySem.W.Frag} {G : Hp} {v : V} {x : PyData} (h : Rp K G v x) (f : flatD x = true) : flatV v = true := by
  cases h <;> first | rfl | cases f
theorem flat_eq {K : PySem.W.Frag} {G : Hp} {v u : V} {x y : PyData} (h : Rp K G v x) (f : flatD x = true) (h' : Rp K G u y) (f' : flatD y = true) : eqV v u = PyData.eqv x y := by
  cases h <;> first | (cases f; done) | (cases h' <;> first | (cases f'; done) | (simp [eqV, PyData.eqv]))
theorem flat_any {K : PySem.W.Frag} {G : Hp} {u : V} {y : PyData} (h' : Rp K G u y) (f' : flatD y = true) : ∀ {vs : List V} {ds : List PyData}, RpA K G vs ds → ds.all flatD = true → (vs.all flatV = true ∧ inV u vs = ds.any fun z => PyData.eqv z y)
  | _, _, .nil, _ => ⟨rfl, rfl⟩
  | _, _, .cons r t, f => by
    rw [List.all_cons, Bool.and_eq_true] at f
    obtain ⟨h1, h2⟩ := flat_any h' f' t f.2
    refine ⟨by rw [List.all_cons, flat_V r f.1, h1]; rfl, ?_⟩
    unfold inV at h2 ⊢
    rw [List.any_cons, List.any_cons, flat_eq r f.1 h' f', h2]
theorem in_ok {K : PySem.W.Frag} {neg : Bool} : OpD K (rInA K neg) (inD neg) := by
  intro G H v u x y o Q ext hx hy e k
  unfold inD at e
  split at e
  · split at e
    · rename_i hs
      cases e
      exact .inl ⟨_, _, Rp.dp _ _ (hx.rp ext), Rp.dp _ _ (hy.rp ext), hs.1, hs.2, k _ (.bl _)⟩
    · cases e
  · rename_i ys
    split at e
    · rename_i hs
      cases e
      obtain ⟨a, vs, rfl, h1, h2⟩ := hy.tup ext
      have hx' : Rp K G v x := by
        cases x <;> first | exact hx | exact absurd hs.1 (by simp [flatD])
      obtain ⟨q1, q2⟩ := flat_any hx' hs.1 h2 hs.2
      refine .inr (.inl ⟨a, vs, rfl, .inr h1, flat_V hx' hs.1, q1, ?_⟩)
      rw [q2]
      exact k _ (.bl _)
    · cases e
  · cases e
    rw [vw_str hx, vw_str hy]
    exact .inr (.inr ⟨_, _, rfl, rfl, k _ (.bl _)⟩)
  · cases e

/-! ### subscripts -/
def ixD : PyData → PyData → Option Out
  | .list xs, .int i => (atI xs i).map .v
  | .tuple xs, .int i => (atI xs i).map .v
  | .str z, .int i => if z.length ≤ sizeLine then (atI z.cps.toList i).map fun c => .v (.str ⟨#[c]⟩) else none
  | _, _ => none
theorem RpA.at {K : PySem.W.Frag} {G : Hp} {vs : List V} {ds : List PyData} {i : Int} {x : PyData} (h : RpA K G vs ds) (e : atI ds i = some x) : ∃ v, atI vs i = some v ∧ Rp K G v x := by
  unfold atI at e ⊢
  rw [h.len]
  cases q : ixN ds.length i with
  | none => rw [q] at e; cases e
  | some j =>
    rw [q] at e
    exact h.get e
theorem ix_ok {K : PySem.W.Frag} : OpD K (rIx K) ixD := by
  intro G H v u x y o Q ext hx hy e k
  unfold ixD at e
  split at e
  · rename_i xs i
    cases q : atI xs i with
    | none => rw [q] at e; cases e
    | some z =>
      rw [q] at e
      cases e
      obtain ⟨a, vs, rfl, h1, h2⟩ := hx
      obtain ⟨w, e1, e2⟩ := h2.at q
      rw [vw_int hy]
      exact .inl ⟨a, vs, i, w, rfl, rfl, sql_of h1, e1, k w e2⟩
  · rename_i xs i
    cases q : atI xs i with
    | none => rw [q] at e; cases e
    | some z =>
      rw [q] at e
      cases e
      obtain ⟨a, vs, rfl, h1, h2⟩ := hx.tup ext
      obtain ⟨w, e1, e2⟩ := h2.at q
      rw [vw_int hy]
      exact .inr (.inl ⟨a, vs, i, w, rfl, rfl, h1, e1, k w e2⟩)
  · rename_i z i
    split at e
    · cases q : atI z.cps.toList i with
      | none => rw [q] at e; cases e
      | some c =>
        rw [q] at e
        cases e
        rw [vw_str hx, vw_int hy]
        exact .inr (.inr ⟨z, i, c, rfl, rfl, by assumption, q, k _ (.str _)⟩)
    · cases e
  · cases e
/-- the script at a place -/
def wScr (wa wb : DTE) : DTE := fun ρ κ P => wa ρ κ fun r κ1 => match r with
  | .s ns => wb ρ κ1 fun q κ2 => match q with
    | .d (.int i) => Opt (atI ns i) fun n => P (.d (.int n)) κ2
    | _ => False
  | _ => False
/-! slices -/
def cut {α : Type} (xs : List α) (lo hi : Option Int) : List α := (xs.drop (HT.sIx xs.length 0 lo)).take (HT.sIx xs.length xs.length hi - HT.sIx xs.length 0 lo)
theorem RpA.cut {K : PySem.W.Frag} {G : Hp} {vs : List V} {ds : List PyData} (h : RpA K G vs ds) (lo hi : Option Int) : RpA K G (cutV vs lo hi) (cut ds lo hi) := by
  unfold cutV DL.cut
  rw [h.len]
  exact (h.drop _).take _
def slD : PyData → Option Int → Option Int → Option Out
  | .list xs, lo, hi => some (.n (cut xs lo hi))
  | .tuple xs, lo, hi => some (.t (cut xs lo hi))
  | .str z, lo, hi => if z.length ≤ sizeLine then some (.v (.str (cutS z lo hi))) else none
  | _, _, _ => none
def rSlD (K : PySem.W.Frag) : V → Option Int → Option Int → Hp → VK → Prop := fun x lo hi H Q => rSlL K x lo hi H Q ∨ rSlA K x lo hi H Q ∨ rSlS x lo hi H Q
theorem sl_any {X : Cx} : SlR X (rSlD X.K) := by
  intro pins s σ H x v vl vu lo hi sl Q I rx hs pl pu h
  rcases h with h | h | h
  · exact sl_list pins s σ H x v vl vu lo hi sl Q I rx hs pl pu h
  · exact sl_tupA pins s σ H x v vl vu lo hi sl Q I rx hs pl pu h
  · exact sl_str pins s σ H x v vl vu lo hi sl Q I rx hs pl pu h
theorem cut_all {xs : List PyData} {lo hi : Option Int} (h : HT.sIx xs.length 0 lo = 0 ∧ HT.sIx xs.length xs.length hi = xs.length) : cut xs lo hi = xs := by
  unfold cut
  rw [h.1, h.2]
  simp
abbrev DTO := Rho → Kap → (Option Int → Kap → Prop) → Prop
def DO (X : Cx) (e : Option Expr) (w : DTO) : Prop := ∃ t, PO X e t ∧ ∀ (G H : Hp) (As : List Addr) (σ : L2.St) (ρ : Rho) (κ : Kap) (P : Option Int → Kap → Prop) (Q : Option Int → Hp → Prop), Cells X.K G H As κ → Places X.K G As σ ρ → w ρ κ P →
  (∀ o G' H' As' κ', Step G H As G' H' As' → Cells X.K G' H' As' κ' → Places X.K G' As' σ ρ → P o κ' → Q o H') → t σ H Q
def wNoP : DTO := fun _ κ P => P none κ
def wP (we : DTE) : DTO := fun ρ κ P => we ρ κ fun r κ1 => match r with
  | .d (.int i) => P (some i) κ1
  | _ => False
def wSl (we : DTE) (wl wh : DTO) : DTE := fun ρ κ P => we ρ κ fun r κ1 => wl ρ κ1 fun lo κ2 => wh ρ κ2 fun hi κ3 => Opt (val κ3 r.st) fun x => Opt (slD x lo hi) fun o => P o.r κ3
section
variable {X : Cx} {e : Expr} {lo hi : Option Expr} {we : DTE} {wl wh : DTO} {pos p2 : Pos}
theorem do_none : DO X none wNoP := ⟨_, po_none, fun G H As σ ρ κ P Q c p w k => k none G H As κ Step.refl c p w⟩
theorem do_some (he : DE X e we) : DO X (some e) (wP we) := by
  obtain ⟨t, pt, he⟩ := he
  refine ⟨_, po_some pt, fun G H As σ ρ κ P Q c p w k => ?_⟩
  refine he G H As σ ρ κ _ _ c p w fun v r G1 H1 As1 κ1 s1 c1 p1 i1 w1 => ?_
  cases r with
  | d x =>
    cases x with
    | int i =>
      have i1 : Rp X.K G1 v (.int i) := i1
      cases i1
      exact ⟨i, rfl, k _ G1 H1 As1 κ1 s1 c1 p1 w1⟩
    | _ => exact w1.elim
  | _ => exact w1.elim
theorem de_sl (he : DE X e we) (hl : DO X lo wl) (hh : DO X hi wh) : DE X (.Subscript e (.Slice lo hi none p2) pos) (wSl we wl wh) := by
  obtain ⟨t, pt, he⟩ := he
  obtain ⟨tl, pl, hl⟩ := hl
  obtain ⟨th, ph, hh⟩ := hh
  refine ⟨_, pe_slice sl_any pt pl ph, fun G H As σ ρ κ P Q c p w k => ?_⟩
  refine he G H As σ ρ κ _ _ c p w fun v r G1 H1 As1 κ1 s1 c1 p1 i1 w1 => ?_
  obtain ⟨G1', s1', c1', p1', i1', _⟩ := settle s1 c1 p1 i1
  refine hl G1' H1 As1 σ ρ κ1 _ _ c1' p1' w1 fun o2 G2 H2 As2 κ2 s2 c2 p2 w2 => ?_
  refine hh G2 H2 As2 σ ρ κ2 _ _ c2 p2 w2 fun o3 G3 H3 As3 κ3 s3 c3 p3 w3 => ?_
  obtain ⟨x, ex, w4⟩ := w3.ex
  obtain ⟨o, eo, w5⟩ := w4.ex
  have st := (s1'.trans s2).trans s3
  have vw := ((s2.trans s3).it i1').vw c3 ex
  have ok := out_ok (P := P) st c3 p3 o w5 k
  unfold slD at eo
  split at eo
  · cases eo
    obtain ⟨a, vs, rfl, h1, h2⟩ := vw
    exact .inl ⟨a, vs, rfl, sql_of h1, fun q hq => ok q _ hq (h2.cut _ _)⟩
  · cases eo
    have vw' := vw
    obtain ⟨a, vs, rfl, h1, h2⟩ := vw.tup c3.ext
    refine .inr (.inl ⟨a, vs, rfl, h1, fun z => ?_, fun _ q hq => ok.1 q _ hq (h2.cut _ _)⟩)
    rw [h2.len] at z
    rw [cut_all z] at ok
    exact ok.2 _ vw'
  · split at eo
    · cases eo
      rw [vw_str vw]
      exact .inr (.inr ⟨_, rfl, by assumption, ok _ (.str _)⟩)
    · cases eo
  · cases eo
end
end DL
/-! DLf: built-ins by name, isinstance, methods of texts and lists, sorted, the script, over plain data. -/
namespace DL
open PySem PySem.Spec PyProof.Rows L2

section
variable {K : PySem.W.Frag}
theorem one_of {G H : Hp} {vs : List V} {x : PyData} (h : Paired (Vw K G H) vs [x]) : ∃ v, vs = [v] ∧ Vw K G H v x := by
  cases h with
  | cons r t => cases t; exact ⟨_, rfl, r⟩
theorem two_of {G H : Hp} {vs : List V} {x y : PyData} (h : Paired (Vw K G H) vs [x, y]) : ∃ v u, vs = [v, u] ∧ Vw K G H v x ∧ Vw K G H u y := by
  cases h with
  | cons r t =>
    cases t with
    | cons r2 t => cases t; exact ⟨_, _, rfl, r, r2⟩
/-! ### built-ins by name -/
def lenD : List PyData → Option Out
  | [.str z] => if z.length ≤ sizeLine then some (.v (.int z.length)) else none
  | [.list xs] => some (.v (.int xs.length))
  | [.tuple xs] => some (.v (.int xs.length))
  | _ => none
theorem len_ok : CallD K (fun xs H Q => ∃ x n, xs = [x] ∧ LenV K x H n ∧ Q (.int n) H) lenD := by
  intro G H vs xs o Q ext h0 e k
  unfold lenD at e
  split at e
  · split at e
    · cases e
      obtain ⟨v, rfl, h⟩ := one_of h0
      rw [vw_str h]
      exact ⟨_, _, rfl, ⟨by assumption, rfl⟩, k _ (.int _)⟩
    · cases e
  · cases e
    obtain ⟨v, rfl, h⟩ := one_of h0
    obtain ⟨a, ws, rfl, h1, h2⟩ := h
    refine ⟨_, _, rfl, .inl ⟨ws, sql_of h1, rfl⟩, ?_⟩
    rw [h2.len]
    exact k _ (.int _)
  · cases e
    obtain ⟨v, rfl, h⟩ := one_of h0
    obtain ⟨a, ws, rfl, h1, h2⟩ := h.tup ext
    refine ⟨_, _, rfl, .inr ⟨ws, h1, rfl⟩, ?_⟩
    rw [h2.len]
    exact k _ (.int _)
  · cases e
def absD : List PyData → Option Out
  | [.int i] => some (.v (.int (if i < 0 then -i else i)))
  | _ => none
theorem abs_ok : CallD K (fun xs H Q => ∃ i, xs = [.int i] ∧ Q (.int (if i < 0 then -i else i)) H) absD := by
  intro G H vs xs o Q ext h0 e k
  unfold absD at e
  split at e
  · cases e
    obtain ⟨v, rfl, h⟩ := one_of h0
    rw [vw_int h]
    exact ⟨_, rfl, k _ (.int _)⟩
  · cases e
def intC : List PyData → Option Out
  | [.int i] => some (.v (.int i))
  | [.bool b] => some (.v (.int (if b then 1 else 0)))
  | _ => none
theorem intC_ok : CallD K (fun xs H Q => (∃ i, xs = [.int i] ∧ Q (.int i) H) ∨ ∃ k, xs = [.bl k] ∧ Q (.int (if k then 1 else 0)) H) intC := by
  intro G H vs xs o Q ext h0 e k
  unfold intC at e
  split at e
  · cases e
    obtain ⟨v, rfl, h⟩ := one_of h0
    rw [vw_int h]
    exact .inl ⟨_, rfl, k _ (.int _)⟩
  · cases e
    obtain ⟨v, rfl, h⟩ := one_of h0
    rw [vw_bool h]
    exact .inr ⟨_, rfl, k _ (.int _)⟩
  · cases e
def max2D : List PyData → Option Out
  | [.int i, .int j] => some (.v (.int (if j > i then j else i)))
  | _ => none
theorem max2_ok : CallD K (fun xs H Q => ∃ i j, xs = [.int i, .int j] ∧ Q (.int (if j > i then j else i)) H) max2D := by
  intro G H vs xs o Q ext h0 e k
  unfold max2D at e
  split at e
  · cases e
    obtain ⟨v, u, rfl, h1, h2⟩ := two_of h0
    rw [vw_int h1, vw_int h2]
    exact ⟨_, _, rfl, k _ (.int _)⟩
  · cases e
def min2D : List PyData → Option Out
  | [.int i, .int j] => some (.v (.int (if j < i then j else i)))
  | _ => none
theorem min2_ok : CallD K (fun xs H Q => ∃ i j, xs = [.int i, .int j] ∧ Q (.int (if j < i then j else i)) H) min2D := by
  intro G H vs xs o Q ext h0 e k
  unfold min2D at e
  split at e
  · cases e
    obtain ⟨v, u, rfl, h1, h2⟩ := two_of h0
    rw [vw_int h1, vw_int h2]
    exact ⟨_, _, rfl, k _ (.int _)⟩
  · cases e
def listC : List PyData → Option Out
  | [.list xs] => some (.n xs)
  | [.tuple xs] => some (.n xs)
  | _ => none
theorem listC_ok : CallD K (fun xs H Q => ∃ p ys, xs = [.ref p] ∧ (SqL K H p ys ∨ SqT K H p ys) ∧ ∀ l, H l = none → Q (.ref l) (upd H l (.lst ys))) listC := by
  intro G H vs xs o Q ext h0 e k
  unfold listC at e
  split at e
  · cases e
    obtain ⟨v, rfl, h⟩ := one_of h0
    obtain ⟨a, ws, rfl, h1, h2⟩ := h
    exact ⟨_, _, rfl, .inl (sql_of h1), fun l hl => k l _ hl h2⟩
  · cases e
    obtain ⟨v, rfl, h⟩ := one_of h0
    obtain ⟨a, ws, rfl, h1, h2⟩ := h.tup ext
    exact ⟨_, _, rfl, .inr h1, fun l hl => k l _ hl h2⟩
  · cases e
def tupC : List PyData → Option Out
  | [.list xs] => some (.t xs)
  | [.tuple xs] => some (.t xs)
  | _ => none
theorem tupC_ok : CallD K (fun xs H Q => ∃ p ys, xs = [.ref p] ∧ ((SqL K H p ys ∧ ∀ l, H l = none → Q (.ref l) (upd H l (.tup ys))) ∨ (SqT K H p ys ∧ Q (.ref p) H))) tupC := by
  intro G H vs xs o Q ext h0 e k
  unfold tupC at e
  split at e
  · cases e
    obtain ⟨v, rfl, h⟩ := one_of h0
    obtain ⟨a, ws, rfl, h1, h2⟩ := h
    exact ⟨_, _, rfl, .inl ⟨sql_of h1, fun l hl => k.1 l _ hl h2⟩⟩
  · cases e
    obtain ⟨v, rfl, h⟩ := one_of h0
    have h' := h
    obtain ⟨a, ws, rfl, h1, h2⟩ := h.tup ext
    exact ⟨_, _, rfl, .inr ⟨h1, k.2 _ h'⟩⟩
  · cases e
def bools : List PyData → Option (List Bool)
  | [] => some []
  | .bool b :: xs => (bools xs).map (b :: ·)
  | _ => none
theorem bools_map : ∀ bs : List Bool, bools (bs.map .bool) = some bs
  | [] => rfl
  | b :: bs => by
    show (bools (bs.map .bool)).map (b :: ·) = _
    rw [bools_map bs]; rfl
theorem bools_ok {G : Hp} : ∀ {ds : List PyData} {vs : List V} {bs : List Bool}, bools ds = some bs → RpA K G vs ds → vs = bs.map V.bl
  | [], _, _, e, h => by
    cases e; cases h; rfl
  | d :: ds, _, bs, e, h => by
    cases h with
    | cons h1 h2 =>
      cases d with
      | bool b =>
        unfold bools at e
        cases q : bools ds with
        | none => rw [q] at e; cases e
        | some cs =>
          rw [q] at e
          cases e
          cases h1
          rw [bools_ok q h2]
          rfl
      | _ => cases e
def allC (f : List Bool → Bool) : List PyData → Option Out
  | [.list xs] => (bools xs).map fun bs => .v (.bool (f bs))
  | _ => none
theorem allC_ok {f : List Bool → Bool} : CallD K (fun vs H Q => ∃ (a : Addr) (bs : List Bool), vs = [V.ref a] ∧ SqL K H a (bs.map V.bl) ∧ Q (.bl (f bs)) H) (allC f) := by
  intro G H vs xs o Q ext h0 e k
  unfold allC at e
  split at e
  · rename_i xs
    cases q : bools xs with
    | none => rw [q] at e; cases e
    | some bs =>
      rw [q] at e
      cases e
      obtain ⟨v, rfl, h⟩ := one_of h0
      obtain ⟨a, ws, rfl, h1, h2⟩ := h
      rw [bools_ok q h2] at h1
      exact ⟨a, bs, rfl, sql_of h1, k _ (.bl _)⟩
  · cases e
end

/-! ### sorted -/
def dLe (x y : PyData) : Bool := !PySem.W.dataLt y x
def SortOk (xs : List PyData) : Prop := PySem.W.AllAlike xs ∧ PySem.W.Sortable xs ∧ (∀ x ∈ xs, x.depth ≤ 64) ∧ xs.length ≤ sizeLine
open Classical in
noncomputable def sortC : List PyData → Option Out
  | [.list xs] => if SortOk xs then some (.n (xs.mergeSort dLe)) else none
  | [.tuple xs] => none
  | _ => none
def rSortD (K : PySem.W.Frag) : List V → Hp → VK → Prop := fun vs H Q => ∃ (a : Addr) (ps : List (V × PyData)), vs = [V.ref a] ∧ SqL K H a (ps.map (·.1)) ∧ (∀ p ∈ ps, Rp K H p.1 p.2) ∧ SortOk (ps.map (·.2)) ∧
  ∀ (qs : List (V × PyData)) (p : Addr), qs = ps.mergeSort (fun x y => dLe x.2 y.2) → H p = none → Q (.ref p) (upd H p (.lst (qs.map (·.1))))
theorem each_of {R : Value → V × PyData → Prop} : ∀ {ps : List (V × PyData)} {us : List Value}, Vals (ps.map (·.1)) us → (∀ p ∈ ps, ∀ u, RelV p.1 u → R u p) → PySem.W.EachIs R us ps
  | [], _, .nil, _ => .nil
  | p :: ps, _, .cons r t, h => .cons (h p (List.mem_cons_self ..) _ r) (each_of t fun q hq => h q (List.mem_cons_of_mem _ hq))
theorem of_each : ∀ {us : List Value} {ps : List (V × PyData)}, PySem.W.EachIs (fun u p => RelV p.1 u) us ps → Vals (ps.map (·.1)) us
  | _, _, .nil => .nil
  | _, _, .cons r t => .cons r (of_each t)
theorem cr_sortD {X : Cx} (hu : X.A.units + 80 < cLine) : CallR X (.builtin "sorted") (rSortD X.K) := by
  intro pins s σ H vs us Q I r h
  obtain ⟨a, ps, rfl, hs, hp, ⟨hal, hk, hd, hl⟩, q⟩ := h
  obtain ⟨its, rv, hL, hz⟩ := I.list hs
  rw [Vals.ref1 r]
  refine PySem.W.sorted_data (enc := fun p : V × PyData => p.2) hL.isList (each_of rv fun p _ u r => r) (each_of rv fun p hm u r => Dp.reads I _ _ _ (Rp.dp _ _ (hp p hm)) r) hal hk (by rw [List.length_map] at hl; exact hl) (fun b hb => ?_) fun out h1 h2 => ?_
  · have := hd b.2 (List.mem_map.mpr ⟨b, hb, rfl⟩)
    omega
  · obtain ⟨ep, he⟩ := PyProof.Rows.sortedAll_at s.heap its (List.toArray out)
    have rv2 := of_each h2
    have e0 : ps.mergeSort (PySem.W.dataLe false fun p : V × PyData => p.2) = ps.mergeSort (fun x y => dLe x.2 y.2) := rfl
    rw [e0] at rv2
    have hlen : ((ps.mergeSort (fun x y => dLe x.2 y.2)).map (·.1)).length ≤ sizeLine := by
      rw [List.length_map, List.length_mergeSort]
      rw [List.length_map] at hl
      exact hl
    exact ⟨.ref _, upd H (s.heap.objs.size + 1) (.lst ((ps.mergeSort (fun x y => dLe x.2 y.2)).map (·.1))), I.laid (t' := s.toks) (fun _ _ => PyProof.Rows.sortedAll_old) (Nat.le_succ _) ⟨hlen, (List.toArray out).toList, ep, rv2, he⟩, rfl, q _ _ rfl (I.hok.fresh (Nat.le_succ _))⟩
theorem pairs_of {K : PySem.W.Frag} {G : Hp} : ∀ {vs : List V} {ds : List PyData}, RpA K G vs ds → ∃ ps : List (V × PyData), ps.map (·.1) = vs ∧ ps.map (·.2) = ds ∧ ∀ p ∈ ps, Rp K G p.1 p.2
  | _, _, .nil => ⟨[], rfl, rfl, fun _ h => by cases h⟩
  | v :: vs, d :: ds, .cons r t => by
    obtain ⟨ps, h1, h2, h3⟩ := pairs_of t
    refine ⟨(v, d) :: ps, by rw [List.map_cons, h1], by rw [List.map_cons, h2], fun p hp => ?_⟩
    rcases List.mem_cons.mp hp with rfl | hp
    · exact r
    · exact h3 p hp
theorem rpa_of {K : PySem.W.Frag} {G : Hp} : ∀ {ps : List (V × PyData)}, (∀ p ∈ ps, Rp K G p.1 p.2) → RpA K G (ps.map (·.1)) (ps.map (·.2))
  | [], _ => .nil
  | p :: ps, h => .cons (h p (List.mem_cons_self ..)) (rpa_of fun q hq => h q (List.mem_cons_of_mem _ hq))
theorem sortC_ok {K : PySem.W.Frag} : CallD K (rSortD K) sortC := by
  intro G H vs xs o Q ext h0 e k
  unfold sortC at e
  split at e
  · split at e
    · rename_i xs hs
      cases e
      obtain ⟨v, rfl, h⟩ := one_of h0
      obtain ⟨a, ws, rfl, h1, h2⟩ := h
      obtain ⟨ps, e1, e2, h3⟩ := pairs_of h2
      refine ⟨a, ps, rfl, by rw [e1]; exact sql_of h1, fun p hp => Rp.mono ext _ _ (h3 p hp), by rw [e2]; exact hs, fun qs p eq hp => k p _ hp ?_⟩
      have m : (ps.mergeSort fun x y => dLe x.2 y.2).map (·.2) = xs.mergeSort dLe := by
        rw [← e2]
        exact List.map_mergeSort fun _ _ _ _ => rfl
      rw [← m, ← eq]
      refine rpa_of fun p hp => h3 p ?_
      rw [eq] at hp
      exact (List.mergeSort_perm _ _).mem_iff.mp hp
    · cases e
  · cases e
  · cases e

/-! ### isinstance -/
def tyN : PyData → String
  | .none => "NoneType"
  | .bool _ => "bool"
  | .int _ => "int"
  | .str _ => "str"
  | .list _ => "list"
  | .tuple _ => "tuple"
  | .dict _ => "dict"
inductive Ty where
  | int | bool | str | list | tuple
def Ty.n : Ty → String
  | .int => "int"
  | .bool => "bool"
  | .str => "str"
  | .list => "list"
  | .tuple => "tuple"
def isi : PyData → Ty → Bool
  | .bool _, .bool => true
  | .bool _, .int => true
  | .int _, .int => true
  | .str _, .str => true
  | .list _, .list => true
  | .tuple _, .tuple => true
  | _, _ => false
def tyAlls : List String := ["NoneType", "bool", "int", "str", "list", "tuple"]
theorem kit_all : ∀ T : Ty, kitB "NoneType" T.n = some false ∧ kitB "bool" T.n = some (isi (.bool true) T) ∧ kitB "int" T.n = some (isi (.int 0) T) ∧ kitB "str" T.n = some (isi (.str "") T) ∧ kitB "list" T.n = some (isi (.list []) T) ∧ kitB "tuple" T.n = some (isi (.tuple []) T) := by
  intro T
  cases T <;> decide +kernel
theorem kit_is {x : PyData} {T : Ty} (h : ∀ ds, x ≠ .dict ds) : kitB (tyN x) T.n = some (isi x T) := by
  obtain ⟨h1, h2, h3, h4, h5, h6⟩ := kit_all T
  cases x with
  | none => exact h1.trans (by cases T <;> rfl)
  | bool b => exact h2.trans (by cases T <;> rfl)
  | int i => exact h3.trans (by cases T <;> rfl)
  | str z => exact h4.trans (by cases T <;> rfl)
  | list xs => exact h5.trans (by cases T <;> rfl)
  | tuple xs => exact h6.trans (by cases T <;> rfl)
  | dict ds => exact absurd rfl (h ds)
theorem ty_of {K : PySem.W.Frag} {G H : Hp} {v : V} {x : PyData} (ext : Ex G H) (h : Vw K G H v x) : TyX K H v (.type (tyN x)) ∧ ∀ ds, x ≠ .dict ds := by
  cases x with
  | none => rw [vw_none h]; exact ⟨.base .non, fun _ z => nomatch z⟩
  | bool b => rw [vw_bool h]; exact ⟨.base (.bl b), fun _ z => nomatch z⟩
  | int i => rw [vw_int h]; exact ⟨.base (.int i), fun _ z => nomatch z⟩
  | str z => rw [vw_str h]; exact ⟨.base (.str z), fun _ z => nomatch z⟩
  | list xs =>
    obtain ⟨a, vs, rfl, h1, _⟩ := h
    exact ⟨.base (.lst h1), fun _ z => nomatch z⟩
  | tuple xs =>
    obtain ⟨a, vs, rfl, h1, _⟩ := h.tup ext
    refine ⟨?_, fun _ z => nomatch z⟩
    rcases h1 with (h1 | ⟨o, h1⟩) | ⟨o, _, _, e, c, _⟩
    · exact .base (.tup h1)
    · exact .fTuple h1
    · exact .kTuple e c
  | dict xs =>
    have h : Rp K G v (.dict xs) := h
    cases h
def wIsi (T : Ty) (wa : DTE) : DTE := fun ρ κ P => wa ρ κ fun r κ1 => Opt (val κ1 r.st) fun x => P (.d (.bool (isi x T))) κ1
def wIsi2 (T U : Ty) (wa : DTE) : DTE := fun ρ κ P => wa ρ κ fun r κ1 => Opt (val κ1 r.st) fun x => P (.d (.bool (isi x T || isi x U))) κ1
section
variable {X : Cx} {e : Expr} {wa : DTE} {p p2 p3 p4 pos : Pos} {tn un : Str} {kk : Nat}
theorem de_isi (T : Ty) (hm : X.mg "isinstance" = none) (ht : X.mg tn = none) (ha : DE X e wa) (htv : bootBuiltins tn = some (.type T.n) := by decide +kernel) (hg : Gl X "isinstance" := by rfl) (hgt : Gl X tn := by rfl) (hnt : tn ≠ "__name__" := by decide) (hdt : (tn == ("__debug__" : Str)) = false := by decide)
    (hs : starEach [e, .Name tn p2] X.env = (false, eval e X.env) :: starEach [.Name tn p2] X.env := by rfl) (hs2 : starEach [.Name tn p2] X.env = (false, eval (.Name tn p2) X.env) :: starEach [] X.env := by rfl) (hpl : (backTo pos (starEach [.Name tn p2] X.env)).any (·.1) = false := by rfl) :
    DE X (.Call (.Name "isinstance" p) [e, .Name tn p2] [] pos) (wIsi T wa) := by
  obtain ⟨t, pt, ha⟩ := ha
  refine ⟨_, pe_callB call_isi hg hm (by decide +kernel) (pa_cons pt (pa_cons (pe_bltn (v := .ty T.n) hgt ht htv rfl hnt hdt) pa_nil hs2) hs) (by decide) (by decide) hs hpl, fun G H As σ ρ κ P Q c pl w k => ?_⟩
  refine ha G H As σ ρ κ _ _ c pl w fun v r G1 H1 As1 κ1 s1 c1 p1 i1 w1 => ?_
  obtain ⟨G1', s1', c1', p1', i1', _⟩ := settle s1 c1 p1 i1
  obtain ⟨x, ex, w2⟩ := w1.ex
  obtain ⟨h1, h2⟩ := ty_of c1'.ext (i1'.vw c1' ex)
  exact ⟨v, .ty T.n, _, _, isi x T, rfl, .ty _, h1, kit_ty (kit_is h2), k _ (.d (.bool _)) G1' H1 As1 κ1 s1' c1' p1' (.bl _) w2⟩
theorem de_isi2 (T U : Ty) (hm : X.mg "isinstance" = none) (ht : X.mg tn = none) (hu : X.mg un = none) (ha : DE X e wa) (htv : bootBuiltins tn = some (.type T.n) := by decide +kernel) (huv : bootBuiltins un = some (.type U.n) := by decide +kernel) (hg : Gl X "isinstance" := by rfl) (hgt : Gl X tn := by rfl) (hgu : Gl X un := by rfl)
    (hnt : tn ≠ "__name__" := by decide) (hdt : (tn == ("__debug__" : Str)) = false := by decide) (hnu : un ≠ "__name__" := by decide) (hdu : (un == ("__debug__" : Str)) = false := by decide)
    (hs : starEach [e, .Tuple [.Name tn p2, .Name un p3] kk p4] X.env = (false, eval e X.env) :: starEach [.Tuple [.Name tn p2, .Name un p3] kk p4] X.env := by rfl) (hs2 : starEach [.Tuple [.Name tn p2, .Name un p3] kk p4] X.env = (false, eval (.Tuple [.Name tn p2, .Name un p3] kk p4) X.env) :: starEach [] X.env := by rfl)
    (hs3 : starEach [.Name tn p2, .Name un p3] X.env = (false, eval (.Name tn p2) X.env) :: starEach [.Name un p3] X.env := by rfl) (hs4 : starEach [.Name un p3] X.env = (false, eval (.Name un p3) X.env) :: starEach [] X.env := by rfl)
    (hpl : (backTo pos (starEach [.Tuple [.Name tn p2, .Name un p3] kk p4] X.env)).any (·.1) = false := by rfl) :
    DE X (.Call (.Name "isinstance" p) [e, .Tuple [.Name tn p2, .Name un p3] kk p4] [] pos) (wIsi2 T U wa) := by
  obtain ⟨t, pt, ha⟩ := ha
  refine ⟨_, pe_callB call_isiT hg hm (by decide +kernel) (pa_cons pt (pa_cons (pe_tup (pa_cons (pe_bltn (v := .ty T.n) hgt ht htv rfl hnt hdt) (pa_cons (pe_bltn (v := .ty U.n) hgu hu huv rfl hnu hdu) pa_nil hs4) hs3)) pa_nil hs2) hs) (by decide) (by decide) hs hpl, fun G H As σ ρ κ P Q c pl w k => ?_⟩
  refine ha G H As σ ρ κ _ _ c pl w fun v r G1 H1 As1 κ1 s1 c1 p1 i1 w1 => ?_
  obtain ⟨G1', s1', c1', p1', i1', _⟩ := settle s1 c1 p1 i1
  obtain ⟨x, ex, w2⟩ := w1.ex
  refine ⟨by show 2 ≤ sizeLine; decide, fun q hq => ?_⟩
  have e2 : Ex H1 (upd H1 q (.tup [.ty T.n, .ty U.n])) := Ex.new hq
  obtain ⟨h1, h2⟩ := ty_of (c1'.ext.trans e2) (show Vw X.K G1' (upd H1 q (.tup [.ty T.n, .ty U.n])) v x from by
    have vw := i1'.vw c1' ex
    cases x with
    | list xs =>
      obtain ⟨a, vs, rfl, h1, h2⟩ := vw
      exact ⟨a, vs, rfl, e2 _ _ h1, h2⟩
    | none => exact vw
    | bool _ => exact vw
    | int _ => exact vw
    | str _ => exact vw
    | tuple _ => exact vw
    | dict _ => exact vw)
  refine ⟨v, q, [.ty T.n, .ty U.n], _, [.type T.n, .type U.n], isi x T || isi x U, rfl, upd_same, .cons (.ty _) (.cons (.ty _) .nil), h1, ?_, ?_⟩
  · refine kitAny_cons (kit_ty (kit_is h2)) (fun e => ?_) (fun e => by rw [e]; rfl)
    rw [e, Bool.false_or]
    refine kitAny_cons (kit_ty (kit_is h2)) (fun e => ?_) (fun e => e)
    rw [e]; exact kitAny_nil
  · have st : Step G H As G1' (upd H1 q (.tup [.ty T.n, .ty U.n])) As1 := s1'.trans (Step.fresh hq)
    exact k _ (.d (.bool _)) G1' _ As1 κ1 st (c1'.fresh hq) p1' (.bl _) w2
end

/-! ### methods -/
def tyOk (T : String) : PyData → Prop
  | .str _ => T = "str"
  | .list _ => T = "list"
  | _ => False
def MtD (K : PySem.W.Frag) (r : V → List V → Hp → VK → Prop) (g : PyData → List PyData → Option Out) : Prop := ∀ (G H : Hp) (v : V) (vs : List V) (x : PyData) (xs : List PyData) (o : Out) (Q : VK), Ex G H → Vw K G H v x → Paired (Vw K G H) vs xs → g x xs = some o → OutK K G H Q o → r v vs H Q
def wBM (T : String) (g : PyData → List PyData → Option Out) (wo : DTE) (wa : DTA) : DTE := fun ρ κ P => wo ρ κ fun r κ1 => Opt (val κ1 r.st) fun x0 => tyOk T x0 ∧ wa ρ κ1 fun rs κ2 => Opt (val κ2 r.st) fun x => Opt (vals κ2 rs) fun xs => Opt (g x xs) fun o => P o.r κ2
theorem tyV_of {K : PySem.W.Frag} {G H : Hp} {v : V} {x : PyData} {T : String} (h : Vw K G H v x) (t : tyOk T x) : tyV K T v H := by
  cases x with
  | str z => rw [vw_str h]; exact t
  | list xs =>
    obtain ⟨a, vs, rfl, h1, _⟩ := h
    exact .inl ⟨t, vs, sql_of h1⟩
  | _ => exact t.elim
section
variable {X : Cx} {o e : Expr} {es : List Expr} {wo : DTE} {wr : DTA} {apos cpos : Pos} {T id : String} {name : Str}
theorem de_bm {r : V → List V → Hp → VK → Prop} {g : PyData → List PyData → Option Out} (pa : PlainAttrs T) (slot : Slot T name id) (hty : typeOf (.builtin id) = pure (.type "method_descriptor")) (hm : MtR X id r) (hg : MtD X.K r g) (ho : DE X o wo) (ha : DA X (e :: es) wr)
    (hbase : attributeBase o name X.env (eval o X.env) = eval o X.env := by rfl)
    (hfew : ((backTo cpos (starEach (e :: es) X.env)).all (fun x => !x.1) && (backToKw cpos (keywordEach [] X.env)).all (fun x => x.1.isSome) && decide ((e :: es).length + ([] : List Keyword).length + (if ([] : List Keyword).isEmpty then 0 else 1) < 30)) = true := by rfl)
    (hline : (apos.endLine == cpos.line) = true := by rfl) (hs : starEach (e :: es) X.env = (false, eval e X.env) :: starEach es X.env := by rfl) (hplain : (backTo cpos (starEach es X.env)).any (·.1) = false := by rfl) :
    DE X (.Call (.Attribute o name apos) (e :: es) [] cpos) (wBM T g wo wr) := by
  obtain ⟨to, po, ho⟩ := ho
  obtain ⟨t, pt, ha⟩ := ha
  refine ⟨_, pe_bm pa slot hty hm po pt hbase hfew hline hs hplain, fun G H As σ ρ κ P Q c p w k => ?_⟩
  refine ho G H As σ ρ κ _ _ c p w fun v1 r1 G1 H1 As1 κ1 s1 c1 p1 i1 w1 => ?_
  obtain ⟨G1', s1', c1', p1', i1', _⟩ := settle s1 c1 p1 i1
  obtain ⟨x0, ex0, tok, w1⟩ := w1.ex
  refine ⟨tyV_of (i1'.vw c1' ex0) tok, ?_⟩
  refine ha G1' H1 As1 σ ρ κ1 _ _ c1' p1' w1 fun vs rs G2 H2 As2 κ2 s2 c2 p2 i2 _ w2 => ?_
  obtain ⟨x, ex, w2⟩ := w2.ex
  obtain ⟨xs, exs, w2⟩ := w2.ex
  obtain ⟨oo, eo, w2⟩ := w2.ex
  exact hg G2 H2 v1 vs x xs oo Q c2.ext ((s2.it i1').vw c2 ex) (vals_ok c2 i2 exs) eo (out_ok (s1'.trans s2) c2 p2 oo w2 k)
end
def strL : List PyData → Option (List Str)
  | [] => some []
  | .str z :: xs => (strL xs).map (z :: ·)
  | _ => none
theorem strs_map : ∀ zs : List Str, strL (zs.map .str) = some zs
  | [] => rfl
  | z :: zs => by
    show (strL (zs.map .str)).map (z :: ·) = _
    rw [strs_map zs]; rfl
theorem strs_ok {K : PySem.W.Frag} {G : Hp} : ∀ {ds : List PyData} {vs : List V} {bs : List Str}, strL ds = some bs → RpA K G vs ds → vs = bs.map V.str
  | [], _, _, e, h => by
    cases e; cases h; rfl
  | d :: ds, _, bs, e, h => by
    cases h with
    | cons h1 h2 =>
      cases d with
      | str b =>
        unfold strL at e
        cases q : strL ds with
        | none => rw [q] at e; cases e
        | some cs =>
          rw [q] at e
          cases e
          cases h1
          rw [strs_ok q h2]
          rfl
      | _ => cases e
def joinC : PyData → List PyData → Option Out
  | .str a, [.list xs] => match strL xs with
    | some ys => if (ys.map (·.length)).sum + ys.length * a.length ≤ 16777216 then some (.v (.str (Txt.join a ys))) else none
    | none => none
  | .str a, [.tuple xs] => match strL xs with
    | some ys => if (ys.map (·.length)).sum + ys.length * a.length ≤ 16777216 then some (.v (.str (Txt.join a ys))) else none
    | none => none
  | _, _ => none
theorem joinC_ok {K : PySem.W.Frag} : MtD K (fun x xs H Q => ∃ a p, ∃ ys : List Str, x = .str a ∧ xs = [.ref p] ∧ (SqL K H p (ys.map V.str) ∨ SqT K H p (ys.map V.str)) ∧ (ys.map (·.length)).sum + ys.length * a.length ≤ 16777216 ∧ Q (.str (Txt.join a ys)) H) joinC := by
  intro G H v vs x xs o Q ext hx h0 e k
  unfold joinC at e
  split at e
  · split at e
    · rename_i ys q
      split at e
      · cases e
        obtain ⟨u, rfl, h⟩ := one_of h0
        obtain ⟨a, ws, rfl, h1, h2⟩ := h
        rw [strs_ok q h2] at h1
        exact ⟨_, a, ys, vw_str hx, rfl, .inl (sql_of h1), by assumption, k _ (.str _)⟩
      · cases e
    · cases e
  · split at e
    · rename_i ys q
      split at e
      · cases e
        obtain ⟨u, rfl, h⟩ := one_of h0
        obtain ⟨a, ws, rfl, h1, h2⟩ := h.tup ext
        rw [strs_ok q h2] at h1
        exact ⟨_, a, ys, vw_str hx, rfl, .inr h1, by assumption, k _ (.str _)⟩
      · cases e
    · cases e
  · cases e

/-! ### the script -/
section
variable {X : Cx} {a b e : Expr} {wa wb : DTE} {p pos : Pos}
theorem de_scr (ha : DE X a wa) (hb : DE X b wb) (hs : PlainIx b) : DE X (.Subscript a b pos) (wScr wa wb) := by
  obtain ⟨ta, pa, ha⟩ := ha
  obtain ⟨tb, pb, hb⟩ := hb
  refine ⟨_, pe_ix ix_list pa pb hs, fun G H As σ ρ κ P Q c p w k => ?_⟩
  refine ha G H As σ ρ κ _ _ c p w fun v1 r1 G1 H1 As1 κ1 s1 c1 p1 i1 w1 => ?_
  cases r1 with
  | s ns =>
    refine hb G1 H1 As1 σ ρ κ1 _ _ c1 p1 w1 fun v2 r2 G2 H2 As2 κ2 s2 c2 p2 i2 w2 => ?_
    have i1' : It X.K G1 As1 v1 (.s ns) := i1
    obtain ⟨l, rfl, hl⟩ := s2.it i1'
    cases r2 with
    | d y =>
      cases y with
      | int i =>
        obtain ⟨n, en, w3⟩ := w2.ex
        have i2 : Rp X.K G2 v2 (.int i) := i2
        cases i2
        refine ⟨l, _, i, .int n, rfl, rfl, ex_sl c2.ext hl, ?_, k _ (.d (.int n)) G2 H2 As2 κ2 (s1.trans s2) c2 p2 (.int _) w3⟩
        unfold atI at en ⊢
        rw [List.length_map]
        cases q : ixN ns.length i with
        | none => rw [q] at en; cases en
        | some j =>
          rw [q] at en
          show (ns.map V.int)[j]? = some (V.int n)
          rw [List.getElem?_map, show ns[j]? = some n from en]
          rfl
      | _ => exact w2.elim
    | _ => exact w2.elim
  | _ => exact w1.elim
/-- len(script) -/
def wLenS (wa : DTE) : DTE := fun ρ κ P => wa ρ κ fun r κ1 => match r with
  | .s ns => P (.d (.int ns.length)) κ1
  | _ => False
theorem de_lenS (hm : X.mg "len" = none) (ha : DE X e wa) (hg : Gl X "len" := by rfl) (hs : starEach [e] X.env = (false, eval e X.env) :: starEach [] X.env := by rfl) (hpl : (backTo pos (starEach [] X.env)).any (·.1) = false := by rfl) : DE X (.Call (.Name "len" p) [e] [] pos) (wLenS wa) := by
  obtain ⟨t, pt, ha⟩ := ha
  refine ⟨_, pe_callB call_len_seq hg hm (by decide +kernel) (pa_cons pt pa_nil hs) (by decide) (by decide) hs hpl, fun G H As σ ρ κ P Q c p w k => ?_⟩
  refine ha G H As σ ρ κ _ _ c p w fun v1 r1 G1 H1 As1 κ1 s1 c1 p1 i1 w1 => ?_
  cases r1 with
  | s ns =>
    obtain ⟨l, rfl, hl⟩ := i1
    refine ⟨l, _, rfl, .inl (ex_sl c1.ext hl), ?_⟩
    rw [List.length_map]
    exact k _ (.d (.int ns.length)) G1 H1 As1 κ1 s1 c1 p1 (.int _) w1
  | _ => exact w1.elim
end
end DL
/-! DLg: a star among targets. -/
namespace DL
open PySem PySem.Spec PyProof.Rows L2
section
variable {prog : Program} {w : World} {A : Around} {E : Value → Shared → Prop} {s : Shared}
/-- what a star takes of a tuple: the items ahead, a new list, the items behind -/
theorem star_tup {l : Addr} {items : Array Value} {n i : Nat} {Q : List Value → Shared → Prop} (hl : IsTup s.heap l items) (hh : A.handled = none) (hi : i < n) (hn : n ≤ items.size + 1) (hz : items.size ≤ 16384)
    (h : ∀ (h' : Heap) (tk : Nat), (∀ b o, s.heap.get? b = some o → h'.get? b = some o) → Q (items.toList.take i ++ [.ref h'.objs.size] ++ (items.toList.drop i).drop (items.size + 1 - n)) { s with heap := h'.push { cls := .type "list", data := .seq ((items.toList.drop i).take (items.size + 1 - n)).toArray }, toks := tk }) :
    wpAny (model prog w) A (unpackItems (.ref l) n (some i)) Q E s := by
  have ne : l ≠ s.heap.objs.size := by obtain ⟨o, ho, _⟩ := hl; exact Nat.ne_of_lt (Heap.lt_size ho)
  unfold unpackItems
  refine wpAny_bind ?_
  unfold notIterableAtAll
  refine wpAny_bind (wpAny_specialOf hl.typeIs slot_tuple_iter.lookup (wpAny_pure ?_))
  simp only [Bool.false_eq_true, if_false]
  refine wpAny_bind (wpAny_holding (iter_tuple hl ?_))
  refine wpAny_bind (wpAny_holding (draw_tuple ne i 0 _ _ ⟨_, Heap.get?_push_size _ rfl, rfl, rfl⟩ (hl.push _) (by omega) fun h1 it1 st1 => ?_))
  have hl1 : IsTup h1 l items := (hl.push _).extBut st1.extBut ne
  rw [Nat.zero_add] at it1
  obtain ⟨oi, hoi, _⟩ := id it1
  obtain ⟨ol, hol, _⟩ := id hl1
  rw [List.drop_zero]
  have e1 : (items.toList.take i).length = i := by rw [List.length_take, Array.length_toList]; omega
  rw [if_neg (by rw [e1]; omega)]
  refine wpAny_bind (wpAny_holding (PySem.W.kun_collect (s := { s with heap := h1 }) (T := "tuple_iterator") (.inr (.inr (.inr rfl))) (Walks.tuple (A := A.in1) hh s.heap.objs.size l ne items) (fun j u st => st.1.typeIs) (k := i) (by omega) ⟨it1, hl1⟩ (Heap.lt_size hoi) (Heap.lt_size hol) (fun h2 tk hk => ?_) (by rw [sizeLine_eq]; omega)))
  have e2 : (items.toList.drop i).length = items.size - i := by rw [List.length_drop, Array.length_toList]
  have e3 : (items.toList.drop i).length - (n - 1 - i) = items.size + 1 - n := by rw [e2]; omega
  show wpAny _ _ (if (items.toList.drop i).length < n - 1 - i then _ else _) _ _ _
  rw [if_neg (by rw [e2]; omega)]
  show wpAny _ _ (newList ((items.toList.drop i).take ((items.toList.drop i).length - (n - 1 - i))) >>= fun d => pure (items.toList.take i ++ [d] ++ (items.toList.drop i).drop ((items.toList.drop i).length - (n - 1 - i)))) _ _ _
  rw [e3]
  refine wpAny_bind (wpAny_newList (wpAny_pure ?_) ?_)
  · exact h h2 tk fun b o e => hk b o (Nat.ne_of_lt (Heap.lt_size e)) (st1.extBut b o (Nat.ne_of_lt (Heap.lt_size e)) (Heap.get?_push_of_some _ e))
  · rw [List.length_take, e2, sizeLine_eq]; omega
end
section
variable {X : Cx} {pos spos : Pos} {e : Expr} {es : List Expr} {js is : List Nat} {wg : DTG} {gs : List PyData → Rho → Kap → (Rho → Kap → Prop) → Prop}
/-- (a, .., *b, .., c) = a tuple; the star at i -/
def gStar (K : PySem.W.Frag) (n i : Nat) (t : TGs) : TG := fun v σ H Q => ∃ a xs, v = .ref a ∧ SqT K H a xs ∧ i < n ∧ n ≤ xs.length + 1 ∧ xs.length ≤ 16384 ∧ ∀ D, H D = none → t (xs.take i ++ [.ref D] ++ (xs.drop i).drop (xs.length + 1 - n)) σ (upd H D (.lst ((xs.drop i).take (xs.length + 1 - n)))) Q
theorem pg_star {k n i : Nat} {t : TGs} (hc : X.calm = true) (h : PGs X es t) (hn : (assignEach es X.env).length = n := by rfl) (hst : (assignEach es X.env).findIdx? (·.1) = some i := by rfl) : PG X (.Tuple es k pos) (gStar X.K n i t) := by
  refine ⟨fun pins s σ H v u Q I r hw => ?_⟩
  obtain ⟨a, xs, e1, hq, hi, hl, hz, hw⟩ := hw
  subst e1
  cases r
  obtain ⟨its, rv, ht, _⟩ := I.tuple hq
  have el : its.toArray.size = xs.length := by rw [List.size_toArray]; exact rv.length.symm
  rw [PyProof.Rows.assign_Tuple]
  refine wpAny_bind (wpAny_standAt ?_)
  unfold unpack
  rw [hn, hst]
  refine wpAny_bind (wpAny_holding (star_tup ht (I.ok.hd hc) hi (by rw [el]; exact hl) (by rw [el]; exact hz) fun h' tk hk => ?_))
  have I1 : Inv X pins σ H { s with heap := h' } := I.kept (t' := s.toks) hk
  have hf : H h'.objs.size = none := I1.hok.fresh (Nat.le_refl _)
  rw [el]
  have rm : Vals ((xs.drop i).take (xs.length + 1 - n)) ((its.toArray.toList.drop i).take (xs.length + 1 - n)) := by
    simpa using (rv.drop i).take (xs.length + 1 - n)
  have I2 : Inv X pins σ (upd H h'.objs.size (.lst ((xs.drop i).take (xs.length + 1 - n)))) { s with heap := h'.push { cls := .type "list", data := .seq ((its.toArray.toList.drop i).take (xs.length + 1 - n)).toArray }, toks := tk } := by
    refine I1.laid (t' := tk) (fun b o e => Heap.get?_push_of_some _ e) (Nat.le_refl _) ⟨?_, _, 0, rm, Heap.get?_push_size _ rfl⟩
    rw [List.length_take, List.length_drop, sizeLine_eq]; omega
  refine h.run pins _ σ _ _ _ Q I2 ?_ (hw _ hf)
  have r1 : Vals (xs.take i) (its.toArray.toList.take i) := by simpa using rv.take i
  have r3 : Vals ((xs.drop i).drop (xs.length + 1 - n)) ((its.toArray.toList.drop i).drop (xs.length + 1 - n)) := by simpa using (rv.drop i).drop (xs.length + 1 - n)
  have r2 : Vals [V.ref h'.objs.size] [Value.ref h'.objs.size] := .cons (show RelV (V.ref h'.objs.size) (Value.ref h'.objs.size) from rfl) .nil
  exact (r1.append r2).append r3
theorem pgs_star {t : TG} {u : TGs} (h1 : PG X e t) (h2 : PGs X es u) (hs : (assignEach (.Starred e spos :: es) X.env).map (·.2) = assign e X.env :: (assignEach es X.env).map (·.2) := by rfl) : PGs X (.Starred e spos :: es) (gCons t u) := by
  refine ⟨fun pins s σ H vs us Q I r h => ?_⟩
  obtain ⟨v, vr, e1, h⟩ := h
  subst e1
  cases r with
  | cons r rr =>
    rw [hs]
    refine assignInOrder_cons (thn (h1.run pins s σ H _ _ _ I r h) fun _ s1 ⟨σ1, H1, I1, q1⟩ => ?_)
    exact h2.run pins s1 σ1 H1 _ _ Q I1 rr q1
def wStar (n i : Nat) (gs : List PyData → Rho → Kap → (Rho → Kap → Prop) → Prop) : DTG := fun r ρ κ P => match r with
  | .d (.tuple xs) => i < n ∧ n ≤ xs.length + 1 ∧ xs.length ≤ 16384 ∧ gs (xs.take i ++ [.list ((xs.drop i).take (xs.length + 1 - n))] ++ (xs.drop i).drop (xs.length + 1 - n)) ρ κ P
  | _ => False
theorem dgs_star (h1 : DG X e js wg) (h2 : DGs X es is gs) (hs : (assignEach (.Starred e spos :: es) X.env).map (·.2) = assign e X.env :: (assignEach es X.env).map (·.2) := by rfl) : DGs X (.Starred e spos :: es) (js ++ is) (wgCons wg gs) := by
  obtain ⟨g, pg, h1⟩ := h1
  obtain ⟨u, pu, h2⟩ := h2
  refine ⟨_, pgs_star pg pu hs, fun G H As σ ρ κ vs xs P Q c p h w k => ?_⟩
  cases h with
  | nil => exact w.elim
  | cons r1 r2 =>
    refine ⟨_, _, rfl, ?_⟩
    refine h1 G H As σ ρ κ _ (.d _) _ _ c p r1 w fun σ1 ρ1 G1 H1 As1 κ1 a1 s1 c1 p1 w1 => ?_
    refine h2 G1 H1 As1 σ1 ρ1 κ1 _ _ _ _ c1 p1 (RpA.mono s1.ex _ _ r2) w1 fun σ2 ρ2 G2 H2 As2 κ2 a2 s2 c2 p2 w2 => ?_
    exact k σ2 ρ2 G2 H2 As2 κ2 (a1.trans a2) (s1.trans s2) c2 p2 w2
theorem dg_star {k n i : Nat} (hc : X.calm = true) (h : DGs X es js gs) (hn : (assignEach es X.env).length = n := by rfl) (hst : (assignEach es X.env).findIdx? (·.1) = some i := by rfl) : DG X (.Tuple es k pos) js (wStar n i gs) := by
  obtain ⟨g, pg, h⟩ := h
  refine ⟨_, pg_star hc pg hn hst, fun G H As σ ρ κ v r P Q c p i0 w k => ?_⟩
  unfold wStar at w
  split at w
  · rename_i xs
    obtain ⟨h1, h2, h3, w⟩ := w
    have i0 : Rp X.K G v (.tuple xs) := i0
    cases i0 with
    | tup q1 q2 =>
      have el := q2.len
      rename_i vs
      refine ⟨_, vs, rfl, ex_st c.ext q1, h1, by rw [el]; exact h2, by rw [el]; exact h3, fun D hD => ?_⟩
      rw [el]
      have st : Step G H As (upd G D (.lst ((vs.drop i).take (xs.length + 1 - n)))) (upd H D (.lst ((vs.drop i).take (xs.length + 1 - n)))) As := Step.laid c.ext hD
      have eG := st.ex
      refine h _ _ As σ ρ κ _ _ P Q (c.laid hD) (p.step st) ?_ w fun σ2 ρ2 G2 H2 As2 κ2 a2 s2 => k σ2 ρ2 G2 H2 As2 κ2 a2 (st.trans s2)
      have m := (q2.drop i).take (xs.length + 1 - n)
      exact ((RpA.mono eG _ _ (q2.take i)).app (.cons (.lst upd_same (RpA.mono eG _ _ m)) .nil)).app (RpA.mono eG _ _ ((q2.drop i).drop (xs.length + 1 - n)))
  · exact w.elim
end
end DL
/-! DLh: further statements over plain data. -/
namespace DL
open PySem PySem.Spec PyProof.Rows L2
section
variable {X : Cx} {pos : Pos} {e a b : Expr} {wr : DTA} {we : DTE}
/-- a, b = e1, e2 by a tuple (a name is a cell) -/
theorem ds_tt (i j : Nat) {x y : Str} {px py pt : Pos} {kt k2 : Nat} {pt2 : Pos} (hc : X.calm = true) (hN : X.N.Nodup) (ha : DA X [a, b] wr) (hi : X.N[i]? = some x := by rfl) (hj : X.N[j]? = some y := by rfl)
    (hx : Loc X.env.scope x := by first | exact Or.inl rfl | exact Or.inr rfl) (hy : Loc X.env.scope y := by first | exact Or.inl rfl | exact Or.inr rfl)
    (hf : X.fn x = true ∨ X.env.scope.names.lookup x = some .local := by first | exact .inl rfl | exact .inr rfl) (hf' : X.fn y = true ∨ X.env.scope.names.lookup y = some .local := by first | exact .inl rfl | exact .inr rfl)
    (hs : swapsWithSole [.Tuple [.Name x px, .Name y py] kt pt] (.Tuple [a, b] k2 pt2) pos.line X.env = pure false := by rfl) (hw : swappedStores [.Tuple [.Name x px, .Name y py] kt pt] (.Tuple [a, b] k2 pt2) X.env = pure none := by rfl) :
    DS X (.Assign [.Tuple [.Name x px, .Name y py] kt pt] (.Tuple [a, b] k2 pt2) pos) (wPar i j wr) := by
  obtain ⟨t, ptt, ha⟩ := ha
  refine ⟨_, ps_asg (pe_tup ptt) (pg_tup (n := 2) hc (pgs_cons (pg_name hN hi hx hf) (pgs_cons (pg_name hN hj hy hf') pgs_nil))) hs hw, fun G H As σ ρ κ E D c p w r => ?_⟩
  refine ha G H As σ ρ κ _ _ c p w fun vs rs G1 H1 As1 κ1 s1 c1 p1 i1 l1 w1 => ?_
  match rs, vs, i1, w1 with
  | [q1, q2], _, .cons (a := v1) h1 (.cons (a := v2) h2 .nil), w1 =>
    refine ⟨by show 2 ≤ sizeLine; decide, fun q hq => ?_⟩
    refine ⟨q, [v1, v2], rfl, sqt_of upd_same, rfl, v1, [v2], rfl, v2, [], rfl, rfl, ?_⟩
    have st : Step G1 H1 As1 G1 (upd H1 q (.tup [v1, v2])) As1 := Step.fresh hq
    exact r.nx _ _ G1 _ As1 κ1 (s1.trans st) (c1.fresh hq) ((p1.put i h1).put j h2) w1
  | [], _, _, w1 => exact w1.elim
  | [_], _, _, w1 => exact w1.elim
  | _ :: _ :: _ :: _, _, _, w1 => exact w1.elim
/-- x op= e, ints -/
def wAug (i : Nat) (f : Int → Int → Int) (we : DTE) : DTS := fun E ρ κ => match ρ[i]? with
  | some (some (.d (.int a))) => we ρ κ fun r κ1 => match r with
    | .d (.int b) => E.nx (ρ.set i (some (.d (.int (f a b))))) κ1
    | _ => False
  | _ => False
theorem ds_aug (i : Nat) {x : Str} {op : Operator} {f : Int → Int → Int} {pos' : Pos} (hN : X.N.Nodup) (ho : PIp X op (ipI f)) (he : DE X e we) (hi : X.N[i]? = some x := by rfl) (hx : Loc X.env.scope x := by first | exact Or.inl rfl | exact Or.inr rfl)
    (hf : X.fn x = true ∨ X.env.scope.names.lookup x = some .local := by first | exact .inl rfl | exact .inr rfl) : DS X (.AugAssign (.Name x pos') op e pos) (wAug i f we) := by
  obtain ⟨t, pt, he⟩ := he
  refine ⟨_, ps_aug hN hi hx pt ho hf, fun G H As σ ρ κ E D c p w r => ?_⟩
  unfold wAug at w
  split at w
  · rename_i a ha
    obtain ⟨v, h1, h2⟩ := p.ok i _ ha
    have h2 : Rp X.K G v (.int a) := h2
    cases h2
    refine ⟨_, h1, ?_⟩
    refine he G H As σ ρ κ _ _ c p w fun v q G1 H1 As1 κ1 s1 c1 p1 i1 w1 => ?_
    cases q with
    | d y =>
      cases y with
      | int b =>
        have i1 : Rp X.K G1 v (.int b) := i1
        cases i1
        exact ⟨a, b, rfl, rfl, r.nx _ _ G1 H1 As1 κ1 s1 c1 (p1.put i (r := .d (.int (f a b))) (.int _)) w1⟩
      | _ => exact w1.elim
    | _ => exact w1.elim
  · exact w.elim
/-- a module's constant -/
theorem de_glob {x : Str} {v : V} {u : Value} {d : PyData} {pos : Pos} (hm : X.mg x = some u) (r : RelV v u) (hx : ∀ G : Hp, Rp X.K G v d) (hg : Gl X x := by rfl) (hd : (x == ("__debug__" : Str)) = false := by decide) : DE X (.Name x pos) (wC d) := de_c (pe_glob hg hm r hd) hx
theorem de_globI {x : Str} {i : Int} {t : Tok} {pos : Pos} (hm : X.mg x = some (.int i t)) (hg : Gl X x := by rfl) (hd : (x == ("__debug__" : Str)) = false := by decide) : DE X (.Name x pos) (wC (.int i)) := de_glob (v := .int i) hm ⟨t, rfl⟩ (fun _ => .int i) hg hd
theorem de_globS {x z : Str} {t : Tok} {pos : Pos} (hm : X.mg x = some (.str z t)) (hg : Gl X x := by rfl) (hd : (x == ("__debug__" : Str)) = false := by decide) : DE X (.Name x pos) (wC (.str z)) := de_glob (v := .str z) hm ⟨t, rfl⟩ (fun _ => .str z) hg hd
end
theorem room65 {k : Nat} {A : Around} (r : Room k A) : A.units + 65 < cLine := by have := r.un; omega
theorem room80 {k : Nat} {A : Around} (r : Room k A) : A.units + 80 < cLine := by have := r.un; omega
end DL
/-! DLi: a text's own defs called by place and by name, xs[::-1]. -/
namespace DL
open PySem PySem.Spec PyProof.Rows L2
/-- a def of the text that may be called by its name -/
structure Cal (P : Program) (w : World) (K : PySem.W.Frag) (mg : Str → Option Value) (base : Heap) (x : Str) (k : Nat) (ps : List Str) (sp : Sp) : Prop where
  ex : ∃ (f : Addr) (fd : FuncData), FnOk P w K mg base CX0 k f fd ps sp ∧ mg x = some (.ref f) ∧ PySem.W.keepIn K (.ref f) = true ∧ Binds K fd ps []
theorem Cal.mono {P : Program} {w : World} {K : PySem.W.Frag} {mg : Str → Option Value} {base : Heap} {x : Str} {k j : Nat} {ps : List Str} {sp : Sp} (C : Cal P w K mg base x j ps sp) (h : j ≤ k) : Cal P w K mg base x k ps sp := by
  obtain ⟨f, fd, F, a, b, c⟩ := C.ex
  exact ⟨f, fd, F.mono h, a, b, c⟩
/-- what a list has at these places -/
def pick {α : Type} (p : List Nat) (xs : List α) : List α := p.filterMap fun i => xs[i]?
structure CalK (P : Program) (w : World) (K : PySem.W.Frag) (mg : Str → Option Value) (base : Heap) (x : Str) (k : Nat) (ps : List Str) (n : Nat) (ks : List Str) (p : List Nat) (sp : Sp) : Prop where
  ex : ∃ (f : Addr) (fd : FuncData), FnOk P w K mg base CX0 k f fd ps sp ∧ mg x = some (.ref f) ∧ PySem.W.keepIn K (.ref f) = true ∧ KBn K fd ps n ks (fun us ws => pick p (us ++ ws)) (fun us ws => pick p (us ++ ws))
theorem CalK.mono {P : Program} {w : World} {K : PySem.W.Frag} {mg : Str → Option Value} {base : Heap} {x : Str} {k j : Nat} {ps : List Str} {n : Nat} {ks : List Str} {p : List Nat} {sp : Sp} (C : CalK P w K mg base x j ps n ks p sp) (h : j ≤ k) : CalK P w K mg base x k ps n ks p sp := by
  obtain ⟨f, fd, F, a, b, c⟩ := C.ex
  exact ⟨f, fd, F.mono h, a, b, c⟩
theorem Paired.pick {α β : Type} {R : α → β → Prop} {xs : List α} {ys : List β} (h : Paired R xs ys) : ∀ p : List Nat, Paired R (DL.pick p xs) (DL.pick p ys)
  | [] => .nil
  | i :: p => by
    have ih := Paired.pick h p
    have get : ∀ {xs : List α} {ys : List β} (i : Nat), Paired R xs ys → (xs[i]? = none ∧ ys[i]? = none) ∨ ∃ x y, xs[i]? = some x ∧ ys[i]? = some y ∧ R x y := fun {xs} => by
      induction xs with
      | nil => intro ys i h; cases h; exact .inl ⟨rfl, rfl⟩
      | cons x xs ih =>
        intro ys i h
        cases h with
        | cons r t =>
          cases i with
          | zero => exact .inr ⟨_, _, rfl, rfl, r⟩
          | succ i => simpa using ih i t
    unfold DL.pick at ih ⊢
    rcases get i h with ⟨e1, e2⟩ | ⟨x, y, e1, e2, r⟩
    · rw [List.filterMap_cons_none e1, List.filterMap_cons_none e2]; exact ih
    · rw [List.filterMap_cons_some e1, List.filterMap_cons_some e2]; exact .cons r ih
theorem Paired.app {α β : Type} {R : α → β → Prop} : ∀ {xs xs' : List α} {ys ys' : List β}, Paired R xs ys → Paired R xs' ys' → Paired R (xs ++ xs') (ys ++ ys')
  | _, _, _, _, .nil, q => q
  | _, _, _, _, .cons r t, q => .cons r (Paired.app t q)
theorem Fun.kbn {K : PySem.W.Frag} {x qual : Str} {st : Stmt} {f : Addr} {fd : FuncData} {ps : List Str} (F : Fun K x qual st f fd) (n : Nat) (ks : List Str) (p : List Nat)
    (h : ∀ (kV doc pm : Value) (an : Option Addr) (cdv ct : Value) (us ws : List Value), us.length = n → ws.length = ks.length → bindArgs (PySem.W.fnOf x qual (defArgs st) (defBody st) (defScope st) .none kV doc pm an cdv ct) ⟨us, ks.zip ws⟩ = pure (ps.zip (pick p (us ++ ws)))) :
    KBn K fd ps n ks (fun us ws => pick p (us ++ ws)) (fun us ws => pick p (us ++ ws)) := by
  obtain ⟨oc, od, kV, doc, pm, an, cdv, ct, osl, rfl, lk, hcd⟩ := F.ex
  exact ⟨fun s us ws _ h1 h2 => .of_eq (h kV doc pm an cdv ct us ws h1 h2), fun r1 r2 => Paired.pick (r1.append r2) p⟩
/-- names of built-ins that the text leaves as they are -/
structure Bi (mg : Str → Option Value) : Prop where
  len_ : mg "len" = none
  range_ : mg "range" = none
  zip_ : mg "zip" = none
  enumerate_ : mg "enumerate" = none
  reversed_ : mg "reversed" = none
  sorted_ : mg "sorted" = none
  list_ : mg "list" = none
  tuple_ : mg "tuple" = none
  int_ : mg "int" = none
  abs_ : mg "abs" = none
  min_ : mg "min" = none
  max_ : mg "max" = none
  all_ : mg "all" = none
  any_ : mg "any" = none
  isinstance_ : mg "isinstance" = none
  set_ : mg "set" = none
  dict_ : mg "dict" = none
  str_ : mg "str" = none
  repr_ : mg "repr" = none
  sum_ : mg "sum" = none
  bool_ : mg "bool" = none
section
variable {X : Cx} {k j n : Nat} {ps : List Str} {x : Str} {p pos : Pos} {e : Expr} {es : List Expr} {wr : DTA}
theorem de_callC {Φ : List R → (R → Prop) → Prop} (C : Cal X.prog X.w X.K X.mg X.base x k ps (spD X.K n Φ)) (hr : Room k X.A) (hn : n = (e :: es).length) (ha : DA X (e :: es) wr) (hg : Gl X x := by rfl) (hdb : (x == ("__debug__" : Str)) = false := by decide)
    (he : starEach (e :: es) X.env = (false, eval e X.env) :: starEach es X.env := by rfl) (hpl : (backTo pos (starEach es X.env)).any (·.1) = false := by rfl) : DE X (.Call (.Name x p) (e :: es) [] pos) (wCall Φ wr) := by
  obtain ⟨f, fd, F, hm, hk, hb⟩ := C.ex
  exact de_call F hr hm hk hb pass0 hn ha hg hdb he hpl
theorem de_callC_L {Φ : List PyData → List R → (R → List PyData → Prop) → Prop} (C : Cal X.prog X.w X.K X.mg X.base x k ps (spL X.K n Φ)) (hr : Room k X.A) (hn : n = (e :: es).length) (ha : DA X (e :: es) wr) (hg : Gl X x := by rfl) (hdb : (x == ("__debug__" : Str)) = false := by decide)
    (he : starEach (e :: es) X.env = (false, eval e X.env) :: starEach es X.env := by rfl) (hpl : (backTo pos (starEach es X.env)).any (·.1) = false := by rfl) : DE X (.Call (.Name x p) (e :: es) [] pos) (wCallL Φ wr) := by
  obtain ⟨f, fd, F, hm, hk, hb⟩ := C.ex
  exact de_callL F hr hm hk hb pass0 hn ha hg hdb he hpl

/-! ### by names -/
def DK (X : Cx) (kws : List Keyword) (w : DTA) : Prop := ∃ t, PK X kws t ∧ ∀ (G H : Hp) (As : List Addr) (σ : L2.St) (ρ : Rho) (κ : Kap) (P : List R → Kap → Prop) (Q : List V → Hp → Prop), Cells X.K G H As κ → Places X.K G As σ ρ → w ρ κ P →
  (∀ vs rs G' H' As' κ', Step G H As G' H' As' → Cells X.K G' H' As' κ' → Places X.K G' As' σ ρ → Paired (It X.K G' As') vs rs → rs.length = kws.length → P rs κ' → Q vs H') → t σ H Q
theorem dk_nil : DK X [] wNil := ⟨_, pk_nil, fun G H As σ ρ κ P Q c p w k => k [] [] G H As κ Step.refl c p .nil rfl w⟩
theorem dk_cons {wa : DTE} {kws : List Keyword} {nm : Option Str} {kpos : Pos} (ha : DE X e wa) (hr : DK X kws wr) : DK X (⟨nm, e, kpos⟩ :: kws) (wCons wa wr) := by
  obtain ⟨ta, pa, ha⟩ := ha
  obtain ⟨tr, pr, hr⟩ := hr
  refine ⟨_, pk_cons pa pr, fun G H As σ ρ κ P Q c p w k => ?_⟩
  refine ha G H As σ ρ κ _ _ c p w fun v1 r1 G1 H1 As1 κ1 s1 c1 p1 i1 w1 => ?_
  obtain ⟨G1', s1', c1', p1', i1', _⟩ := settle s1 c1 p1 i1
  refine hr G1' H1 As1 σ ρ κ1 _ _ c1' p1' w1 fun vs rs G2 H2 As2 κ2 s2 c2 p2 i2 l2 w2 => ?_
  exact k _ _ G2 H2 As2 κ2 (s1'.trans s2) c2 p2 (.cons (s2.it i1') i2) (congrArg (· + 1) l2) w2
def wCallK (Φ : List R → (R → Prop) → Prop) (q : List Nat) (wa wk : DTA) : DTE := fun ρ κ P => wa ρ κ fun rs κ1 => wk ρ κ1 fun ks κ2 => Opt (args κ2 (rs ++ ks)) fun z => Φ (pick q z.1) fun r => P r z.2
theorem args_len : ∀ {rs : List R} {κ κ' : Kap} {xs : List R}, args κ rs = some (xs, κ') → xs.length = rs.length
  | [], _, _, _, e => by cases e; rfl
  | r :: rs, κ, _, xs, e => by
    unfold args at e
    cases q : arg κ r with
    | none => rw [q] at e; cases e
    | some z =>
      obtain ⟨y, κ1⟩ := z
      rw [q] at e
      simp only at e
      cases q2 : args κ1 rs with
      | none => rw [q2] at e; cases e
      | some z2 =>
        obtain ⟨ys, κ2⟩ := z2
        rw [q2] at e
        cases e
        exact congrArg (· + 1) (args_len q2)
theorem kw_reads {Φ : List R → (R → Prop) → Prop} {q : List Nat} {t tk : TA} {wa wk : DTA} {n m l : Nat}
    (h : ∀ (G H : Hp) (As : List Addr) (σ : L2.St) (ρ : Rho) (κ : Kap) (P : List R → Kap → Prop) (Q : List V → Hp → Prop), Cells X.K G H As κ → Places X.K G As σ ρ → wa ρ κ P → (∀ vs rs G' H' As' κ', Step G H As G' H' As' → Cells X.K G' H' As' κ' → Places X.K G' As' σ ρ → Paired (It X.K G' As') vs rs → rs.length = n → P rs κ' → Q vs H') → t σ H Q)
    (hk : ∀ (G H : Hp) (As : List Addr) (σ : L2.St) (ρ : Rho) (κ : Kap) (P : List R → Kap → Prop) (Q : List V → Hp → Prop), Cells X.K G H As κ → Places X.K G As σ ρ → wk ρ κ P → (∀ vs rs G' H' As' κ', Step G H As G' H' As' → Cells X.K G' H' As' κ' → Places X.K G' As' σ ρ → Paired (It X.K G' As') vs rs → rs.length = m → P rs κ' → Q vs H') → tk σ H Q)
    (hq : ∀ {α : Type} (xs : List α), xs.length = n + m → (pick q xs).length = l)
    (G H : Hp) (As : List Addr) (σ : L2.St) (ρ : Rho) (κ : Kap) (P : R → Kap → Prop) (Q : VK) (E : XK) (c : Cells X.K G H As κ) (pl : Places X.K G As σ ρ) (w : wCallK Φ q wa wk ρ κ P)
    (kk : ∀ v r G' H' As' κ', Step G H As G' H' As' → Cells X.K G' H' As' κ' → Places X.K G' As' σ ρ → Rv X.K H G' H' As' v r → P r κ' → Q v H') : tCallN n m (spD X.K l Φ) (fun us ws => pick q (us ++ ws)) E t tk σ H Q := by
  refine h G H As σ ρ κ _ _ c pl w fun vs rs G1 H1 As1 κ1 s1 c1 p1 i1 l1 w1 => ?_
  refine hk G1 H1 As1 σ ρ κ1 _ _ c1 p1 w1 fun ws ks G2 H2 As2 κ2 s2 c2 p2 i2 l2 w2 => ?_
  obtain ⟨⟨xs, κ3⟩, ea, w3⟩ := w2.ex
  have e1 : vs.length = n := (Paired.length i1).trans l1
  have e2 : ws.length = m := (Paired.length i2).trans l2
  obtain ⟨G3, s3, c3, i3⟩ := args_ok c2 (Paired.app (Paired.mapP i1 fun _ _ z => s2.it z) i2) ea
  refine ⟨e1, e2, hq _ (by rw [List.length_append, e1, e2]), G3, _, _, c3.ext, Paired.pick i3 q, w3, fun v r G' H' hP hE s4 rv => ?_⟩
  have st0 : Step G H As G3 H2 As2 := (s1.trans s2).trans s3
  have st : Step G H As G' H' As2 := st0.trans s4.wide
  exact kk v r G' H' As2 κ3 st (c3.call s4 hE) (pl.step st) ((rv.wide c3).back st0) hP
/-- f(e, .., k = v, ..) -/
theorem de_callK {Φ : List R → (R → Prop) → Prop} {ks : List Str} {q : List Nat} {kws : List Keyword} {wk : DTA} {l : Nat} (C : CalK X.prog X.w X.K X.mg X.base x k ps n ks q (spD X.K l Φ)) (hr : Room k X.A) (hn : n = (e :: es).length) (hm : ks.length = kws.length) (ha : DA X (e :: es) wr) (hkw : DK X kws wk)
    (hq : ∀ {α : Type} (xs : List α), xs.length = n + ks.length → (pick q xs).length = l)
    (hall : (backToKw pos (keywordEach kws X.env)).all (·.1.isSome) = true := by rfl) (hks : (backToKw pos (keywordEach kws X.env)).filterMap (·.1) = ks := by rfl) (hg : Gl X x := by rfl) (hdb : (x == ("__debug__" : Str)) = false := by decide)
    (he : starEach (e :: es) X.env = (false, eval e X.env) :: starEach es X.env := by rfl) (hpl : ((backTo pos (starEach (e :: es) X.env)).any (·.1) || (backToKw pos (keywordEach kws X.env)).any (·.1.isNone)) = false := by rfl) :
    DE X (.Call (.Name x p) (e :: es) kws pos) (wCallK Φ q wr wk) := by
  obtain ⟨f, fd, F, hmg, hk, hb⟩ := C.ex
  obtain ⟨t, pt, h⟩ := ha
  obtain ⟨tk, ptk, hk2⟩ := hkw
  refine ⟨_, pe_callN F hr hg hmg hk hb pass0 pt ptk hall hks hdb he hpl, fun G H As σ ρ κ P Q c pl w kk => ?_⟩
  exact kw_reads (by rw [hn]; exact h) (by rw [hm]; exact hk2) hq G H As σ ρ κ P Q _ c pl w kk
/-- f(k = v, ..) -/
theorem pe_callN0 {CX : CXT} {f : Addr} {fd : FuncData} {sp : Sp} {E : XK} {kws : List Keyword} {tk : TA} {ks : List Str} {g : List Value → List Value → List Value} {gV : List V → List V → List V} (F : FnOk X.prog X.w X.K X.mg X.base CX k f fd ps sp) (hr : Room k X.A) (hg : Gl X x) (hm : X.mg x = some (.ref f)) (hk : PySem.W.keepIn X.K (.ref f) = true) (hb : KBn X.K fd ps 0 ks g gV) (hx : Passes CX X E)
    (hkw : PK X kws tk) (hall : (backToKw pos (keywordEach kws X.env)).all (·.1.isSome) = true) (hks : (backToKw pos (keywordEach kws X.env)).filterMap (·.1) = ks) (hdb : (x == ("__debug__" : Str)) = false)
    (hpl : ((backTo pos (starEach [] X.env)).any (·.1) || (backToKw pos (keywordEach kws X.env)).any (·.1.isNone)) = false) : PE X (.Call (.Name x p) [] kws pos) (tCallN 0 ks.length sp gV E tNil tk) := by
  refine ⟨fun pins s σ H Q I h => ?_⟩
  refine wpAny_Call_Name_kw (ld_glob I hg hm ?_ hdb)
  refine PySem.W.callWith_KW0 (h₀ := X.base) I.ok.mod.kin hk hall (thn (hkw.run pos pins s σ H _ I h) fun ws s2 ⟨zs, H2, I2, rz, l1, l2, q2⟩ => ⟨I2.kIn, ?_⟩) hpl
  rw [hks]
  exact run_fnN (us := []) F hr hb hx I2 .nil rz l1 l2 q2
theorem de_callK0 {Φ : List R → (R → Prop) → Prop} {ks : List Str} {q : List Nat} {kws : List Keyword} {wk : DTA} {l : Nat} (C : CalK X.prog X.w X.K X.mg X.base x k ps 0 ks q (spD X.K l Φ)) (hr : Room k X.A) (hm : ks.length = kws.length) (hkw : DK X kws wk)
    (hq : ∀ {α : Type} (xs : List α), xs.length = 0 + ks.length → (pick q xs).length = l)
    (hall : (backToKw pos (keywordEach kws X.env)).all (·.1.isSome) = true := by rfl) (hks : (backToKw pos (keywordEach kws X.env)).filterMap (·.1) = ks := by rfl) (hg : Gl X x := by rfl) (hdb : (x == ("__debug__" : Str)) = false := by decide)
    (hpl : ((backTo pos (starEach [] X.env)).any (·.1) || (backToKw pos (keywordEach kws X.env)).any (·.1.isNone)) = false := by rfl) :
    DE X (.Call (.Name x p) [] kws pos) (wCallK Φ q wNil wk) := by
  obtain ⟨f, fd, F, hmg, hk, hb⟩ := C.ex
  obtain ⟨tk, ptk, hk2⟩ := hkw
  refine ⟨_, pe_callN0 F hr hg hmg hk hb pass0 ptk hall hks hdb hpl, fun G H As σ ρ κ P Q c pl w kk => ?_⟩
  refine kw_reads (n := 0) (t := tNil) ?_ (by rw [hm]; exact hk2) hq G H As σ ρ κ P Q _ c pl w kk
  exact fun G H As σ ρ κ P Q c p w k => k [] [] G H As κ Step.refl c p .nil rfl w
/-! xs[::-1] -/
def wRevS (wa : DTE) : DTE := fun ρ κ P => wa ρ κ fun r κ1 => Opt (val κ1 r.st) fun y => match y with
  | .list xs => P (.f xs.reverse) κ1
  | _ => False
theorem de_revS {wa : DTE} {kk : Nat} {p1 p2 p3 : Pos} (ha : DE X e wa) : DE X (.Subscript e (.Slice none none (some (.UnaryOp .USub (.Constant (.int 1) kk p1) p2)) p3) pos) (wRevS wa) := by
  obtain ⟨t, pt, ha⟩ := ha
  refine ⟨_, pe_revL pt, fun G H As σ ρ κ P Q c p w k => ?_⟩
  refine ha G H As σ ρ κ _ _ c p w fun v r G1 H1 As1 κ1 s1 c1 p1 i1 w1 => ?_
  obtain ⟨G1', s1', c1', p1', i1', _⟩ := settle s1 c1 p1 i1
  obtain ⟨y, ey, w2⟩ := w1.ex
  cases y with
  | list xs =>
    obtain ⟨a, vs, rfl, h1, h2⟩ := i1'.vw c1' ey
    exact ⟨a, vs, rfl, sql_of h1, fun q hq => out_ok (P := P) s1' c1' p1' (.n xs.reverse) w2 k q _ hq h2.rev⟩
  | _ => exact w2.elim
end
end DL
/-! DLs: the readings opened one by one, for simp. -/
namespace DL
open PySem PySem.Spec PyProof.Rows L2
section
variable {E : DEnds} {ρ : Rho} {κ : Kap} {P : R → Kap → Prop} {wa wb we : DTE} {wr : DTA} {wt wu : DTT} {g : DTG} {a b : DTS}
@[simp] theorem st_d (x : PyData) : (R.d x).st = .d x := rfl
@[simp] theorem st_c (k : Nat) : (R.c k).st = .c k := rfl
@[simp] theorem st_f (xs : List PyData) : (R.f xs).st = .d (.list xs) := rfl
@[simp] theorem st_s (ns : List Int) : (R.s ns).st = .s ns := rfl
@[simp] theorem val_d (x : PyData) : val κ (.d x) = some x := rfl
@[simp] theorem val_f (xs : List PyData) : val κ (.f xs) = some (.list xs) := rfl
theorem val_c {k : Nat} {xs : List PyData} (h : κ[k]? = some (.l xs)) : val κ (.c k) = some (.list xs) := by unfold val; simp only [h]
@[simp] theorem val_c0 (xs : List PyData) (κ : Kap) : val (.l xs :: κ) (.c 0) = some (.list xs) := rfl
@[simp] theorem val_c1 (c : Cell) (xs : List PyData) (κ : Kap) : val (c :: .l xs :: κ) (.c 1) = some (.list xs) := rfl
@[simp] theorem dat_d (x : PyData) : dat κ (.d x) = some (x, κ) := rfl
@[simp] theorem dat_f (xs : List PyData) : dat κ (.f xs) = some (.list xs, κ) := rfl
@[simp] theorem arg_d (x : PyData) : arg κ (.d x) = some (.d x, κ) := rfl
@[simp] theorem arg_s (ns : List Int) : arg κ (.s ns) = some (.s ns, κ) := rfl
@[simp] theorem dats_nil : dats κ [] = some ([], κ) := rfl
@[simp] theorem dats_d (x : PyData) (rs : List R) : dats κ (.d x :: rs) = (match dats κ rs with
  | some (xs, κ1) => some (x :: xs, κ1)
  | none => none) := rfl
@[simp] theorem args_nil : args κ [] = some ([], κ) := rfl
@[simp] theorem args_d (x : PyData) (rs : List R) : args κ (.d x :: rs) = (match args κ rs with
  | some (xs, κ1) => some (.d x :: xs, κ1)
  | none => none) := rfl
@[simp] theorem args_s (ns : List Int) (rs : List R) : args κ (.s ns :: rs) = (match args κ rs with
  | some (xs, κ1) => some (.s ns :: xs, κ1)
  | none => none) := rfl
@[simp] theorem vals_nil : vals κ [] = some [] := rfl
@[simp] theorem vals_cons (r : R) (rs : List R) : vals κ (r :: rs) = (match val κ r, vals κ rs with
  | some x, some xs => some (x :: xs)
  | _, _ => none) := rfl
@[simp] theorem Opt_some {α : Type} (x : α) (k : α → Prop) : Opt (some x) k = k x := rfl
@[simp] theorem Opt_none {α : Type} (k : α → Prop) : Opt none k = False := rfl
@[simp] theorem s_var (i : Nat) : wVar i ρ κ P = (match ρ[i]? with
  | some (some r) => P r κ
  | _ => False) := rfl
@[simp] theorem s_c (x : PyData) : wC x ρ κ P = P (.d x) κ := rfl
@[simp] theorem s_bin (f : PyData → PyData → Option Out) : wBin f wa wb ρ κ P = wa ρ κ fun r1 κ1 => wb ρ κ1 fun r2 κ2 => Opt (val κ2 r1.st) fun x => Opt (val κ2 r2.st) fun y => Opt (f x y) fun o => P o.r κ2 := rfl
@[simp] theorem s_un (f : PyData → Option Out) : wUn f wa ρ κ P = wa ρ κ fun r1 κ1 => Opt (val κ1 r1.st) fun x => Opt (f x) fun o => P o.r κ1 := rfl
@[simp] theorem s_cb (f : List PyData → Option Out) : wCB f wr ρ κ P = wr ρ κ fun rs κ1 => Opt (vals κ1 rs) fun xs => Opt (f xs) fun o => P o.r κ1 := rfl
@[simp] theorem s_nil (P : List R → Kap → Prop) : wNil ρ κ P = P [] κ := rfl
@[simp] theorem s_cons (P : List R → Kap → Prop) : wCons wa wr ρ κ P = wa ρ κ fun r κ1 => wr ρ κ1 fun rs κ2 => P (r.st :: rs) κ2 := rfl
@[simp] theorem s_consM (m : Bool) (P : List R → Kap → Prop) : wConsM m wa wr ρ κ P = wa ρ κ fun r κ1 => wr ρ (sto m r κ1).2 fun rs κ2 => P ((sto m r κ1).1 :: rs) κ2 := rfl
@[simp] theorem s_tup : wTup wr ρ κ P = wr ρ κ fun rs κ1 => Opt (dats κ1 rs) fun q => q.1.length ≤ sizeLine ∧ P (.d (.tuple q.1)) q.2 := rfl
@[simp] theorem s_lst : wLst wr ρ κ P = wr ρ κ fun rs κ1 => Opt (dats κ1 rs) fun q => q.1.length ≤ sizeLine ∧ P (.f q.1) q.2 := rfl
@[simp] theorem s_call (Φ : List R → (R → Prop) → Prop) : wCall Φ wr ρ κ P = wr ρ κ fun rs κ1 => Opt (args κ1 rs) fun q => Φ q.1 fun r => P r q.2 := rfl
@[simp] theorem s_callL (Φ : List PyData → List R → (R → List PyData → Prop) → Prop) : wCallL Φ wr ρ κ P = wr ρ κ fun rs κ1 => Opt (lend κ1 rs) fun q => Φ q.2.1 q.2.2.1 fun r bs => P (r.lab q.1) (q.2.2.2.set q.1 (.l bs)) := rfl
@[simp] theorem s_callK (Φ : List R → (R → Prop) → Prop) (q : List Nat) (wk : DTA) : wCallK Φ q wr wk ρ κ P = wr ρ κ fun rs κ1 => wk ρ κ1 fun ks κ2 => Opt (args κ2 (rs ++ ks)) fun z => Φ (pick q z.1) fun r => P r z.2 := rfl
@[simp] theorem lab_d (k : Nat) (x : PyData) : (R.d x).lab k = .d x := rfl
@[simp] theorem lab_f (k : Nat) (x : List PyData) : (R.f x).lab k = .f x := rfl
@[simp] theorem lend_c (k : Nat) (rs : List R) : lend κ (.c k :: rs) = (match args κ rs with
  | some (xs, κ1) => match κ1[k]? with
    | some (.l bs) => some (k, bs, xs, κ1)
    | _ => none
  | none => none) := rfl
@[simp] theorem s_tru (P : Bool → Kap → Prop) : wTru wa ρ κ P = wa ρ κ fun r κ1 => Opt (val κ1 r.st) fun x => Opt (truth x) fun b => P b κ1 := rfl
@[simp] theorem s_B (P : Bool → Kap → Prop) : wB wa ρ κ P = wa ρ κ fun r κ1 => match r with
  | .d (.bool b) => P b κ1
  | _ => False := rfl
@[simp] theorem s_not (P : Bool → Kap → Prop) : wNot wt ρ κ P = wt ρ κ fun b κ1 => P (!b) κ1 := rfl
@[simp] theorem s_and (P : Bool → Kap → Prop) : wAnd wt wu ρ κ P = wt ρ κ fun b κ1 => if b = true then wu ρ κ1 P else P false κ1 := rfl
@[simp] theorem s_or (P : Bool → Kap → Prop) : wOr wt wu ρ κ P = wt ρ κ fun b κ1 => if b = true then P true κ1 else wu ρ κ1 P := rfl
@[simp] theorem s_andV : wAndV wa wb ρ κ P = wa ρ κ fun r κ1 => match r with
  | .d (.bool z) => if z = true then wb ρ κ1 P else P (.d (.bool false)) κ1
  | _ => False := rfl
@[simp] theorem s_orV : wOrV wa wb ρ κ P = wa ρ κ fun r κ1 => match r with
  | .d (.bool z) => if z = true then P (.d (.bool true)) κ1 else wb ρ κ1 P
  | _ => False := rfl
@[simp] theorem s_notV : wNotV wa ρ κ P = wa ρ κ fun r κ1 => match r with
  | .d (.bool z) => P (.d (.bool (!z))) κ1
  | _ => False := rfl
@[simp] theorem s_ifx : wIf wt wa wb ρ κ P = wt ρ κ fun z κ1 => if z = true then wa ρ κ1 P else wb ρ κ1 P := rfl
@[simp] theorem s_name (i : Nat) (r : R) (P : Rho → Kap → Prop) : wName i r ρ κ P = P (ρ.set i (some r)) κ := rfl
@[simp] theorem s_tupG (n : Nat) (gs : List PyData → Rho → Kap → (Rho → Kap → Prop) → Prop) (xs : List PyData) (P : Rho → Kap → Prop) : wTupG n gs (.d (.tuple xs)) ρ κ P = (xs.length = n ∧ gs xs ρ κ P) := rfl
@[simp] theorem s_gcons (gs : List PyData → Rho → Kap → (Rho → Kap → Prop) → Prop) (x : PyData) (xs : List PyData) (P : Rho → Kap → Prop) : wgCons g gs (x :: xs) ρ κ P = g (.d x) ρ κ fun ρ1 κ1 => gs xs ρ1 κ1 P := rfl
@[simp] theorem s_gnil (P : Rho → Kap → Prop) : wgNil [] ρ κ P = P ρ κ := rfl
@[simp] theorem s_star (n i : Nat) (gs : List PyData → Rho → Kap → (Rho → Kap → Prop) → Prop) (xs : List PyData) (P : Rho → Kap → Prop) : wStar n i gs (.d (.tuple xs)) ρ κ P = (i < n ∧ n ≤ xs.length + 1 ∧ xs.length ≤ 16384 ∧ gs (xs.take i ++ [.list ((xs.drop i).take (xs.length + 1 - n))] ++ (xs.drop i).drop (xs.length + 1 - n)) ρ κ P) := rfl
@[simp] theorem s_next : wNext E ρ κ = E.nx ρ κ := rfl
@[simp] theorem s_seq : wSeq a b E ρ κ = a { E with nx := b E } ρ κ := rfl
@[simp] theorem s_asg : wAsg we g E ρ κ = we ρ κ fun r κ1 => g r.st ρ κ1 E.nx := rfl
@[simp] theorem s_set (m : Bool) (i : Nat) : wSet m i we E ρ κ = we ρ κ fun r κ1 => E.nx (ρ.set i (some (sto m r κ1).1)) (sto m r κ1).2 := rfl
@[simp] theorem sto_t (xs : List PyData) : sto true (.f xs) κ = (.c κ.length, κ ++ [.l xs]) := rfl
@[simp] theorem sto_f (r : R) : sto false r κ = (r.st, κ) := by cases r <;> rfl
@[simp] theorem sto_d (m : Bool) (x : PyData) : sto m (.d x) κ = (.d x, κ) := by cases m <;> rfl
@[simp] theorem sto_c (m : Bool) (k : Nat) : sto m (.c k) κ = (.c k, κ) := by cases m <;> rfl
@[simp] theorem s_par (i j : Nat) : wPar i j wr E ρ κ = wr ρ κ fun rs κ1 => match rs with
  | [r, q] => E.nx ((ρ.set i (some r)).set j (some q)) κ1
  | _ => False := rfl
@[simp] theorem s_drop : wDrop we E ρ κ = we ρ κ fun _ κ1 => E.nx ρ κ1 := rfl
@[simp] theorem s_ret : wRet we E ρ κ = we ρ κ E.rt := rfl
@[simp] theorem s_retN : wRetN E ρ κ = E.rt (.d .none) κ := rfl
@[simp] theorem s_if : wIfS wt a b E ρ κ = wt ρ κ fun z κ1 => if z = true then a E ρ κ1 else b E ρ κ1 := rfl
@[simp] theorem s_brk : wBrk E ρ κ = E.bk ρ κ := rfl
@[simp] theorem s_cnt : wCnt E ρ κ = E.ct ρ κ := rfl
@[simp] theorem s_for (wi : DTI) : wFor wi g b E ρ κ = wi ρ κ fun xs ok κ1 => forL ok g b E xs ρ κ1 := rfl
@[simp] theorem s_lc (wi : DTI) (vs : List Nat) : wLc wi g wt we vs ρ κ P = wi ρ κ fun xs ok κ1 => lcL ok g wt we (wipeR ρ vs) P xs [] κ1 := rfl
@[simp] theorem s_yes (P : Bool → Kap → Prop) : wYes ρ κ P = P true κ := rfl
@[simp] theorem s_sq (P : List PyData → (Kap → Prop) → Kap → Prop) : wSq we ρ κ P = we ρ κ fun r κ1 => Opt (val κ1 r.st) fun x => match x with
  | .list xs => P xs (fun κ' => val κ' r.st = some (.list xs)) κ1
  | .tuple xs => P xs (fun κ' => val κ' r.st = some (.tuple xs)) κ1
  | .str z => P (z.cps.toList.map fun c => .str ⟨#[c]⟩) (fun _ => True) κ1
  | _ => False := rfl
@[simp] theorem s_rng1 (P : List PyData → (Kap → Prop) → Kap → Prop) : wRng1 wr ρ κ P = wr ρ κ fun rs κ1 => match rs with
  | [.d (.int n)] => -(2 ^ 62) ≤ n ∧ n < 2 ^ 62 ∧ P ((List.range n.toNat).map fun (i : Nat) => .int (0 + (i : Int))) (fun _ => True) κ1
  | _ => False := rfl
@[simp] theorem s_rev (P : List PyData → (Kap → Prop) → Kap → Prop) : wRev wr ρ κ P = wr ρ κ fun rs κ1 => match rs with
  | [r] => Opt (val κ1 r) fun x => match x with
    | .list xs => P xs.reverse (fun κ' => val κ' r = some (.list xs)) κ1
    | _ => False
  | _ => False := rfl
@[simp] theorem s_enum (P : List PyData → (Kap → Prop) → Kap → Prop) : wEnum wr ρ κ P = wr ρ κ fun rs κ1 => match rs with
  | [r] => Opt (val κ1 r) fun x => match x with
    | .list xs => P (enumD 0 xs) (fun κ' => val κ' r = some (.list xs)) κ1
    | _ => False
  | _ => False := rfl
@[simp] theorem s_zip (P : List PyData → (Kap → Prop) → Kap → Prop) : wZip wr ρ κ P = wr ρ κ fun rs κ1 => match rs with
  | [r, q] => Opt (val κ1 r) fun x => Opt (val κ1 q) fun y => match x, y with
    | .list xs, .list ys => P (zipD xs ys) (fun κ' => val κ' r = some (.list xs) ∧ val κ' q = some (.list ys)) κ1
    | .tuple xs, .tuple ys => P (zipD xs ys) (fun κ' => val κ' r = some (.tuple xs) ∧ val κ' q = some (.tuple ys)) κ1
    | _, _ => False
  | _ => False := rfl
@[simp] theorem forL_nil (ok : Kap → Prop) : forL ok g b E [] ρ κ = E.nx ρ κ := rfl
@[simp] theorem forL_cons (ok : Kap → Prop) (x : PyData) (xs : List PyData) : forL ok g b E (x :: xs) ρ κ = g (.d x) ρ κ fun ρ1 κ1 => b { nx := fun ρ2 κ2 => ok κ2 ∧ forL ok g b E xs ρ2 κ2, rt := E.rt, bk := E.nx, ct := fun ρ2 κ2 => ok κ2 ∧ forL ok g b E xs ρ2 κ2 } ρ1 κ1 := rfl
@[simp] theorem lcL_nil (ok : Kap → Prop) (acc : List PyData) : lcL ok g wt we ρ P [] acc κ = P (.f acc) κ := rfl
@[simp] theorem lcL_cons (ok : Kap → Prop) (x : PyData) (xs acc : List PyData) : lcL ok g wt we ρ P (x :: xs) acc κ = g (.d x) ρ κ fun ρ1 κ1 => wt ρ1 κ1 fun b κ2 => if b = true then we ρ1 κ2 fun r κ3 => Opt (dat κ3 r.st) fun q => acc.length < sizeLine ∧ ok q.2 ∧ lcL ok g wt we ρ P xs (acc ++ [q.1]) q.2 else ok κ2 ∧ lcL ok g wt we ρ P xs acc κ2 := rfl
@[simp] theorem wipeR_nil : wipeR ρ [] = ρ := rfl
@[simp] theorem wipeR_cons (v : Nat) (vs : List Nat) : wipeR ρ (v :: vs) = (wipeR ρ vs).set v none := rfl
@[simp] theorem s_append : wAppend wa wb ρ κ P = wa ρ κ fun ro κ1 => (match ro with
  | .c k => (∃ zs, κ1[k]? = some (.l zs)) ∧ wb ρ κ1 fun r κ2 => Opt (dat κ2 r.st) fun q => match q.2[k]? with
    | some (.l xs) => xs.length < sizeLine ∧ P (.d .none) (q.2.set k (.l (xs ++ [q.1])))
    | _ => False
  | _ => False) := rfl
@[simp] theorem s_sub (r : R) (P : Rho → Kap → Prop) : wSub wa wb r ρ κ P = Opt (dat κ r) fun q => wa ρ q.2 fun ro κ1 => match ro with
  | .c k => wb ρ κ1 fun ri κ2 => match ri, κ2[k]? with
    | .d (.int i), some (.l xs) => Opt (ixN xs.length i) fun j => P ρ (κ2.set k (.l (xs.set j q.1)))
    | _, _ => False
  | _ => False := rfl
@[simp] theorem out_v (x : PyData) : (Out.v x).r = .d x := rfl
@[simp] theorem out_n (xs : List PyData) : (Out.n xs).r = .f xs := rfl
@[simp] theorem out_t (xs : List PyData) : (Out.t xs).r = .d (.tuple xs) := rfl
@[simp] theorem outR_d (n : Nat) (x : PyData) : outR κ n (.d x) = some (.d x) := rfl
@[simp] theorem outR_f (n : Nat) (x : List PyData) : outR κ n (.f x) = some (.f x) := rfl
@[simp] theorem endL_d (bs : List PyData) (κ : Kap) (x : PyData) (Pd : R → List PyData → Prop) : endL (.l bs :: κ) (.d x) Pd = Pd (.d x) bs := rfl
@[simp] theorem endL_f (bs : List PyData) (κ : Kap) (x : List PyData) (Pd : R → List PyData → Prop) : endL (.l bs :: κ) (.f x) Pd = Pd (.f x) bs := rfl
@[simp] theorem s_isi (T : Ty) : wIsi T wa ρ κ P = wa ρ κ fun r κ1 => Opt (val κ1 r.st) fun x => P (.d (.bool (isi x T))) κ1 := rfl
@[simp] theorem s_isi2 (T U : Ty) : wIsi2 T U wa ρ κ P = wa ρ κ fun r κ1 => Opt (val κ1 r.st) fun x => P (.d (.bool (isi x T || isi x U))) κ1 := rfl
@[simp] theorem s_bm (T : String) (f : PyData → List PyData → Option Out) : wBM T f wa wr ρ κ P = wa ρ κ fun r κ1 => Opt (val κ1 r.st) fun x0 => tyOk T x0 ∧ wr ρ κ1 fun rs κ2 => Opt (val κ2 r.st) fun x => Opt (vals κ2 rs) fun xs => Opt (f x xs) fun o => P o.r κ2 := rfl
@[simp] theorem s_scr : wScr wa wb ρ κ P = wa ρ κ fun r κ1 => match r with
  | .s ns => wb ρ κ1 fun q κ2 => match q with
    | .d (.int i) => Opt (atI ns i) fun n => P (.d (.int n)) κ2
    | _ => False
  | _ => False := rfl
@[simp] theorem s_lenS : wLenS wa ρ κ P = wa ρ κ fun r κ1 => match r with
  | .s ns => P (.d (.int ns.length)) κ1
  | _ => False := rfl
@[simp] theorem s_sl (wl wh : DTO) : wSl we wl wh ρ κ P = we ρ κ fun r κ1 => wl ρ κ1 fun lo κ2 => wh ρ κ2 fun hi κ3 => Opt (val κ3 r.st) fun x => Opt (slD x lo hi) fun o => P o.r κ3 := rfl
@[simp] theorem s_noP (P : Option Int → Kap → Prop) : wNoP ρ κ P = P none κ := rfl
@[simp] theorem s_P (P : Option Int → Kap → Prop) : wP we ρ κ P = we ρ κ fun r κ1 => match r with
  | .d (.int i) => P (some i) κ1
  | _ => False := rfl
@[simp] theorem s_revS : wRevS wa ρ κ P = wa ρ κ fun r κ1 => Opt (val κ1 r.st) fun y => match y with
  | .list xs => P (.f xs.reverse) κ1
  | _ => False := rfl
@[simp] theorem s_aug (i : Nat) (f : Int → Int → Int) : wAug i f we E ρ κ = (match ρ[i]? with
  | some (some (.d (.int a))) => we ρ κ fun r κ1 => match r with
    | .d (.int b) => E.nx (ρ.set i (some (.d (.int (f a b))))) κ1
    | _ => False
  | _ => False) := rfl
/-! values -/
@[simp] theorem addD_int (i j : Int) : addD (.int i) (.int j) = some (.v (.int (i + j))) := rfl
theorem addD_list {xs ys : List PyData} (h : xs.length + ys.length ≤ sizeLine) : addD (.list xs) (.list ys) = some (.n (xs ++ ys)) := if_pos h
theorem addD_tuple {xs ys : List PyData} (h : xs.length + ys.length ≤ sizeLine) : addD (.tuple xs) (.tuple ys) = some (.t (xs ++ ys)) := if_pos h
theorem addD_str {x y : Str} (h : x.length + y.length ≤ sizeLine) : addD (.str x) (.str y) = some (.v (.str (x ++ y))) := if_pos h
@[simp] theorem subD_int (i j : Int) : subD (.int i) (.int j) = some (.v (.int (i - j))) := rfl
theorem modD_int {i j : Int} (h : 0 < j) : modD (.int i) (.int j) = some (.v (.int (i % j))) := by
  unfold modD intD
  simp only [if_pos h]
  rfl
theorem fdivD_int {i j : Int} (h : 0 < j) (h2 : j < 1073741824) : fdivD (.int i) (.int j) = some (.v (.int (i / j))) := by
  unfold fdivD intD
  simp only [if_pos (And.intro h h2)]
  rfl
theorem powD_int {i j : Int} (h : 0 ≤ j) (h2 : j ≤ 1000000) (h3 : i.natAbs < 2 ^ 64) : powD (.int i) (.int j) = some (.v (.int (i ^ j.toNat))) := by
  unfold powD intD
  simp only [if_pos (And.intro h (And.intro h2 h3))]
  rfl
theorem mulD_int {i j : Int} (h : CMul i j) : mulD (.int i) (.int j) = some (.v (.int (i * j))) := by
  unfold mulD
  simp only [if_pos h]
@[simp] theorem negD_int (i : Int) : negD (.int i) = some (.v (.int (-i))) := rfl
@[simp] theorem ordD_int (fi : Int → Int → Bool) (fs : List Nat → List Nat → Bool) (i j : Int) : ordD fi fs (.int i) (.int j) = some (.v (.bool (fi i j))) := rfl
@[simp] theorem ciD_int (f : Int → Int → Bool) (i j : Int) : ciD f (.int i) (.int j) = some (.v (.bool (f i j))) := rfl
theorem eqD_of {neg : Bool} {x y : PyData} (hx : SeqAt.shaped x = true) (hy : SeqAt.shaped y = true) : eqD neg x y = some (.v (.bool (if neg then !PyData.eqv x y else PyData.eqv x y))) := if_pos ⟨hx, hy⟩
theorem ixD_list {xs : List PyData} {i : Int} {x : PyData} (h : atI xs i = some x) : ixD (.list xs) (.int i) = some (.v x) := by unfold ixD; simp only [h]; rfl
theorem ixD_tuple {xs : List PyData} {i : Int} {x : PyData} (h : atI xs i = some x) : ixD (.tuple xs) (.int i) = some (.v x) := by unfold ixD; simp only [h]; rfl
@[simp] theorem lenD_list (xs : List PyData) : lenD [.list xs] = some (.v (.int xs.length)) := rfl
@[simp] theorem lenD_tuple (xs : List PyData) : lenD [.tuple xs] = some (.v (.int xs.length)) := rfl
@[simp] theorem absD_int (i : Int) : absD [.int i] = some (.v (.int (if i < 0 then -i else i))) := rfl
@[simp] theorem intC_int (i : Int) : intC [.int i] = some (.v (.int i)) := rfl
@[simp] theorem intC_bool (b : Bool) : intC [.bool b] = some (.v (.int (if b then 1 else 0))) := rfl
@[simp] theorem max2D_int (i j : Int) : max2D [.int i, .int j] = some (.v (.int (if j > i then j else i))) := rfl
@[simp] theorem min2D_int (i j : Int) : min2D [.int i, .int j] = some (.v (.int (if j < i then j else i))) := rfl
@[simp] theorem listC_list (xs : List PyData) : listC [.list xs] = some (.n xs) := rfl
@[simp] theorem listC_tuple (xs : List PyData) : listC [.tuple xs] = some (.n xs) := rfl
@[simp] theorem tupC_list (xs : List PyData) : tupC [.list xs] = some (.t xs) := rfl
@[simp] theorem tupC_tuple (xs : List PyData) : tupC [.tuple xs] = some (.t xs) := rfl
@[simp] theorem slD_list (xs : List PyData) (lo hi : Option Int) : slD (.list xs) lo hi = some (.n (cut xs lo hi)) := rfl
@[simp] theorem slD_tuple (xs : List PyData) (lo hi : Option Int) : slD (.tuple xs) lo hi = some (.t (cut xs lo hi)) := rfl
theorem slD_str {z : Str} (lo hi : Option Int) (h : z.length ≤ sizeLine) : slD (.str z) lo hi = some (.v (.str (cutS z lo hi))) := if_pos h
theorem sortC_list {xs : List PyData} (h : SortOk xs) : sortC [.list xs] = some (.n (xs.mergeSort dLe)) := by
  unfold sortC
  simp only [if_pos h]
end
end DL
/-! DLw: the law's head, from its promise over plain data. -/
namespace DL
open PySem PySem.Spec PyProof.Rows L2
theorem walkD {l : PySem.W.OpenLaw} {n k : Nat} {q : Program} {loose : List Str} {XP : (Str → Option Value) → Heap → Prop} {YP : World → Heap → Prop} {d : DefRec} {K : Params → PySem.W.Frag} {x : Str} {Φ : List R → (R → Prop) → Prop}
    (hn : l.most = some n) (hn2 : n ≤ sizeLine) (hdf : d.params.defaults = []) (hr : Room k callerA)
    (hY : ∀ (w : World) (h : Heap), YP w h → (K w.params).In h)
    (F : ∀ (w : World) (mg : Str → Option Value) (fa : Addr) (h : Heap), (K w.params).In h → h.Ns mainGlobals mg → mg d.name = some (.ref fa) →
      ∃ fd : FuncData, (∀ (s : Shared) (u : Value), BindsTo s fd ⟨[u], []⟩ [(x, u)]) ∧ ∀ base : Heap, (K w.params).In base → base.Ns mainGlobals mg → FnOk l.prog w (K w.params) mg base CX0 k fa fd [x] (spD (K w.params) 1 Φ))
    (hΦ : ∀ ns : List Int, ns.length ≤ n → Φ [.s ns] fun r => r = .d (.bool true)) :
    PySem.W.WalkO q loose XP YP l.row.toRowW d [] (fun f vs => PySem.call f vs) :=
  L2.walk_of (CX := fun _ => CX0) (sp := fun w => spD (K w.params) 1 Φ) hn hn2 hdf hr hY F (fun w H a ns hl _ hS => ⟨rfl, H, [.s ns], fun r => r = .d (.bool true), Ex.refl H, .cons ⟨a, rfl, hS⟩ .nil, hΦ ns hl, fun v r G' H' e _ _ rv => by
    subst e
    have rv : Rp (K w.params) G' v (.bool true) := rv
    cases rv
    rfl⟩) fun _ _ _ _ _ z => z
end DL
/-! DLj: xs[i] op= e on a list that lives. -/
namespace DL
open PySem PySem.Spec PyProof.Rows L2
def rGetL (K : PySem.W.Frag) : V → V → Hp → VK → Prop := fun o i H Q => ∃ p xs k v, o = .ref p ∧ i = .int k ∧ 0 ≤ k ∧ SqL K H p xs ∧ atI xs k = some v ∧ Q v H
theorem get_list {X : Cx} : PGet X (rGetL X.K) := by
  intro pins s σ H o i ov iv Q I ro ri h
  obtain ⟨p, xs, k, z, rfl, rfl, h0, hq, he, q⟩ := h
  cases ro
  obtain ⟨t, rfl⟩ := ri
  obtain ⟨its, r, pl, hz⟩ := I.list hq
  obtain ⟨j, h1, h2, h3, h4, h5⟩ := atI_get he
  obtain ⟨w, ew, rw'⟩ := r.get h2
  have hl := r.length
  have hn := line63
  have hj : k.toNat = j := by
    rw [seqIndex_of h0 h5] at h1
    exact Option.some.inj h1
  exact thn (wpAny_getItem_list (Q := fun r s' => r = w ∧ EP X pins σ Q r s') pl.isList h0 (by omega) (by rw [hj]; simpa using ew) ⟨rfl, ⟨z, H, I, rw', q⟩⟩) (fun r s' x => x.2)
def wAugS (wo wi : DTE) (f : Int → Int → Int) (we : DTE) : DTS := fun E ρ κ => wo ρ κ fun ro κ1 => match ro with
  | .c k => wi ρ κ1 fun ri κ2 => match ri, κ2[k]? with
    | .d (.int i), some (.l xs) => 0 ≤ i ∧ match xs[i.toNat]? with
      | some (.int a) => we ρ κ2 fun rb κ3 => match rb, κ3[k]? with
        | .d (.int b), some (.l ys) => i.toNat < ys.length ∧ E.nx ρ (κ3.set k (.l (ys.set i.toNat (.int (f a b)))))
        | _, _ => False
      | _ => False
    | _, _ => False
  | _ => False
theorem ds_augS {X : Cx} {o i e : Expr} {wo wi we : DTE} {f : Int → Int → Int} {op : Operator} {tpos pos : Pos} (ho : DE X o wo) (hi : DE X i wi) (hp : PIp X op (ipI f)) (he : DE X e we)
    (ha : ∀ ov iv new, augStore i ov iv new = (do holding [new, ov, iv] (setItem ov iv new); release [new, ov, iv] []; pure .next) := by intros; rfl) : DS X (.AugAssign (.Subscript o i tpos) op e pos) (wAugS wo wi f we) := by
  obtain ⟨to, po, ho⟩ := ho
  obtain ⟨ti, pi, hi⟩ := hi
  obtain ⟨te, pe, he⟩ := he
  refine ⟨_, ps_augS po pi get_list pe hp set_list ha, fun G H As σ ρ κ E D c p w r => ?_⟩
  refine ho G H As σ ρ κ _ _ c p w fun v1 r1 G1 H1 As1 κ1 s1 c1 p1 i1 w1 => ?_
  cases r1 with
  | c kk =>
    obtain ⟨l, hl, rfl⟩ := i1
    refine hi G1 H1 As1 σ ρ κ1 _ _ c1 p1 w1 fun v2 r2 G2 H2 As2 κ2 s2 c2 p2 i2 w2 => ?_
    split at w2
    · rename_i o1 o2 ii xs hk
      obtain ⟨h0, w2⟩ := w2
      split at w2
      · rename_i o3 a hx
        have i2 : Rp X.K G2 v2 (.int ii) := i2
        cases i2
        obtain ⟨bs, eb⟩ := s2.pre
        have hl2 : As2[kk]? = some l := by rw [eb, List.getElem?_append_left (List.getElem?_eq_some_iff.mp hl).1]; exact hl
        obtain ⟨g0, vs, hq, rp⟩ := c2.ok kk _ l hk hl2
        have ea : atI xs ii = some (.int a) := by
          have := atI_nat hx
          rw [Int.toNat_of_nonneg h0] at this
          exact this
        obtain ⟨va, ea2, ra⟩ := rp.at ea
        cases ra
        refine ⟨l, vs, ii, .int a, rfl, rfl, h0, sql_of hq, ea2, ?_⟩
        refine he G2 H2 As2 σ ρ κ2 _ _ c2 p2 w2 fun v3 r3 G3 H3 As3 κ3 s3 c3 p3 i3 w3 => ?_
        split at w3
        · rename_i o4 o5 b ys hk3
          obtain ⟨hlt, w4⟩ := w3
          have i3 : Rp X.K G3 v3 (.int b) := i3
          cases i3
          obtain ⟨bs3, eb3⟩ := s3.pre
          have hl3 : As3[kk]? = some l := by rw [eb3, List.getElem?_append_left (List.getElem?_eq_some_iff.mp hl2).1]; exact hl2
          obtain ⟨g3, vs3, hq3, rp3⟩ := c3.ok kk _ l hk3 hl3
          have ej : ixN vs3.length ii = some ii.toNat := by
            rw [rp3.len]
            unfold ixN
            rw [if_pos h0, if_pos (by omega)]
          refine ⟨a, b, rfl, rfl, l, vs3, ii, ii.toNat, rfl, rfl, hq3, ej, ?_⟩
          have sw : Step G3 H3 As3 G3 (upd H3 l (.lst (vs3.set ii.toNat (.int (f a b))))) As3 := Step.write (List.mem_of_getElem? hl3) hq3
          have sa := ((s1.trans s2).trans s3).trans sw
          exact r.nx σ ρ G3 _ As3 _ sa (c3.write hk3 hl3 (rp3.set (.int _) _)) (p.step sa) w4
        · exact w3.elim
      · exact w2.elim
    · exact w2.elim
  | _ => exact w1.elim
@[simp] theorem s_augS (wo wi : DTE) (f : Int → Int → Int) (we : DTE) (E : DEnds) (ρ : Rho) (κ : Kap) : wAugS wo wi f we E ρ κ = wo ρ κ fun ro κ1 => match ro with
  | .c k => wi ρ κ1 fun ri κ2 => match ri, κ2[k]? with
    | .d (.int i), some (.l xs) => 0 ≤ i ∧ match xs[i.toNat]? with
      | some (.int a) => we ρ κ2 fun rb κ3 => match rb, κ3[k]? with
        | .d (.int b), some (.l ys) => i.toNat < ys.length ∧ E.nx ρ (κ3.set k (.l (ys.set i.toNat (.int (f a b)))))
        | _, _ => False
      | _ => False
    | _, _ => False
  | _ => False := rfl
end DL
/-! DLk: a list of lists that live: [f(..) for ..] whose items are changed later, and its walk. -/
namespace DL
open PySem PySem.Spec PyProof.Rows L2
def Refs (As : List Addr) (vs : List V) (ks : List Nat) : Prop := vs.length = ks.length ∧ ∀ (i k : Nat), ks[i]? = some k → ∃ c, As[k]? = some c ∧ vs[i]? = some (V.ref c)
theorem Refs.nil {As : List Addr} : Refs As [] [] := ⟨rfl, fun i k h => by simp at h⟩
theorem Refs.mono {As As' : List Addr} {vs : List V} {ks : List Nat} (h : Refs As vs ks) (p : ∃ bs, As' = As ++ bs) : Refs As' vs ks := by
  obtain ⟨bs, rfl⟩ := p
  refine ⟨h.1, fun i k hk => ?_⟩
  obtain ⟨c, e1, e2⟩ := h.2 i k hk
  exact ⟨c, by rw [List.getElem?_append_left (List.getElem?_eq_some_iff.mp e1).1]; exact e1, e2⟩
theorem Refs.snoc {As : List Addr} {vs : List V} {ks : List Nat} {v : V} {y : Nat} (h : Refs As vs ks) (hv : ∃ a, As[y]? = some a ∧ v = .ref a) : Refs As (vs ++ [v]) (ks ++ [y]) := by
  obtain ⟨a, e1, rfl⟩ := hv
  refine ⟨by rw [List.length_append, List.length_append, h.1]; rfl, fun i k hk => ?_⟩
  by_cases hi : i < ks.length
  · rw [List.getElem?_append_left hi] at hk
    obtain ⟨c, q1, q2⟩ := h.2 i k hk
    exact ⟨c, q1, by rw [List.getElem?_append_left (by rw [h.1]; exact hi)]; exact q2⟩
  · have hl : i < (ks ++ [y]).length := (List.getElem?_eq_some_iff.mp hk).1
    rw [List.length_append, List.length_singleton] at hl
    have ei : i = ks.length := by omega
    subst ei
    rw [List.getElem?_append_right (Nat.le_refl _), Nat.sub_self] at hk
    cases hk
    exact ⟨a, e1, by rw [← h.1, List.getElem?_append_right (Nat.le_refl _), Nat.sub_self]; rfl⟩
def lcB (ok : Kap → Prop) (g : DTG) (t : DTT) (e : DTE) (ρw : Rho) (P : R → Kap → Prop) : List PyData → List Nat → Kap → Prop
  | [], ks, κ => P (.b ks) κ
  | x :: xs, ks, κ => g (.d x) ρw κ fun ρ1 κ1 => t ρ1 κ1 fun b κ2 => if b = true then e ρ1 κ2 fun r κ3 => (match r with
      | .f ys => ks.length < sizeLine ∧ ok (κ3 ++ [.l ys]) ∧ lcB ok g t e ρw P xs (ks ++ [κ3.length]) (κ3 ++ [.l ys])
      | _ => False) else ok κ2 ∧ lcB ok g t e ρw P xs ks κ2
def wLcB (wi : DTI) (g : DTG) (t : DTT) (e : DTE) (vs : List Nat) : DTE := fun ρ κ P => wi ρ κ fun xs ok κ1 => lcB ok g t e (wipeR ρ vs) P xs [] κ1
def WalkR (K : PySem.W.Frag) (G : Hp) (As : List Addr) (J : L2.It) (xs : List R) : Prop := ∀ (G' H' : Hp) (As' : List Addr) (κ' : Kap), Ex G G' → (∃ bs, As' = As ++ bs) → Cells K G' H' As' κ' →
  (∀ i, i < xs.length → J.go i H') ∧ J.stop xs.length H' ∧ ∀ i v H'' x, J.yld i H' v H'' → xs[i]? = some x → ∃ G'', Step G' H' As' G'' H'' As' ∧ Cells K G'' H'' As' κ' ∧ It K G'' As' v x
theorem walk_refs {K : PySem.W.Frag} {G : Hp} {As : List Addr} {a : Addr} {ks : List Nat} (i0 : It K G As (.ref a) (.b ks)) : WalkR K G As (Itl K a) (ks.map R.c) := by
  intro G' H' As' κ' e p c
  obtain ⟨b, vs, ev, h1, h2, h3⟩ := i0.mono e p
  cases ev
  have hH : H' a = some (.lst vs) := c.ext _ _ h1
  refine ⟨fun i hi => ?_, ⟨vs, sql_of hH, by rw [h2, List.length_map]; exact Nat.le_refl _⟩, fun i v H'' x y hx => ?_⟩
  · rw [List.length_map] at hi
    obtain ⟨d, _, e2⟩ := h3 i _ (List.getElem?_eq_getElem hi)
    exact ⟨vs, _, sql_of hH, e2⟩
  · obtain ⟨rfl, y⟩ := y
    rw [List.getElem?_map] at hx
    cases q : ks[i]? with
    | none => rw [q] at hx; cases hx
    | some k =>
      rw [q] at hx
      cases hx
      obtain ⟨d, e1, e2⟩ := h3 i k q
      have := (y vs (sql_of hH)).symm.trans e2
      cases this
      exact ⟨G', Step.refl, c, d, e1, rfl⟩
abbrev DTIR := Rho → Kap → (List R → Kap → Prop) → Prop
def DIR (X : Cx) (tg it : Expr) (w : DTIR) : Prop := ∃ t, PI X tg it t ∧ ∀ (G H : Hp) (As : List Addr) (σ : L2.St) (ρ : Rho) (κ : Kap) (P : List R → Kap → Prop) (R' : L2.It → Hp → Prop), Cells X.K G H As κ → Places X.K G As σ ρ → w ρ κ P →
  (∀ J xs G' H' As' κ', Step G H As G' H' As' → Cells X.K G' H' As' κ' → Places X.K G' As' σ ρ → WalkR X.K G' As' J xs → P xs κ' → R' J H') → t σ H R'
def wRefs (we : DTE) : DTIR := fun ρ κ P => we ρ κ fun r κ1 => match r with
  | .b ks => P (ks.map R.c) κ1
  | _ => False
theorem dir_refs {X : Cx} {tg l : Expr} {we : DTE} (hl : DE X l we) : DIR X tg l (wRefs we) := by
  obtain ⟨t, pt, h⟩ := hl
  refine ⟨_, pi_seq pt, fun G H As σ ρ κ P R' c p w k => ?_⟩
  refine h G H As σ ρ κ _ _ c p w fun v r G1 H1 As1 κ1 s1 c1 p1 i1 w1 => ?_
  cases r with
  | b ks =>
    have i1 : It X.K G1 As1 v (.b ks) := i1
    obtain ⟨a, vs, rfl, h2, h3⟩ := id i1
    exact .inl ⟨a, vs, rfl, sql_of (c1.ext _ _ h2), k _ _ G1 H1 As1 κ1 s1 c1 p1 (walk_refs i1) w1⟩
  | _ => exact w1.elim
def lcR (g : DTG) (t : DTT) (e : DTE) (ρw : Rho) (P : R → Kap → Prop) : List R → List PyData → Kap → Prop
  | [], acc, κ => P (.f acc) κ
  | x :: xs, acc, κ => g x ρw κ fun ρ1 κ1 => t ρ1 κ1 fun b κ2 => if b = true then e ρ1 κ2 fun r κ3 => Opt (dat κ3 r.st) fun q => acc.length < sizeLine ∧ lcR g t e ρw P xs (acc ++ [q.1]) q.2 else lcR g t e ρw P xs acc κ2
def wLcR (wi : DTIR) (g : DTG) (t : DTT) (e : DTE) (vs : List Nat) : DTE := fun ρ κ P => wi ρ κ fun xs κ1 => lcR g t e (wipeR ρ vs) P xs [] κ1
section
variable {X : Cx} {elt tg iter : Expr} {ifs : List Expr} {scope : Scope} {own : List (Str × Nat)} {pos : Pos} {wi : DTI} {g : DTG} {wt : DTT} {we : DTE} {js : List Nat}
theorem lcB_reads {ti : TI} {gg : TG} {tt : TT} {te : TE} {vs : List Nat} (hj : ∀ j, j ∈ js → j ∈ vs)
    (hi : ∀ (G H : Hp) (As : List Addr) (σ : L2.St) (ρ : Rho) (κ : Kap) (P : List PyData → (Kap → Prop) → Kap → Prop) (R : L2.It → Hp → Prop), Cells X.K G H As κ → Places X.K G As σ ρ → wi ρ κ P → (∀ J xs ok G' H' As' κ', Step G H As G' H' As' → Cells X.K G' H' As' κ' → Places X.K G' As' σ ρ → WalkOk X.K G' As' J xs ok → ok κ' → P xs ok κ' → R J H') → ti σ H R)
    (hg : ∀ (G H : Hp) (As : List Addr) (σ : L2.St) (ρ : Rho) (κ : Kap) (v : V) (r : R) (P : Rho → Kap → Prop) (Q : L2.St → Hp → Prop), Cells X.K G H As κ → Places X.K G As σ ρ → It X.K G As v r → g r ρ κ P → (∀ σ' ρ' G' H' As' κ', Wr js σ σ' → Step G H As G' H' As' → Cells X.K G' H' As' κ' → Places X.K G' As' σ' ρ' → P ρ' κ' → Q σ' H') → gg v σ H Q)
    (ht : ∀ (G H : Hp) (As : List Addr) (σ : L2.St) (ρ : Rho) (κ : Kap) (P : Bool → Kap → Prop) (Q : Bool → Hp → Prop), Cells X.K G H As κ → Places X.K G As σ ρ → wt ρ κ P → (∀ b G' H' As' κ', Step G H As G' H' As' → Cells X.K G' H' As' κ' → Places X.K G' As' σ ρ → P b κ' → Q b H') → tt σ H Q)
    (he : ∀ (G H : Hp) (As : List Addr) (σ : L2.St) (ρ : Rho) (κ : Kap) (P : R → Kap → Prop) (Q : VK), Cells X.K G H As κ → Places X.K G As σ ρ → we ρ κ P → (∀ v r G' H' As' κ', Step G H As G' H' As' → Cells X.K G' H' As' κ' → Places X.K G' As' σ ρ → Rv X.K H G' H' As' v r → P r κ' → Q v H') → te σ H Q)
    (G H : Hp) (As : List Addr) (σ : L2.St) (ρ : Rho) (κ : Kap) (P : R → Kap → Prop) (Q : VK) (c : Cells X.K G H As κ) (p : Places X.K G As σ ρ) (w : wLcB wi g wt we vs ρ κ P)
    (k : ∀ v r G' H' As' κ', Step G H As G' H' As' → Cells X.K G' H' As' κ' → Places X.K G' As' σ ρ → Rv X.K H G' H' As' v r → P r κ' → Q v H') : tLc ti gg tt te vs σ H Q := by
  refine hi G H As σ ρ κ _ _ c p w fun J xs ok G1 H1 As1 κ1 s1 c1 p1 wk o1 w1 => fun D hD => ?_
  have gD1 : G1 D = none := c1.ext.free hD
  have nD1 : D ∉ As1 := c1.notin hD
  -- the list that is made stands at D, is known to nobody, and only the turns change it
  let W : Nat → Hp → Prop := fun i H' => ∃ G' As' κ' acc vs', Step G1 H1 As1 G' H' As' ∧ Cells X.K G' H' As' κ' ∧ G' D = none ∧ D ∉ As' ∧ H' D = some (.lst vs') ∧ Refs As' vs' acc ∧ ok κ' ∧ lcB ok g wt we (wipeR ρ vs) P (xs.drop i) acc κ'
  -- a step keeps the list at D as it is
  have keep : ∀ {Ga Ha Asa Gb Hb Asb} {vs' : List V}, Step Ga Ha Asa Gb Hb Asb → Ga D = none → D ∉ Asa → Ha D = some (.lst vs') → Gb D = none ∧ D ∉ Asb ∧ Hb D = some (.lst vs') := fun s g0 n0 h0 => by
    refine ⟨?_, fun hm => ?_, s.fr D _ n0 h0⟩
    · rcases s.gn D g0 with z | z | z
      · exact z
      · rw [h0] at z; cases z
      · exact absurd z n0
    · rcases s.new D hm with z | z
      · exact n0 z
      · rw [h0] at z; cases z
  -- a turn's end: the item goes onto the list
  have grow : ∀ {G' H' As' κ' acc vs' v y i}, Step G1 H1 As1 G' H' As' → Cells X.K G' H' As' κ' → G' D = none → D ∉ As' → H' D = some (.lst vs') → Refs As' vs' acc → (∃ a, As'[y]? = some a ∧ v = .ref a) → ok κ' → lcB ok g wt we (wipeR ρ vs) P (xs.drop i) (acc ++ [y]) κ' → W i (upd H' D (.lst (vs' ++ [v]))) := fun {G' H' As' κ' acc vs' v y i} s c g0 n0 h0 rp rv o f => by
    refine ⟨G', As', κ', acc ++ [y], vs' ++ [v], ⟨s.ex, s.pre, s.new, fun b u hb e => ?_, fun b e => ?_, s.gn⟩, ⟨c.ext.mut g0, c.len, c.nd, fun a ha => ?_, fun j x a e1 e2 => ?_⟩, g0, n0, upd_same, rp.snoc rv, o, f⟩
    · by_cases q : b = D
      · subst q; rw [hD] at e; cases e
      · rw [upd_ne q]; exact s.fr b u hb e
    · by_cases q : b = D
      · subst q; rw [upd_same] at e; cases e
      · rw [upd_ne q] at e; exact s.dom b e
    · by_cases q : a = D
      · subst q; exact ⟨_, upd_same⟩
      · rw [upd_ne q]; exact c.al a ha
    · have z := c.ok j x a e1 e2
      cases x with
      | l ds =>
        obtain ⟨z1, ws, z2, z3⟩ := z
        have ne : a ≠ D := fun q => n0 (by rw [← q]; exact List.mem_of_getElem? e2)
        exact ⟨z1, ws, by rw [upd_ne ne]; exact z2, z3⟩
      | z x => exact z
  refine ⟨fun i m H' => i + m = xs.length ∧ W i H', ⟨xs.length, by omega, G1, As1, κ1, [], [], Step.fresh hD, c1.fresh hD, gD1, nD1, upd_same, Refs.nil, o1, w1⟩, fun i m H' hW => ?_⟩
  obtain ⟨em, G', As', κ', acc, vs', s', c', g', n', h', rp, o', f⟩ := hW
  obtain ⟨wgo, wst, wyl⟩ := wk G' H' As' κ' s'.ex s'.pre c' o'
  cases m with
  | zero =>
    have ei : i = xs.length := by omega
    subst ei
    rw [List.drop_length] at f
    have st := s1.trans s'
    have eG : Ex G' (upd G' D (.lst vs')) := Ex.new g'
    have hD0 : H D = none := s1.dom D hD
    have st' : Step G H As (upd G' D (.lst vs')) H' As' := ⟨st.ex.trans eG, st.pre, st.new, st.fr, st.dom, fun b hb => by
      by_cases e : b = D
      · subst e; exact .inr (.inl hD0)
      · rw [upd_ne e]; exact st.gn b hb⟩
    have p' : Places X.K (upd G' D (.lst vs')) As' σ ρ := ⟨(p.step st).len, fun i r h => by
      obtain ⟨v, h1, h2⟩ := (p.step st).ok i r h
      exact ⟨v, h1, h2.mono eG ⟨[], by simp⟩⟩⟩
    exact .inl ⟨wst, k _ (.b acc) _ H' As' κ' st' (c'.learn g' n' h') p' ⟨D, vs', rfl, upd_same, rp.1, rp.2⟩ f⟩
  | succ m =>
    have hi' : i < xs.length := by omega
    rw [List.drop_eq_getElem_cons hi'] at f
    refine .inr ⟨wgo i hi', W (i + 1), fun H2 q => ⟨m, by omega, by omega, q⟩, fun v H2 hy => ?_⟩
    obtain ⟨G2, s2, c2, r2⟩ := wyl i v H2 _ hy (List.getElem?_eq_getElem hi')
    obtain ⟨g2, n2, h2⟩ := keep s2 g' n' h'
    refine hg G2 H2 As' (wipe σ vs) (wipeR ρ vs) κ' v (.d xs[i]) _ _ c2 ((p.step ((s1.trans s').trans s2)).wipe vs) r2 f fun σ3 ρ3 G3 H3 As3 κ3 a3 s3 c3 p3 w3 => ⟨?_, ?_⟩
    · have hw : wipe (wipe σ vs) vs = wipe σ vs := by
        refine List.ext_getElem? fun j => ?_
        by_cases hj : j ∈ vs
        · rw [wipe_in hj, wipe_in hj, wipe_length]
        · rw [wipe_out hj]
      rw [← hw]
      have q := a3.wipe hj
      rw [q]
    · obtain ⟨g3, n3, h3⟩ := keep s3 g2 n2 h2
      refine ht G3 H3 As3 σ3 ρ3 κ3 _ _ c3 p3 w3 fun z G4 H4 As4 κ4 s4 c4 p4 w4 => ?_
      obtain ⟨g4, n4, h4⟩ := keep s4 g3 n3 h3
      have st4 : Step G1 H1 As1 G4 H4 As4 := ((s'.trans s2).trans s3).trans s4
      cases z with
      | false =>
        rw [if_neg (by decide)] at w4 ⊢
        exact ⟨G4, As4, κ4, acc, vs', st4, c4, g4, n4, h4, rp.mono (((s2.trans s3).trans s4)).pre, w4.1, w4.2⟩
      | true =>
        rw [if_pos rfl] at w4 ⊢
        refine he G4 H4 As4 σ3 ρ3 κ4 _ _ c4 p4 w4 fun v5 r5 G5 H5 As5 κ5 s5 c5 p5 i5 w5 => ?_
        cases r5 with
        | f ys =>
          obtain ⟨hl, ho, w6⟩ := w5
          obtain ⟨G6, As6, s6, c6, i6, _, _⟩ := sto_ok true s5 c5 i5
          obtain ⟨g6, n6, h6⟩ := keep s6 g4 n4 h4
          have rp6 := rp.mono ((((s2.trans s3).trans s4)).trans s6).pre
          refine ⟨vs', h6, by rw [rp6.1]; exact hl, ?_⟩
          exact grow (st4.trans s6) c6 g6 n6 h6 rp6 i6 ho w6
        | _ => exact w5.elim
theorem de_lcB (hc : X.calm = true) (hN : X.N.Nodup) (hi : DI X tg iter wi) (ok : BlkOk X.N X.env.scope scope own) (hg : ∀ i : BI, DG (i.cx X scope) tg js g) (ht : ∀ i : BI, DTs (i.cx X scope) ifs wt) (he : ∀ i : BI, DE (i.cx X scope) elt we)
    (hj : ∀ j, j ∈ js → j ∈ own.map (·.2) := by decide) (hs : ∀ x, foldedSetIterable iter X.env x = pure x := by intro _; rfl) : DE X (.ListComp elt [⟨tg, iter, ifs, 0⟩] scope pos) (wLcB wi g wt we (own.map (·.2))) := by
  obtain ⟨ti, pi, hi⟩ := hi
  obtain ⟨gg, pg, hg⟩ := uni_G hg
  obtain ⟨tt, pt, ht⟩ := uni_T ht
  obtain ⟨te, pe, he⟩ := uni_E he
  exact ⟨_, pe_lc hc hN pi ok (fun s H C cl fp => pg ⟨s, H, C, cl, fp⟩) (fun s H C cl fp => pt ⟨s, H, C, cl, fp⟩) (fun s H C cl fp => pe ⟨s, H, C, cl, fp⟩) hs, lcB_reads hj hi hg ht he⟩
theorem ds_setLcB (m : Bool) (i : Nat) {y : Str} {py spos : Pos} (hc : X.calm = true) (hN : X.N.Nodup) (hsw : swapsWith (.ListComp elt [⟨tg, iter, ifs, 0⟩] scope pos) (some (.Name y py)) spos.line X.env = pure true) (hi : DI X tg iter wi) (ok : BlkOk X.N X.env.scope scope own) (hg : ∀ i : BI, DG (i.cx X scope) tg js g) (ht : ∀ i : BI, DTs (i.cx X scope) ifs wt) (he : ∀ i : BI, DE (i.cx X scope) elt we)
    (hy : X.N[i]? = some y := by rfl) (hyl : X.env.scope.names.lookup y = some .local := by rfl) (hj : ∀ j, j ∈ js → j ∈ own.map (·.2) := by decide) (hs : ∀ x, foldedSetIterable iter X.env x = pure x := by intro _; rfl) :
    DS X (.Assign [.Name y py] (.ListComp elt [⟨tg, iter, ifs, 0⟩] scope pos) spos) (wSet m i (wLcB wi g wt we (own.map (·.2)))) := by
  obtain ⟨ti, pi, hi⟩ := hi
  obtain ⟨gg, pg, hg⟩ := uni_G hg
  obtain ⟨tt, pt, ht⟩ := uni_T ht
  obtain ⟨te, pe, he⟩ := uni_E he
  refine ⟨_, ps_setLc hc hN hy hyl hsw pi ok (fun s H C cl fp => pg ⟨s, H, C, cl, fp⟩) (fun s H C cl fp => pt ⟨s, H, C, cl, fp⟩) (fun s H C cl fp => pe ⟨s, H, C, cl, fp⟩) hs, fun G H As σ ρ κ E D c p w r => ?_⟩
  refine lcB_reads hj hi hg ht he G H As σ ρ κ _ _ c p w fun v q G1 H1 As1 κ1 s1 c1 p1 i1 w1 => ?_
  obtain ⟨G1', As1', s1', c1', i1', e1, e2⟩ := sto_ok m s1 c1 i1
  exact r.nx _ _ G1' H1 As1' _ s1' c1' ((p1.mono e1 e2).put i i1') w1
theorem lcR_reads {wi : DTIR} {ti : TI} {gg : TG} {tt : TT} {te : TE} {vs : List Nat} (hj : ∀ j, j ∈ js → j ∈ vs)
    (hi : ∀ (G H : Hp) (As : List Addr) (σ : L2.St) (ρ : Rho) (κ : Kap) (P : List R → Kap → Prop) (R' : L2.It → Hp → Prop), Cells X.K G H As κ → Places X.K G As σ ρ → wi ρ κ P → (∀ J xs G' H' As' κ', Step G H As G' H' As' → Cells X.K G' H' As' κ' → Places X.K G' As' σ ρ → WalkR X.K G' As' J xs → P xs κ' → R' J H') → ti σ H R')
    (hg : ∀ (G H : Hp) (As : List Addr) (σ : L2.St) (ρ : Rho) (κ : Kap) (v : V) (r : R) (P : Rho → Kap → Prop) (Q : L2.St → Hp → Prop), Cells X.K G H As κ → Places X.K G As σ ρ → It X.K G As v r → g r ρ κ P → (∀ σ' ρ' G' H' As' κ', Wr js σ σ' → Step G H As G' H' As' → Cells X.K G' H' As' κ' → Places X.K G' As' σ' ρ' → P ρ' κ' → Q σ' H') → gg v σ H Q)
    (ht : ∀ (G H : Hp) (As : List Addr) (σ : L2.St) (ρ : Rho) (κ : Kap) (P : Bool → Kap → Prop) (Q : Bool → Hp → Prop), Cells X.K G H As κ → Places X.K G As σ ρ → wt ρ κ P → (∀ b G' H' As' κ', Step G H As G' H' As' → Cells X.K G' H' As' κ' → Places X.K G' As' σ ρ → P b κ' → Q b H') → tt σ H Q)
    (he : ∀ (G H : Hp) (As : List Addr) (σ : L2.St) (ρ : Rho) (κ : Kap) (P : R → Kap → Prop) (Q : VK), Cells X.K G H As κ → Places X.K G As σ ρ → we ρ κ P → (∀ v r G' H' As' κ', Step G H As G' H' As' → Cells X.K G' H' As' κ' → Places X.K G' As' σ ρ → Rv X.K H G' H' As' v r → P r κ' → Q v H') → te σ H Q)
    (G H : Hp) (As : List Addr) (σ : L2.St) (ρ : Rho) (κ : Kap) (P : R → Kap → Prop) (Q : VK) (c : Cells X.K G H As κ) (p : Places X.K G As σ ρ) (w : wLcR wi g wt we vs ρ κ P)
    (k : ∀ v r G' H' As' κ', Step G H As G' H' As' → Cells X.K G' H' As' κ' → Places X.K G' As' σ ρ → Rv X.K H G' H' As' v r → P r κ' → Q v H') : tLc ti gg tt te vs σ H Q := by
  refine hi G H As σ ρ κ _ _ c p w fun J xs G1 H1 As1 κ1 s1 c1 p1 wk w1 => fun D hD => ?_
  have gD1 : G1 D = none := c1.ext.free hD
  have nD1 : D ∉ As1 := c1.notin hD
  -- the list that is made stands at D, is known to nobody, and only the turns change it
  let W : Nat → Hp → Prop := fun i H' => ∃ G' As' κ' acc vs', Step G1 H1 As1 G' H' As' ∧ Cells X.K G' H' As' κ' ∧ G' D = none ∧ D ∉ As' ∧ H' D = some (.lst vs') ∧ RpA X.K G' vs' acc ∧ lcR g wt we (wipeR ρ vs) P (xs.drop i) acc κ'
  -- a step keeps the list at D as it is
  have keep : ∀ {Ga Ha Asa Gb Hb Asb} {vs' : List V}, Step Ga Ha Asa Gb Hb Asb → Ga D = none → D ∉ Asa → Ha D = some (.lst vs') → Gb D = none ∧ D ∉ Asb ∧ Hb D = some (.lst vs') := fun s g0 n0 h0 => by
    refine ⟨?_, fun hm => ?_, s.fr D _ n0 h0⟩
    · rcases s.gn D g0 with z | z | z
      · exact z
      · rw [h0] at z; cases z
      · exact absurd z n0
    · rcases s.new D hm with z | z
      · exact n0 z
      · rw [h0] at z; cases z
  -- a turn's end: the item goes onto the list
  have grow : ∀ {G' H' As' κ' acc vs' v y i}, Step G1 H1 As1 G' H' As' → Cells X.K G' H' As' κ' → G' D = none → D ∉ As' → H' D = some (.lst vs') → RpA X.K G' vs' acc → Rp X.K G' v y → lcR g wt we (wipeR ρ vs) P (xs.drop i) (acc ++ [y]) κ' → W i (upd H' D (.lst (vs' ++ [v]))) := fun {G' H' As' κ' acc vs' v y i} s c g0 n0 h0 rp rv f => by
    refine ⟨G', As', κ', acc ++ [y], vs' ++ [v], ⟨s.ex, s.pre, s.new, fun b u hb e => ?_, fun b e => ?_, s.gn⟩, ⟨c.ext.mut g0, c.len, c.nd, fun a ha => ?_, fun j x a e1 e2 => ?_⟩, g0, n0, upd_same, rp.app (.cons rv .nil), f⟩
    · by_cases q : b = D
      · subst q; rw [hD] at e; cases e
      · rw [upd_ne q]; exact s.fr b u hb e
    · by_cases q : b = D
      · subst q; rw [upd_same] at e; cases e
      · rw [upd_ne q] at e; exact s.dom b e
    · by_cases q : a = D
      · subst q; exact ⟨_, upd_same⟩
      · rw [upd_ne q]; exact c.al a ha
    · have z := c.ok j x a e1 e2
      cases x with
      | l ds =>
        obtain ⟨z1, ws, z2, z3⟩ := z
        have ne : a ≠ D := fun q => n0 (by rw [← q]; exact List.mem_of_getElem? e2)
        exact ⟨z1, ws, by rw [upd_ne ne]; exact z2, z3⟩
      | z x => exact z
  refine ⟨fun i m H' => i + m = xs.length ∧ W i H', ⟨xs.length, by omega, G1, As1, κ1, [], [], Step.fresh hD, c1.fresh hD, gD1, nD1, upd_same, .nil, w1⟩, fun i m H' hW => ?_⟩
  obtain ⟨em, G', As', κ', acc, vs', s', c', g', n', h', rp, f⟩ := hW
  obtain ⟨wgo, wst, wyl⟩ := wk G' H' As' κ' s'.ex s'.pre c'
  cases m with
  | zero =>
    have ei : i = xs.length := by omega
    subst ei
    rw [List.drop_length] at f
    have st := s1.trans s'
    exact .inl ⟨wst, k _ (.f acc) G' H' As' κ' st c' (p.step st) ⟨D, vs', rfl, s1.dom D hD, g', n', h', rp⟩ f⟩
  | succ m =>
    have hi' : i < xs.length := by omega
    rw [List.drop_eq_getElem_cons hi'] at f
    refine .inr ⟨wgo i hi', W (i + 1), fun H2 q => ⟨m, by omega, by omega, q⟩, fun v H2 hy => ?_⟩
    obtain ⟨G2, s2, c2, r2⟩ := wyl i v H2 _ hy (List.getElem?_eq_getElem hi')
    obtain ⟨g2, n2, h2⟩ := keep s2 g' n' h'
    refine hg G2 H2 As' (wipe σ vs) (wipeR ρ vs) κ' v xs[i] _ _ c2 ((p.step ((s1.trans s').trans s2)).wipe vs) r2 f fun σ3 ρ3 G3 H3 As3 κ3 a3 s3 c3 p3 w3 => ⟨?_, ?_⟩
    · have hw : wipe (wipe σ vs) vs = wipe σ vs := by
        refine List.ext_getElem? fun j => ?_
        by_cases hj : j ∈ vs
        · rw [wipe_in hj, wipe_in hj, wipe_length]
        · rw [wipe_out hj]
      rw [← hw]
      have q := a3.wipe hj
      rw [q]
    · obtain ⟨g3, n3, h3⟩ := keep s3 g2 n2 h2
      refine ht G3 H3 As3 σ3 ρ3 κ3 _ _ c3 p3 w3 fun z G4 H4 As4 κ4 s4 c4 p4 w4 => ?_
      obtain ⟨g4, n4, h4⟩ := keep s4 g3 n3 h3
      have st4 : Step G1 H1 As1 G4 H4 As4 := ((s'.trans s2).trans s3).trans s4
      cases z with
      | false =>
        rw [if_neg (by decide)] at w4 ⊢
        exact ⟨G4, As4, κ4, acc, vs', st4, c4, g4, n4, h4, RpA.mono (((s2.trans s3).trans s4)).ex _ _ rp, w4⟩
      | true =>
        rw [if_pos rfl] at w4 ⊢
        refine he G4 H4 As4 σ3 ρ3 κ4 _ _ c4 p4 w4 fun v5 r5 G5 H5 As5 κ5 s5 c5 p5 i5 w5 => ?_
        obtain ⟨G5', s5', c5', p5', i5', _⟩ := settle s5 c5 p5 i5
        obtain ⟨⟨y, κ6⟩, e6, hl, w6⟩ := w5.ex
        obtain ⟨G6, s6, c6, r6⟩ := dat_ok c5' i5' e6
        have st6 := s5'.trans s6
        obtain ⟨g6, n6, h6⟩ := keep st6 g4 n4 h4
        have rp6 := RpA.mono ((((s2.trans s3).trans s4)).trans st6).ex _ _ rp
        refine ⟨vs', h6, by rw [rp6.len]; exact hl, ?_⟩
        exact grow (st4.trans st6) c6 g6 n6 h6 rp6 r6 w6
theorem de_lcR (hc : X.calm = true) (hN : X.N.Nodup) {wi : DTIR} (hi : DIR X tg iter wi) (ok : BlkOk X.N X.env.scope scope own) (hg : ∀ i : BI, DG (i.cx X scope) tg js g) (ht : ∀ i : BI, DTs (i.cx X scope) ifs wt) (he : ∀ i : BI, DE (i.cx X scope) elt we)
    (hj : ∀ j, j ∈ js → j ∈ own.map (·.2) := by decide) (hs : ∀ x, foldedSetIterable iter X.env x = pure x := by intro _; rfl) : DE X (.ListComp elt [⟨tg, iter, ifs, 0⟩] scope pos) (wLcR wi g wt we (own.map (·.2))) := by
  obtain ⟨ti, pi, hi⟩ := hi
  obtain ⟨gg, pg, hg⟩ := uni_G hg
  obtain ⟨tt, pt, ht⟩ := uni_T ht
  obtain ⟨te, pe, he⟩ := uni_E he
  exact ⟨_, pe_lc hc hN pi ok (fun s H C cl fp => pg ⟨s, H, C, cl, fp⟩) (fun s H C cl fp => pt ⟨s, H, C, cl, fp⟩) (fun s H C cl fp => pe ⟨s, H, C, cl, fp⟩) hs, lcR_reads hj hi hg ht he⟩
end

@[simp] theorem lcB_nil (ok : Kap → Prop) (g : DTG) (t : DTT) (e : DTE) (ρ : Rho) (P : R → Kap → Prop) (ks : List Nat) (κ : Kap) : lcB ok g t e ρ P [] ks κ = P (.b ks) κ := rfl
@[simp] theorem lcR_nil (g : DTG) (t : DTT) (e : DTE) (ρ : Rho) (P : R → Kap → Prop) (acc : List PyData) (κ : Kap) : lcR g t e ρ P [] acc κ = P (.f acc) κ := rfl
@[simp] theorem s_lcB (wi : DTI) (g : DTG) (t : DTT) (e : DTE) (vs : List Nat) (ρ : Rho) (κ : Kap) (P : R → Kap → Prop) : wLcB wi g t e vs ρ κ P = wi ρ κ fun xs ok κ1 => lcB ok g t e (wipeR ρ vs) P xs [] κ1 := rfl
@[simp] theorem s_lcR (wi : DTIR) (g : DTG) (t : DTT) (e : DTE) (vs : List Nat) (ρ : Rho) (κ : Kap) (P : R → Kap → Prop) : wLcR wi g t e vs ρ κ P = wi ρ κ fun xs κ1 => lcR g t e (wipeR ρ vs) P xs [] κ1 := rfl
@[simp] theorem s_refs (we : DTE) (ρ : Rho) (κ : Kap) (P : List R → Kap → Prop) : wRefs we ρ κ P = we ρ κ fun r κ1 => match r with
  | .b ks => P (ks.map R.c) κ1
  | _ => False := rfl
end DL
/-! SHa: hooks and rows as data, draws, names: what many laws share. -/
namespace SH
open PySem PySem.Spec PyProof.Rows L2 DL

/-! ### comprehensions over a list whose turns change nothing -/
theorem lc_map {α : Type} {ok : Kap → Prop} {g : DTG} {we : DTE} {ρw : Rho} {P : R → Kap → Prop} {κ : Kap} (f e : α → PyData) (hok : ok κ) : ∀ (xs : List α) (acc : List PyData), acc.length + xs.length ≤ sizeLine →
    (∀ x ∈ xs, ∀ C : R → Kap → Prop, C (.d (e x)) κ → g (.d (f x)) ρw κ fun ρ1 κ1 => we ρ1 κ1 C) → P (.f (acc ++ xs.map e)) κ → lcL ok g wYes we ρw P (xs.map f) acc κ
  | [], acc, _, _, hp => by simpa using hp
  | x :: xs, acc, hl, h, hp => by
    rw [List.map_cons, lcL_cons]
    refine h x (List.mem_cons_self ..) _ ?_
    simp only [List.length_cons] at hl
    refine ⟨by omega, hok, lc_map f e hok xs _ (by rw [List.length_append, List.length_singleton]; omega) (fun y hy => h y (List.mem_cons_of_mem _ hy)) ?_⟩
    rw [List.append_assoc]
    exact hp
theorem lc_filter {α : Type} {ok : Kap → Prop} {g : DTG} {wt : DTT} {we : DTE} {ρw : Rho} {P : R → Kap → Prop} {κ : Kap} (f : α → PyData) (p : α → Bool) (e : α → PyData) (hok : ok κ) : ∀ (xs : List α) (acc : List PyData), acc.length + xs.length ≤ sizeLine →
    (∀ x ∈ xs, ∀ C : Bool → Rho → Kap → Prop, (∀ ρ1, (p x = true → ∀ D : R → Kap → Prop, D (.d (e x)) κ → we ρ1 κ D) → C (p x) ρ1 κ) → g (.d (f x)) ρw κ fun ρ1 κ1 => wt ρ1 κ1 fun b κ2 => C b ρ1 κ2) →
    P (.f (acc ++ (xs.filter p).map e)) κ → lcL ok g wt we ρw P (xs.map f) acc κ
  | [], acc, _, _, hp => by simpa using hp
  | x :: xs, acc, hl, h, hp => by
    rw [List.map_cons, lcL_cons]
    simp only [List.length_cons] at hl
    refine h x (List.mem_cons_self ..) (fun b ρ1 κ2 => if b = true then we ρ1 κ2 fun r κ3 => Opt (dat κ3 r.st) fun q => acc.length < sizeLine ∧ ok q.2 ∧ lcL ok g wt we ρw P (xs.map f) (acc ++ [q.1]) q.2 else ok κ2 ∧ lcL ok g wt we ρw P (xs.map f) acc κ2) fun ρ1 hw => ?_
    by_cases hb : p x = true
    · rw [if_pos hb]
      refine hw hb _ ⟨by omega, hok, lc_filter f p e hok xs _ (by rw [List.length_append, List.length_singleton]; omega) (fun y hy => h y (List.mem_cons_of_mem _ hy)) ?_⟩
      rw [List.filter_cons_of_pos hb] at hp
      rw [List.append_assoc]
      exact hp
    · rw [if_neg hb]
      refine ⟨hok, lc_filter f p e hok xs acc (by omega) (fun y hy => h y (List.mem_cons_of_mem _ hy)) ?_⟩
      rw [List.filter_cons_of_neg hb] at hp
      exact hp

/-! ### hooks and rows -/
abbrev Hook := Str × Str × Int
abbrev Row := List Hook
def hookD (h : Hook) : PyData := .tuple [.str h.1, .str h.2.1, .int h.2.2]
def turned (h : Hook) : Hook := (h.1, h.2.1, -h.2.2)
def back (r : Row) : Row := r.reverse.map turned
theorem back_len (r : Row) : (back r).length = r.length := by unfold back; rw [List.length_map, List.length_reverse]
def Ph_turned (rs : List R) (P : R → Prop) : Prop := ∃ h : Hook, rs = [.d (hookD h)] ∧ P (.d (hookD (turned h)))
def Ph_back (rs : List R) (P : R → Prop) : Prop := ∃ r : Row, rs = [.d (.list (r.map hookD))] ∧ r.length ≤ sizeLine ∧ P (.f ((back r).map hookD))
abbrev Ph_law_back := Ph_back

/-! ### what is drawn from -/
def Box (N : Int) (bs : List PyData) : Prop := ∃ x c n : Int, bs = [.int x, .int c, .int n] ∧ 0 ≤ x ∧ 0 ≤ c ∧ c ≤ 2 ^ 40 ∧ 0 ≤ n ∧ n ≤ N
theorem Box.mono {N M : Int} {bs : List PyData} (h : Box N bs) (l : N ≤ M) : Box M bs := by
  obtain ⟨x, c, n, e, h1, h2, h3, h4, h5⟩ := h
  exact ⟨x, c, n, e, h1, h2, h3, h4, by omega⟩
def Ph_law_take (bs : List PyData) (rs : List R) (P : R → List PyData → Prop) : Prop := ∃ N b : Int, Box N bs ∧ N < 2 ^ 40 ∧ rs = [.d (.int b)] ∧ 0 < b ∧ b < 2 ^ 30 ∧ ∀ (r : Int) (bs' : List PyData), 0 ≤ r → r < b → Box (N + 1) bs' → P (.d (.int r)) bs'
def Ph_law_box (rs : List R) (P : R → Prop) : Prop := ∃ (ns : List Int) (k : Int), rs = [.s ns, .d (.int k)] ∧ 0 ≤ k ∧ k ≤ 1000 ∧ ∀ bs, Box 0 bs → P (.f bs)
end SH
namespace SH
open PySem PySem.Spec PyProof.Rows L2 DL
/-- turned -/
def w_turned : DTS := (wSeq (wAsg (wVar 0) (wTupG 3 (wgCons (wName 1) (wgCons (wName 2) (wgCons (wName 3) wgNil)))))
  (wRet (wTup (wCons (wVar 1) (wCons (wVar 2) (wCons (wUn negD (wVar 3)) wNil))))))
theorem r_turned (rs : List R) (Pd : R → Prop) (h : Ph_turned rs Pd) (hl : rs.length = 1) : w_turned { nx := fun _ _ => Pd (.d .none), rt := fun r κ => Opt (outR κ 0 r) Pd } (rs.map some ++ List.replicate 3 none) [] := by
  obtain ⟨h, rfl, k⟩ := h
  simp [w_turned, hookD, sizeLine_eq]
  exact k
/-- back -/
def w_back : DTS := (wRet (wLc (wRev (wCons (wVar 0) wNil)) (wName 1) wYes (wCall Ph_turned (wCons (wVar 1) wNil)) [1]))
theorem r_back (rs : List R) (Pd : R → Prop) (h : Ph_back rs Pd) (hl : rs.length = 1) : w_back { nx := fun _ _ => Pd (.d .none), rt := fun r κ => Opt (outR κ 0 r) Pd } (rs.map some ++ List.replicate 1 none) [] := by
  obtain ⟨r, rfl, hr, k⟩ := h
  simp [w_back]
  rw [← List.map_reverse]
  refine lc_map hookD (fun h => hookD (turned h)) (by simp) r.reverse [] (by simpa using hr) (fun h _ C hC => ?_) ?_
  · simp
    exact ⟨h, rfl, hC⟩
  · have e : (back r).map hookD = r.reverse.map (fun h => hookD (turned h)) := by
      unfold back; rw [List.map_map]; rfl
    rw [e] at k
    simpa only [outR_f, Opt_some, List.nil_append] using k
/-- _law_take -/
def w_law_take : DTS := (wSeq (wIfS (wB (wBin (ciD gtI) (wBin ixD (wVar 0) (wC (.int 0))) (wC (.int 0)))) (wSeq (wSet false 2 (wBin modD (wBin ixD (wVar 0) (wC (.int 0))) (wVar 1)))
  (wSeq (wAsg (wBin fdivD (wBin ixD (wVar 0) (wC (.int 0))) (wVar 1)) (wSub (wVar 0) (wC (.int 0))))
  (wRet (wVar 2)))) wNext)
  (wSeq (wAsg (wBin addD (wBin ixD (wVar 0) (wC (.int 2))) (wC (.int 1))) (wSub (wVar 0) (wC (.int 2))))
  (wSeq (wSet false 3 (wBin modD (wBin powD (wBin addD (wBin ixD (wVar 0) (wC (.int 1))) (wBin mulD (wC (.int 39373)) (wBin ixD (wVar 0) (wC (.int 2))))) (wC (.int 5))) (wC (.int 2147483647))))
  (wRet (wBin modD (wBin fdivD (wBin modD (wBin addD (wBin mulD (wVar 3) (wBin addD (wBin modD (wVar 3) (wC (.int 40009))) (wC (.int 7)))) (wBin mulD (wBin ixD (wVar 0) (wC (.int 2))) (wC (.int 7919)))) (wC (.int 2147483629))) (wC (.int 64))) (wVar 1))))))
theorem ix3_0 (a b c : PyData) : ixD (.list [a, b, c]) (.int 0) = some (.v a) := rfl
theorem ix3_1 (a b c : PyData) : ixD (.list [a, b, c]) (.int 1) = some (.v b) := rfl
theorem ix3_2 (a b c : PyData) : ixD (.list [a, b, c]) (.int 2) = some (.v c) := rfl
theorem ixN3_0 : ixN 3 0 = some 0 := rfl
theorem ixN3_2 : ixN 3 2 = some 2 := rfl
theorem r_law_take (bs : List PyData) (rs : List R) (Pd : R → List PyData → Prop) (h : Ph_law_take bs rs Pd) (hl : rs.length = 1) : w_law_take { nx := fun _ κ => endL κ (.d .none) Pd, rt := fun r κ => endL κ r Pd } (some (.c 0) :: (rs.map some ++ List.replicate 2 none)) [.l bs] := by
  obtain ⟨N, b, ⟨x, c, n, rfl, hx, hc, hc2, hn, hn2⟩, hN, rfl, hb, hb2, k⟩ := h
  have hp : (c + 39373 * (n + 1)).natAbs < 2 ^ 64 := by omega
  have hm : ∀ q : Int, 0 ≤ q % 2147483647 ∧ q % 2147483647 < 2147483647 := fun q => ⟨Int.emod_nonneg _ (by decide), Int.emod_lt_of_pos _ (by decide)⟩
  simp [w_law_take, ix3_0, ix3_1, ix3_2, ixN3_0, ixN3_2, gtI]
  by_cases h0 : 0 < x
  · rw [if_pos h0]
    rw [modD_int hb, Opt_some]
    simp [fdivD_int hb (by omega), ix3_0, ixN3_0]
    refine k _ _ (Int.emod_nonneg _ (by omega)) (Int.emod_lt_of_pos _ hb) ⟨_, c, n, rfl, Int.ediv_nonneg hx (by omega), hc, hc2, hn, by omega⟩
  · rw [if_neg h0]
    rw [mulD_int (.inl (by decide)), Opt_some]
    simp only [out_v, addD_int, Opt_some, st_d, val_d]
    rw [powD_int (by decide) (by decide) hp, Opt_some]
    simp only [out_v, Opt_some, st_d, val_d]
    rw [modD_int (by decide), Opt_some]
    obtain ⟨q1, q2⟩ := hm ((c + 39373 * (n + 1)) ^ (5 : Int).toNat)
    generalize (c + 39373 * (n + 1)) ^ (5 : Int).toNat % 2147483647 = o at q1 q2
    simp only [out_v, Opt_some, st_d, val_d, List.set_cons_succ, List.set_cons_zero, List.getElem?_cons_succ, List.getElem?_cons_zero]
    rw [modD_int (by decide), Opt_some]
    simp only [out_v, addD_int, Opt_some, st_d, val_d]
    rw [mulD_int (.inl (by omega)), Opt_some, mulD_int (.inl (by omega)), Opt_some]
    simp only [out_v, addD_int, Opt_some, st_d, val_d]
    rw [modD_int (by decide), Opt_some]
    simp only [out_v, Opt_some, st_d, val_d]
    rw [fdivD_int (by decide) (by decide), Opt_some]
    simp only [out_v, Opt_some, st_d, val_d]
    rw [modD_int hb, Opt_some]
    simp only [out_v, endL_d]
    exact k _ _ (Int.emod_nonneg _ (by omega)) (Int.emod_lt_of_pos _ hb) ⟨x, c, n + 1, rfl, hx, hc, hc2, by omega, by omega⟩
/-- _law_box -/
def w_law_box : DTS := (wSeq (wSet false 2 (wC (.int 0)))
  (wSeq (wIfS (wB (wBin (ordD ltI ltS) (wVar 1) (wLenS (wVar 0)))) (wSet false 2 (wScr (wVar 0) (wVar 1))) wNext)
  (wRet (wLst (wCons (wBin mulD (wCB absD (wCons (wVar 2) wNil)) (wCB intC (wCons (wBin (ciD geI) (wCB absD (wCons (wVar 2) wNil)) (wBin powD (wC (.int 10)) (wC (.int 18)))) wNil))) (wCons (wBin addD (wBin addD (wBin modD (wVar 2) (wC (.int 2147483629))) (wBin mulD (wC (.int 7919)) (wVar 1))) (wC (.int 11))) (wCons (wC (.int 0)) wNil)))))))
theorem r_law_box (rs : List R) (Pd : R → Prop) (h : Ph_law_box rs Pd) (hl : rs.length = 2) : w_law_box { nx := fun _ _ => Pd (.d .none), rt := fun r κ => Opt (outR κ 0 r) Pd } (rs.map some ++ List.replicate 1 none) [] := by
  obtain ⟨ns, k, rfl, h0, h1, q⟩ := h
  have fin : ∀ z : Int, wRet (wLst (wCons (wBin mulD (wCB absD (wCons (wVar 2) wNil)) (wCB intC (wCons (wBin (ciD geI) (wCB absD (wCons (wVar 2) wNil)) (wBin powD (wC (.int 10)) (wC (.int 18)))) wNil))) (wCons (wBin addD (wBin addD (wBin modD (wVar 2) (wC (.int 2147483629))) (wBin mulD (wC (.int 7919)) (wVar 1))) (wC (.int 11))) (wCons (wC (.int 0)) wNil)))) { nx := fun _ _ => Pd (.d .none), rt := fun r κ => Opt (outR κ 0 r) Pd } [some (.s ns), some (.d (.int k)), some (.d (.int z))] [] := fun z => by
    simp [geI, powD_int (i := 10) (j := 18) (by decide) (by decide) (by decide)]
    rw [mulD_int (.inr (by constructor <;> (repeat' split) <;> decide)), Opt_some]
    simp
    rw [modD_int (by decide), Opt_some, mulD_int (.inl (by decide)), Opt_some]
    simp [sizeLine_eq]
    refine q _ ⟨_, _, _, rfl, ?_, ?_, ?_, Int.le_refl 0, Int.le_refl 0⟩
    · split <;> split <;> omega
    · have := Int.emod_nonneg z (show (2147483629 : Int) ≠ 0 by decide)
      omega
    · have := Int.emod_lt_of_pos z (show (0 : Int) < 2147483629 by decide)
      omega
  simp only [w_law_box, s_seq, s_set, s_c, s_if, s_B, s_bin, s_var, s_lenS, s_scr, List.map_cons, List.map_nil, List.cons_append, List.nil_append, List.replicate_succ, List.replicate_zero, sto_f, st_d, val_d, Opt_some, List.set_cons_succ, List.set_cons_zero, List.getElem?_cons_succ, List.getElem?_cons_zero, ordD_int, out_v, s_next]
  by_cases hk : k < (ns.length : Int)
  · simp only [ltI, decide_eq_true hk, if_true]
    obtain ⟨j, rfl⟩ : ∃ j : Nat, k = (j : Int) := ⟨k.toNat, by omega⟩
    have hj : j < ns.length := by omega
    rw [atI_nat (List.getElem?_eq_getElem hj), Opt_some]
    exact fin _
  · simp only [ltI, decide_eq_false hk, Bool.false_eq_true, if_false]
    exact fin 0
end SH
/-! K77f: what the counting computes, in plain Lean. -/
namespace K77
def psF : Nat → List Int → Int → List Int
  | 0, fs, _ => fs
  | n + 1, fs, l => if 1 < l then psF n (fs ++ [fs.getLastD 0 * l * (l - 1) / 2 / (fs.length : Int)]) (l - 2) else fs
def pairSets (r : Nat) : List Int := psF 7 [1] r
def addAt (xs : List Int) (i : Nat) (v : Int) : List Int := xs.set i (xs.getD i 0 + v)
def rowT (a : Int) (i : Nat) : Nat → List Int → List Int → List Int
  | _, [], f => f
  | j, y :: ys, f => rowT a i (j + 1) ys (addAt f (i + j) (a * y))
def tabT (b : List Int) : Nat → List Int → List Int → List Int
  | _, [], f => f
  | i, x :: xs, f => tabT b (i + 1) xs (rowT x i 0 b f)
def timesL (a b : List Int) : List Int := tabT b 0 a (List.replicate (a.length + b.length - 1) 0)
def raisedL (p : List Int) : Nat → List Int
  | 0 => [1]
  | n + 1 => timesL (raisedL p n) p
def addM (m : Int) (acc part : List Int) : List Int := List.zipWith (fun n x => n + m * x) acc part
def benF (top : Nat) : Nat → List Int → List Int → List Int
  | _, [], acc => acc
  | s, m :: ms, acc => benF top (s + 1) ms (addM m acc (timesL (raisedL [0, -2] s) (raisedL [1, 1] (top - s))))
def ben (r : Nat) : List Int := benF ((pairSets r).length - 1) 0 (pairSets r) (List.replicate (pairSets r).length 0)
def abv (r : Nat) : List Int := raisedL [1, 1] ((pairSets r).length - 1)
/-- the numbers told so far, the last one first -/
def numR (be rev : List Int) : Nat → Nat → Int → Int
  | 0, _, n => n
  | c + 1, j, n => numR be rev c (j + 1) (n - be.getD j 0 * rev.getD (j - 1) 0)
def foundR (ab be : List Int) (top : Nat) : Nat → List Int
  | 0 => []
  | s + 1 => numR be (foundR ab be top s) (min s top) 1 (if s ≤ top then ab.getD s 0 else 0) :: foundR ab be top s
def found (r n : Nat) : List Int := foundR (abv r) (ben r) ((pairSets r).length - 1) n
def manyWebs (r h : Nat) : Int := (found r (h + 1)).headD 0
def lotsOf : Nat → Nat → Nat → Int
  | 0, _, _ => 0
  | n + 1, r, p => if p = 0 then 1 else if r < 2 then 0 else lotsOf n (r - 1) p + ((r : Int) - 1) * lotsOf n (r - 2) (p - 1)
def partF (top p : Nat) : Nat → List Int → List Int
  | 0, x => x
  | c + 1, x => partF top p c (timesL x (if top - (c + 1) < p then [0, -2] else [1, 1]))
def ownBen (r top : Nat) : Nat → List Int → List Int
  | 0, acc => acc
  | c + 1, acc => ownBen r top c (List.zipWith (fun a b => a + b) acc (partF top (top - c) top [lotsOf 20 r (top - c)]))
def small (x : Int) : Bool := decide (-(2 ^ 64) < x) && decide (x < 2 ^ 64)
theorem ben_own : ∀ r ∈ List.range 13, ownBen r (r / 2) (r / 2 + 1) (List.replicate (r / 2 + 1) 0) = ben r ∧ (ben r).all small = true ∧ (pairSets r).length = r / 2 + 1 ∧ (pairSets r).all small = true ∧ (ben r).length = r / 2 + 1 ∧ (abv r).length = r / 2 + 1 := by decide +kernel
theorem rises : ∀ r ∈ List.range 13, (List.zipWith (fun a b => decide (a ≤ b)) (found r 201) (found (if r < 12 then r + 1 else r) 201)).all id = true := by decide +kernel
theorem known : manyWebs 0 0 = 1 ∧ manyWebs 1 0 = 1 ∧ manyWebs 0 3 = 0 ∧ manyWebs 1 200 = 0 ∧ manyWebs 2 0 = 1 ∧ manyWebs 2 1 = 2 ∧ manyWebs 2 2 = 2 ∧ manyWebs 2 200 = 2 := by decide +kernel
theorem three : ∀ h ∈ List.range 59, manyWebs 3 (h + 1) = 6 * 5 ^ h := by decide +kernel
end K77
namespace K77
theorem told_0 : ∀ m ∈ List.range 41, (timesL (found 0 m).reverse (ben 0)).take m = (abv 0 ++ List.replicate m 0).take m := by decide +kernel
theorem told_1 : ∀ m ∈ List.range 41, (timesL (found 1 m).reverse (ben 1)).take m = (abv 1 ++ List.replicate m 0).take m := by decide +kernel
theorem told_2 : ∀ m ∈ List.range 41, (timesL (found 2 m).reverse (ben 2)).take m = (abv 2 ++ List.replicate m 0).take m := by decide +kernel
theorem told_3 : ∀ m ∈ List.range 41, (timesL (found 3 m).reverse (ben 3)).take m = (abv 3 ++ List.replicate m 0).take m := by decide +kernel
theorem told_4 : ∀ m ∈ List.range 41, (timesL (found 4 m).reverse (ben 4)).take m = (abv 4 ++ List.replicate m 0).take m := by decide +kernel
theorem told_5 : ∀ m ∈ List.range 41, (timesL (found 5 m).reverse (ben 5)).take m = (abv 5 ++ List.replicate m 0).take m := by decide +kernel
theorem told_6 : ∀ m ∈ List.range 41, (timesL (found 6 m).reverse (ben 6)).take m = (abv 6 ++ List.replicate m 0).take m := by decide +kernel
theorem told_7 : ∀ m ∈ List.range 41, (timesL (found 7 m).reverse (ben 7)).take m = (abv 7 ++ List.replicate m 0).take m := by decide +kernel
theorem told_8 : ∀ m ∈ List.range 41, (timesL (found 8 m).reverse (ben 8)).take m = (abv 8 ++ List.replicate m 0).take m := by decide +kernel
theorem told_9 : ∀ m ∈ List.range 41, (timesL (found 9 m).reverse (ben 9)).take m = (abv 9 ++ List.replicate m 0).take m := by decide +kernel
theorem told_10 : ∀ m ∈ List.range 41, (timesL (found 10 m).reverse (ben 10)).take m = (abv 10 ++ List.replicate m 0).take m := by decide +kernel
theorem told_11 : ∀ m ∈ List.range 41, (timesL (found 11 m).reverse (ben 11)).take m = (abv 11 ++ List.replicate m 0).take m := by decide +kernel
theorem told_12 : ∀ m ∈ List.range 41, (timesL (found 12 m).reverse (ben 12)).take m = (abv 12 ++ List.replicate m 0).take m := by decide +kernel
theorem told (r m : Nat) (hr : r < 13) (hm : m < 41) : (timesL (found r m).reverse (ben r)).take m = (abv r ++ List.replicate m 0).take m := by
  have h := List.mem_range.mpr hm
  match r, hr with
  | 0, _ => exact told_0 m h
  | 1, _ => exact told_1 m h
  | 2, _ => exact told_2 m h
  | 3, _ => exact told_3 m h
  | 4, _ => exact told_4 m h
  | 5, _ => exact told_5 m h
  | 6, _ => exact told_6 m h
  | 7, _ => exact told_7 m h
  | 8, _ => exact told_8 m h
  | 9, _ => exact told_9 m h
  | 10, _ => exact told_10 m h
  | 11, _ => exact told_11 m h
  | 12, _ => exact told_12 m h
end K77
namespace K77
open PySem PySem.Spec PyProof.Rows L2 DL SH
def dI (l : List Int) : List PyData := l.map PyData.int
theorem dI_len (l : List Int) : (dI l).length = l.length := by unfold dI; rw [List.length_map]
def Sm (l : List Int) : Prop := ∀ x ∈ l, -(2 ^ 64) < x ∧ x < 2 ^ 64
/-! ### products -/
def Ph_times (rs : List R) (P : R → Prop) : Prop := ∃ a b : List Int, rs = [.d (.list (dI a)), .d (.list (dI b))] ∧ 0 < a.length ∧ 0 < b.length ∧ a.length + b.length ≤ 1000 ∧ Sm b ∧ P (.f (dI (timesL a b)))
abbrev Ph_law_product := Ph_times
theorem addAt_len (xs : List Int) (i : Nat) (v : Int) : (addAt xs i v).length = xs.length := by unfold addAt; rw [List.length_set]
theorem rowT_len (a : Int) (i : Nat) : ∀ (j : Nat) (b f : List Int), (rowT a i j b f).length = f.length
  | _, [], f => rfl
  | j, y :: ys, f => by rw [rowT, rowT_len a i (j + 1) ys, addAt_len]
theorem tabT_len (b : List Int) : ∀ (i : Nat) (a f : List Int), (tabT b i a f).length = f.length
  | _, [], f => rfl
  | i, x :: xs, f => by rw [tabT, tabT_len b (i + 1) xs, rowT_len]
theorem timesL_len (a b : List Int) : (timesL a b).length = a.length + b.length - 1 := by unfold timesL; rw [tabT_len, List.length_replicate]
def wi_times : DTS := (wAugS (wVar 2) (wBin addD (wVar 3) (wVar 5)) (fun i j => i + j) (wBin mulD (wVar 4) (wVar 6)))
def wo_times : DTS := (wFor (wEnum (wCons (wVar 1) wNil)) (wTupG 2 (wgCons (wName 5) (wgCons (wName 6) wgNil))) wi_times)
/-- times -/
def w_times : DTS := (wSeq (wSet true 2 (wBin mulD (wLst (wCons (wC (.int 0)) wNil)) (wBin subD (wBin addD (wCB lenD (wCons (wVar 0) wNil)) (wCB lenD (wCons (wVar 1) wNil))) (wC (.int 1)))))
  (wSeq (wFor (wEnum (wCons (wVar 0) wNil)) (wTupG 2 (wgCons (wName 3) (wgCons (wName 4) wgNil))) wo_times)
  (wRet (wVar 2))))
theorem get_ints {f : List Int} {n : Nat} (h : n < f.length) : (dI f)[n]? = some (.int (f.getD n 0)) := by
  unfold dI
  rw [List.getElem?_map, List.getElem?_eq_getElem h, List.getD_eq_getElem?_getD, List.getElem?_eq_getElem h]
  rfl
theorem set_ints (f : List Int) (n : Nat) (v : Int) : (dI f).set n (.int v) = dI (f.set n v) := by unfold dI; rw [List.map_set]
theorem times_in {ok : Kap → Prop} {E : DEnds} {p0 p1 : Option R} {i : Nat} {a : Int} (hok : ∀ κ, ok κ) : ∀ (j : Nat) (b f : List Int) (q5 q6 : Option R), i + j + b.length ≤ f.length → Sm b →
    (∀ q5 q6, E.nx [p0, p1, some (.c 0), some (.d (.int i)), some (.d (.int a)), q5, q6] [.l (dI (rowT a i j b f))]) →
    forL ok (wTupG 2 (wgCons (wName 5) (wgCons (wName 6) wgNil))) wi_times E (enumD j (dI b)) [p0, p1, some (.c 0), some (.d (.int i)), some (.d (.int a)), q5, q6] [.l (dI f)]
  | j, [], f, q5, q6, _, _, k => k q5 q6
  | j, y :: ys, f, q5, q6, hl, hb, k => by
    show forL _ _ _ _ (.tuple [.int j, .int y] :: enumD (j + 1) (dI ys)) _ _
    rw [forL_cons, s_tupG]
    refine ⟨rfl, ?_⟩
    simp only [List.length_cons] at hl
    have hy := hb y (List.mem_cons_self ..)
    have hij : ((i : Int) + (j : Int)).toNat = i + j := by omega
    have hlt : i + j < f.length := by omega
    simp [wi_times, hij, mulD_int (i := a) (j := y) (.inr hy), get_ints hlt, dI_len, set_ints]
    refine ⟨by omega, hlt, hok _, ?_⟩
    refine times_in hok (j + 1) ys (addAt f (i + j) (a * y)) _ _ (by rw [addAt_len]; omega) (fun x hx => hb x (List.mem_cons_of_mem _ hx)) k
theorem times_out {ok : Kap → Prop} {E : DEnds} {p0 : Option R} {b : List Int} (hok : ∀ κ, ok κ) (hb : Sm b) : ∀ (i : Nat) (a f : List Int) (q3 q4 q5 q6 : Option R), i + a.length + b.length ≤ f.length + 1 →
    (∀ q3 q4 q5 q6, E.nx [p0, some (.d (.list (dI b))), some (.c 0), q3, q4, q5, q6] [.l (dI (tabT b i a f))]) →
    forL ok (wTupG 2 (wgCons (wName 3) (wgCons (wName 4) wgNil))) wo_times E (enumD i (dI a)) [p0, some (.d (.list (dI b))), some (.c 0), q3, q4, q5, q6] [.l (dI f)]
  | i, [], f, q3, q4, q5, q6, _, k => k q3 q4 q5 q6
  | i, x :: xs, f, q3, q4, q5, q6, hl, k => by
    show forL _ _ _ _ (.tuple [.int i, .int x] :: enumD (i + 1) (dI xs)) _ _
    rw [forL_cons, s_tupG]
    refine ⟨rfl, ?_⟩
    simp only [List.length_cons] at hl
    simp [wo_times]
    refine times_in (fun κ => by trivial) 0 b f _ _ (by omega) hb fun q5 q6 => ⟨hok _, ?_⟩
    exact times_out hok hb (i + 1) xs _ _ _ _ _ (by rw [rowT_len]; omega) k
theorem rep0 (n : Nat) : (List.replicate n [PyData.int 0]).flatten = dI (List.replicate n 0) := by
  unfold dI
  rw [List.map_replicate]
  induction n with
  | zero => rfl
  | succ n ih => rw [List.replicate_succ, List.flatten_cons, ih, List.replicate_succ]; rfl
theorem mulD_rep {n : Nat} (h : n ≤ 100000) : mulD (.list [.int 0]) (.int n) = some (.n (dI (List.replicate n 0))) := by
  unfold mulD
  simp only
  rw [if_pos ⟨by omega, by omega, by rw [sizeLine_eq]; simp; omega⟩, Int.toNat_natCast, rep0]
theorem size_times {n : Nat} {a b : List Int} {p2 p3 p4 p5 p6 : Option R} {κ : Kap} {P : R → Kap → Prop} (hn : a.length + b.length = n + 1) (h : P (.d (.int (n : Int))) κ) :
    wBin subD (wBin addD (wCB lenD (wCons (wVar 0) wNil)) (wCB lenD (wCons (wVar 1) wNil))) (wC (.int 1)) [some (.d (.list (dI a))), some (.d (.list (dI b))), p2, p3, p4, p5, p6] κ P := by
  have e : ((a.length : Int) + (b.length : Int) - 1) = (n : Int) := by omega
  simp [dI_len]
  rw [e]
  exact h
theorem first_times {n : Nat} {a b : List Int} {p2 p3 p4 p5 p6 : Option R} {P : R → Kap → Prop} (hn : a.length + b.length = n + 1) (h1 : n ≤ 1000) (h : P (.f (dI (List.replicate n 0))) []) :
    wBin mulD (wLst (wCons (wC (.int 0)) wNil)) (wBin subD (wBin addD (wCB lenD (wCons (wVar 0) wNil)) (wCB lenD (wCons (wVar 1) wNil))) (wC (.int 1))) [some (.d (.list (dI a))), some (.d (.list (dI b))), p2, p3, p4, p5, p6] [] P := by
  have e := mulD_rep (n := n) (by omega)
  rw [s_bin, s_lst]
  constructor
  · rw [sizeLine_eq]; show 1 ≤ 16777216; decide
  · refine size_times hn ?_
    simp only [st_f, val_f, st_d, val_d, Opt_some]
    rw [e]
    exact h
theorem r_times (rs : List R) (Pd : R → Prop) (h : Ph_times rs Pd) (hl : rs.length = 2) : w_times { nx := fun _ _ => Pd (.d .none), rt := fun r κ => Opt (outR κ 0 r) Pd } (rs.map some ++ List.replicate 5 none) [] := by
  obtain ⟨a, b, rfl, ha, hb, hab, sb, k⟩ := h
  clear hl
  obtain ⟨n, hn⟩ : ∃ n, a.length + b.length = n + 1 := ⟨a.length + b.length - 1, by omega⟩
  have et : timesL a b = tabT b 0 a (List.replicate n 0) := by unfold timesL; rw [hn]; rfl
  rw [et] at k
  unfold w_times
  rw [s_seq, s_set]
  refine first_times hn (by omega) ?_
  simp
  refine times_out (fun κ => by trivial) sb 0 a _ _ _ _ _ (by rw [List.length_replicate]; omega) fun q3 q4 q5 q6 => ?_
  simp [outR]
  exact k
/-! the law's own product: the same turns -/
def wi_prod : DTS := (wAsg (wBin addD (wBin ixD (wVar 2) (wBin addD (wVar 3) (wVar 5))) (wBin mulD (wVar 4) (wVar 6))) (wSub (wVar 2) (wBin addD (wVar 3) (wVar 5))))
def wo_prod : DTS := (wFor (wEnum (wCons (wVar 1) wNil)) (wTupG 2 (wgCons (wName 5) (wgCons (wName 6) wgNil))) wi_prod)
/-- _law_product -/
def w_law_product : DTS := (wSeq (wSet true 2 (wBin mulD (wLst (wCons (wC (.int 0)) wNil)) (wBin subD (wBin addD (wCB lenD (wCons (wVar 0) wNil)) (wCB lenD (wCons (wVar 1) wNil))) (wC (.int 1)))))
  (wSeq (wFor (wEnum (wCons (wVar 0) wNil)) (wTupG 2 (wgCons (wName 3) (wgCons (wName 4) wgNil))) wo_prod)
  (wRet (wVar 2))))
theorem prod_in {ok : Kap → Prop} {E : DEnds} {p0 p1 : Option R} {i : Nat} {a : Int} (hok : ∀ κ, ok κ) : ∀ (j : Nat) (b f : List Int) (q5 q6 : Option R), i + j + b.length ≤ f.length → Sm b →
    (∀ q5 q6, E.nx [p0, p1, some (.c 0), some (.d (.int i)), some (.d (.int a)), q5, q6] [.l (dI (rowT a i j b f))]) →
    forL ok (wTupG 2 (wgCons (wName 5) (wgCons (wName 6) wgNil))) wi_prod E (enumD j (dI b)) [p0, p1, some (.c 0), some (.d (.int i)), some (.d (.int a)), q5, q6] [.l (dI f)]
  | j, [], f, q5, q6, _, _, k => k q5 q6
  | j, y :: ys, f, q5, q6, hl, hb, k => by
    show forL _ _ _ _ (.tuple [.int j, .int y] :: enumD (j + 1) (dI ys)) _ _
    rw [forL_cons, s_tupG]
    refine ⟨rfl, ?_⟩
    simp only [List.length_cons] at hl
    have hy := hb y (List.mem_cons_self ..)
    have hlt : i + j < f.length := by omega
    have ex : ixD (.list (dI f)) (.int ((i : Int) + (j : Int))) = some (.v (.int (f.getD (i + j) 0))) := by
      refine ixD_list ?_
      rw [← Int.natCast_add]
      exact atI_nat (get_ints hlt)
    have en : ixN (dI f).length ((i : Int) + (j : Int)) = some (i + j) := by
      rw [dI_len]
      unfold ixN
      rw [if_pos (by omega), if_pos (by omega)]
      congr 1
    simp [wi_prod, ex, mulD_int (i := a) (j := y) (.inr hy), en, set_ints]
    refine ⟨hok _, ?_⟩
    exact prod_in hok (j + 1) ys (addAt f (i + j) (a * y)) _ _ (by rw [addAt_len]; omega) (fun x hx => hb x (List.mem_cons_of_mem _ hx)) k
theorem prod_out {ok : Kap → Prop} {E : DEnds} {p0 : Option R} {b : List Int} (hok : ∀ κ, ok κ) (hb : Sm b) : ∀ (i : Nat) (a f : List Int) (q3 q4 q5 q6 : Option R), i + a.length + b.length ≤ f.length + 1 →
    (∀ q3 q4 q5 q6, E.nx [p0, some (.d (.list (dI b))), some (.c 0), q3, q4, q5, q6] [.l (dI (tabT b i a f))]) →
    forL ok (wTupG 2 (wgCons (wName 3) (wgCons (wName 4) wgNil))) wo_prod E (enumD i (dI a)) [p0, some (.d (.list (dI b))), some (.c 0), q3, q4, q5, q6] [.l (dI f)]
  | i, [], f, q3, q4, q5, q6, _, k => k q3 q4 q5 q6
  | i, x :: xs, f, q3, q4, q5, q6, hl, k => by
    show forL _ _ _ _ (.tuple [.int i, .int x] :: enumD (i + 1) (dI xs)) _ _
    rw [forL_cons, s_tupG]
    refine ⟨rfl, ?_⟩
    simp only [List.length_cons] at hl
    simp [wo_prod]
    refine prod_in (fun κ => by trivial) 0 b f _ _ (by omega) hb fun q5 q6 => ⟨hok _, ?_⟩
    exact prod_out hok hb (i + 1) xs _ _ _ _ _ (by rw [rowT_len]; omega) k
theorem r_law_product (rs : List R) (Pd : R → Prop) (h : Ph_law_product rs Pd) (hl : rs.length = 2) : w_law_product { nx := fun _ _ => Pd (.d .none), rt := fun r κ => Opt (outR κ 0 r) Pd } (rs.map some ++ List.replicate 5 none) [] := by
  obtain ⟨a, b, rfl, ha, hb, hab, sb, k⟩ := h
  clear hl
  obtain ⟨n, hn⟩ : ∃ n, a.length + b.length = n + 1 := ⟨a.length + b.length - 1, by omega⟩
  have et : timesL a b = tabT b 0 a (List.replicate n 0) := by unfold timesL; rw [hn]; rfl
  rw [et] at k
  unfold w_law_product
  rw [s_seq, s_set]
  refine first_times hn (by omega) ?_
  simp
  refine prod_out (fun κ => by trivial) sb 0 a _ _ _ _ _ (by rw [List.length_replicate]; omega) fun q3 q4 q5 q6 => ?_
  simp [outR]
  exact k
end K77
namespace K77
open PySem PySem.Spec PyProof.Rows L2 DL SH
/-! ### powers -/
theorem raisedL_len (p : List Int) (hp : p.length = 2) : ∀ n, (raisedL p n).length = n + 1
  | 0 => rfl
  | n + 1 => by rw [raisedL, timesL_len, raisedL_len p hp n, hp]; omega
def Ph_raised (rs : List R) (P : R → Prop) : Prop := ∃ (p : List Int) (n : Nat), rs = [.d (.list (dI p)), .d (.int n)] ∧ p.length = 2 ∧ n ≤ 100 ∧ Sm p ∧ P (.d (.list (dI (raisedL p n))))
def wb_raised : DTS := (wSet false 2 (wCall Ph_times (wCons (wVar 2) (wCons (wVar 0) wNil))))
/-- raised -/
def w_raised : DTS := (wSeq (wSet false 2 (wLst (wCons (wC (.int 1)) wNil)))
  (wSeq (wFor (wRng1 (wCons (wVar 1) wNil)) (wName 3) wb_raised)
  (wRet (wVar 2))))
theorem raised_loop {ok : Kap → Prop} {E : DEnds} {p1 : Option R} {p : List Int} {κ : Kap} (hok : ok κ) (hp : p.length = 2) (sp : Sm p) : ∀ (xs : List PyData) (m : Nat) (q3 : Option R), m + xs.length ≤ 100 →
    (∀ q3, E.nx [some (.d (.list (dI p))), p1, some (.d (.list (dI (raisedL p (m + xs.length))))), q3] κ) →
    forL ok (wName 3) wb_raised E xs [some (.d (.list (dI p))), p1, some (.d (.list (dI (raisedL p m)))), q3] κ
  | [], m, q3, _, k => k q3
  | x :: xs, m, q3, hl, k => by
    rw [forL_cons]
    simp only [List.length_cons] at hl k
    simp [wb_raised]
    refine ⟨_, _, rfl, by rw [raisedL_len p hp]; omega, by omega, by rw [raisedL_len p hp]; omega, sp, ?_⟩
    refine ⟨hok, raised_loop hok hp sp xs (m + 1) _ (by omega) fun q3 => ?_⟩
    have := k q3
    rwa [show m + (xs.length + 1) = m + 1 + xs.length by omega] at this
theorem r_raised (rs : List R) (Pd : R → Prop) (h : Ph_raised rs Pd) (hl : rs.length = 2) : w_raised { nx := fun _ _ => Pd (.d .none), rt := fun r κ => Opt (outR κ 0 r) Pd } (rs.map some ++ List.replicate 2 none) [] := by
  obtain ⟨p, n, rfl, hp, hn, sp, k⟩ := h
  simp [w_raised, sizeLine_eq]
  have e0 : ([PyData.int 1] : List PyData) = dI (raisedL p 0) := rfl
  rw [e0]
  refine ⟨by omega, ?_⟩
  refine raised_loop (ok := fun _ => True) (m := 0) trivial hp sp _ none ?_ fun q3 => ?_
  · simp; omega
  · simp
    exact k

/-! ### pairs -/
def Ph_pair_sets (rs : List R) (P : R → Prop) : Prop := ∃ r : Nat, rs = [.d (.int r)] ∧ r ≤ 12 ∧ P (.f (dI (pairSets r)))
def wb_pairs : DTS := (wSeq (wDrop (wAppend (wVar 1) (wBin fdivD (wBin fdivD (wBin mulD (wBin mulD (wBin ixD (wVar 1) (wUn negD (wC (.int 1)))) (wVar 2)) (wBin subD (wVar 2) (wC (.int 1)))) (wC (.int 2))) (wCB lenD (wCons (wVar 1) wNil)))))
  (wAug 2 (fun i j => i - j) (wC (.int 2))))
/-- pair_sets -/
def w_pair_sets : DTS := (wSeq (wPar 1 2 (wConsM true (wLst (wCons (wC (.int 1)) wNil)) (wConsM false (wVar 0) wNil)))
  (wSeq (wWhile (wB (wBin (ciD gtI) (wVar 2) (wC (.int 1)))) wb_pairs)
  (wRet (wVar 1))))
theorem dI_snoc (fs : List Int) (x : Int) : dI (fs ++ [x]) = dI fs ++ [.int x] := by unfold dI; rw [List.map_append]; rfl
theorem pairs_body {E : DEnds} {p0 : Option R} {fs : List Int} {l : Int} (h0 : fs ≠ []) (h1 : fs.length ≤ 1000) (h2 : 0 ≤ l) (h3 : l ≤ 12)
    (k : E.nx [p0, some (.c 0), some (.d (.int (l - 2)))] [.l (dI (fs ++ [fs.getLastD 0 * l * (l - 1) / 2 / (fs.length : Int)]))]) : wb_pairs E [p0, some (.c 0), some (.d (.int l))] [.l (dI fs)] := by
  have hpos : 0 < fs.length := List.length_pos_iff.mpr h0
  have ei : ixD (.list (dI fs)) (.int (-1)) = some (.v (.int (fs.getLastD 0))) := by
    refine ixD_list ?_
    obtain ⟨x, e⟩ : ∃ x, fs = fs.dropLast ++ [x] := ⟨fs.getLast h0, (List.dropLast_concat_getLast h0).symm⟩
    rw [e, dI_snoc]
    rw [L2.atI_last]
    simp
  have c1 : CMul (fs.getLastD 0) l := .inr ⟨by omega, by omega⟩
  have c2 : CMul (fs.getLastD 0 * l) (l - 1) := .inr ⟨by omega, by omega⟩
  rw [dI_snoc] at k
  generalize fs.getLastD 0 = x at ei c1 c2 k
  have f1 := fdivD_int (i := x * l * (l - 1)) (j := 2) (by decide) (by decide)
  have f2 := fdivD_int (i := x * l * (l - 1) / 2) (j := (fs.length : Int)) (by omega) (by omega)
  simp [wb_pairs, ei, mulD_int c1, mulD_int c2, f1, f2, dI_len]
  exact ⟨by rw [sizeLine_eq]; omega, k⟩
theorem pairs_loop {E : DEnds} {p0 : Option R} : ∀ (n : Nat) (fs : List Int) (l : Int), fs ≠ [] → fs.length + n ≤ 1000 → 0 ≤ l → l ≤ 12 → l ≤ 2 * n →
    (∀ q2, E.nx [p0, some (.c 0), q2] [.l (dI (psF n fs l))]) →
    whileN (wB (wBin (ciD gtI) (wVar 2) (wC (.int 1)))) wb_pairs E (n + 1) [p0, some (.c 0), some (.d (.int l))] [.l (dI fs)]
  | 0, fs, l, h0, h1, h2, h3, h4, k => by
    unfold whileN
    have hd : gtI l 1 = false := decide_eq_false (by omega)
    simp [hd]
    exact k _
  | n + 1, fs, l, h0, h1, h2, h3, h4, k => by
    rw [whileN]
    by_cases hc : 1 < l
    · have hd : gtI l 1 = true := decide_eq_true hc
      rw [psF, if_pos hc] at k
      simp [hd]
      exact pairs_body h0 (by omega) h2 h3 (pairs_loop n _ (l - 2) (by simp) (by simp; omega) (by omega) (by omega) (by omega) k)
    · have hd : gtI l 1 = false := decide_eq_false hc
      rw [psF, if_neg hc] at k
      simp [hd]
      exact k _
theorem r_pair_sets (rs : List R) (Pd : R → Prop) (h : Ph_pair_sets rs Pd) (hl : rs.length = 1) : w_pair_sets { nx := fun _ _ => Pd (.d .none), rt := fun r κ => Opt (outR κ 0 r) Pd } (rs.map some ++ List.replicate 2 none) [] := by
  obtain ⟨r, rfl, hr, k⟩ := h
  simp [w_pair_sets, sizeLine_eq]
  refine ⟨8, ?_⟩
  refine pairs_loop 7 [1] r (by simp) (by decide) (by omega) (by omega) (by omega) fun q2 => ?_
  simp [outR]
  exact k
end K77
namespace K77
open PySem PySem.Spec PyProof.Rows L2 DL SH
def Ph_many_webs (rs : List R) (P : R → Prop) : Prop := ∃ r h : Nat, rs = [.d (.int r), .d (.int h)] ∧ r ≤ 12 ∧ h ≤ 1000 ∧ P (.d (.int (manyWebs r h)))
def wb1 : DTS := (wSeq (wSet false 8 (wCall Ph_times (wCons (wCall Ph_raised (wCons (wLst (wCons (wC (.int 0)) (wCons (wUn negD (wC (.int 2))) wNil))) (wCons (wVar 6) wNil))) (wCons (wCall Ph_raised (wCons (wLst (wCons (wC (.int 1)) (wCons (wC (.int 1)) wNil))) (wCons (wBin subD (wVar 3) (wVar 6)) wNil))) wNil))))
  (wSet false 5 (wLc (wZip (wCons (wVar 5) (wCons (wVar 8) wNil))) (wTupG 2 (wgCons (wName 10) (wgCons (wName 12) wgNil))) wYes (wBin addD (wVar 10) (wBin mulD (wVar 7) (wVar 12))) [10, 12])))
def wj : DTS := (wAug 10 (fun i j => i - j) (wBin mulD (wBin ixD (wVar 5) (wVar 11)) (wBin ixD (wVar 9) (wBin subD (wVar 6) (wVar 11)))))
def wb2 : DTS := (wSeq (wSet false 10 (wIf (wB (wBin (ciD leI) (wVar 6) (wVar 3))) (wBin ixD (wVar 4) (wVar 6)) (wC (.int 0))))
  (wSeq (wFor (wRng2 (wCons (wC (.int 1)) (wCons (wBin addD (wCB min2D (wCons (wVar 6) (wCons (wVar 3) wNil))) (wC (.int 1))) wNil))) (wName 11) wj)
  (wDrop (wAppend (wVar 9) (wVar 10)))))
/-- many_webs -/
def w_many_webs : DTS := (wSeq (wSet false 2 (wCall Ph_pair_sets (wCons (wVar 0) wNil)))
  (wSeq (wSet false 3 (wBin subD (wCB lenD (wCons (wVar 2) wNil)) (wC (.int 1))))
  (wSeq (wPar 4 5 (wConsM false (wCall Ph_raised (wCons (wLst (wCons (wC (.int 1)) (wCons (wC (.int 1)) wNil))) (wCons (wVar 3) wNil))) (wConsM false (wBin mulD (wLst (wCons (wC (.int 0)) wNil)) (wBin addD (wVar 3) (wC (.int 1)))) wNil)))
  (wSeq (wFor (wEnum (wCons (wVar 2) wNil)) (wTupG 2 (wgCons (wName 6) (wgCons (wName 7) wgNil))) wb1)
  (wSeq (wSet true 9 (wLst wNil))
  (wSeq (wFor (wRng1 (wCons (wBin addD (wVar 1) (wC (.int 1))) wNil)) (wName 6) wb2)
  (wRet (wBin ixD (wVar 9) (wVar 1)))))))))
theorem sm_all {l : List Int} (h : l.all small = true) : Sm l := fun x hx => by
  have := List.all_eq_true.mp h x hx
  unfold small at this
  rw [Bool.and_eq_true] at this
  exact ⟨of_decide_eq_true this.1, of_decide_eq_true this.2⟩
theorem ones_small : ∀ k ∈ List.range 8, (raisedL [1, 1] k).all small = true := by decide +kernel
theorem sm11 : Sm [1, 1] := sm_all (by decide)
theorem sm02 : Sm [0, -2] := sm_all (by decide)
theorem zip_dI : ∀ a b : List Int, zipD (dI a) (dI b) = (a.zip b).map fun p => .tuple [.int p.1, .int p.2]
  | [], _ => rfl
  | _ :: _, [] => rfl
  | x :: a, y :: b => by
    show PyData.tuple [.int x, .int y] :: zipD (dI a) (dI b) = _
    rw [zip_dI a b]
    rfl
theorem addM_map (m : Int) : ∀ a b : List Int, dI (addM m a b) = (a.zip b).map fun p => .int (p.1 + m * p.2)
  | [], _ => rfl
  | _ :: _, [] => rfl
  | x :: a, y :: b => by
    show PyData.int (x + m * y) :: dI (addM m a b) = _
    rw [addM_map m a b]
    rfl
theorem body1 {E : DEnds} {p0 p1 p2 p4 p8 p9 p10 p11 p12 : Option R} {top s : Nat} {m : Int} {acc : List Int} (ht : top ≤ 6) (hs : s ≤ top) (hm : -(2 ^ 64) < m ∧ m < 2 ^ 64) (hl : acc.length ≤ 1000)
    (k : ∀ p8, E.nx [p0, p1, p2, some (.d (.int top)), p4, some (.d (.list (dI (addM m acc (timesL (raisedL [0, -2] s) (raisedL [1, 1] (top - s))))))), some (.d (.int s)), some (.d (.int m)), p8, p9, p10, p11, p12] []) :
    wb1 E [p0, p1, p2, some (.d (.int top)), p4, some (.d (.list (dI acc))), some (.d (.int s)), some (.d (.int m)), p8, p9, p10, p11, p12] [] := by
  have e : ((top : Int) - (s : Int)) = ((top - s : Nat) : Int) := by omega
  have l1 : (raisedL [0, -2] s).length = s + 1 := raisedL_len _ rfl s
  have l2 : (raisedL [1, 1] (top - s)).length = top - s + 1 := raisedL_len _ rfl _
  have s2 : Sm (raisedL [1, 1] (top - s)) := sm_all (ones_small _ (List.mem_range.mpr (by omega)))
  generalize hA : raisedL [0, -2] s = A at k l1
  generalize hB : raisedL [1, 1] (top - s) = B at k l2 s2
  simp [wb1, sizeLine_eq, e]
  refine ⟨[0, -2], s, rfl, rfl, by omega, sm02, ?_⟩
  simp [sizeLine_eq]
  refine ⟨[1, 1], top - s, rfl, rfl, by omega, sm11, ?_⟩
  simp
  rw [hA, hB]
  refine ⟨A, B, rfl, by omega, by omega, by omega, s2, ?_⟩
  generalize timesL A B = C at k
  simp
  rw [zip_dI]
  refine lc_map (fun p : Int × Int => .tuple [.int p.1, .int p.2]) (fun p => .int (p.1 + m * p.2)) (by simp) (acc.zip C) [] ?_ (fun p _ D hD => ?_) ?_
  · rw [List.length_zip, sizeLine_eq, List.length_nil]; omega
  · simp [mulD_int (i := m) (j := p.2) (.inl hm)]
    exact hD
  · rw [← addM_map]
    simp
    exact k _
theorem loop1 {ok : Kap → Prop} {E : DEnds} {p0 p1 p2 p4 p9 p10 p11 p12 : Option R} {top : Nat} (hok : ∀ κ, ok κ) (ht : top ≤ 6) : ∀ (ms : List Int) (s : Nat) (acc : List Int) (p6 p7 p8 : Option R), s + ms.length = top + 1 → Sm ms → acc.length ≤ 1000 →
    (∀ p6 p7 p8, E.nx [p0, p1, p2, some (.d (.int top)), p4, some (.d (.list (dI (benF top s ms acc)))), p6, p7, p8, p9, p10, p11, p12] []) →
    forL ok (wTupG 2 (wgCons (wName 6) (wgCons (wName 7) wgNil))) wb1 E (enumD s (dI ms)) [p0, p1, p2, some (.d (.int top)), p4, some (.d (.list (dI acc))), p6, p7, p8, p9, p10, p11, p12] []
  | [], s, acc, p6, p7, p8, _, _, _, k => k p6 p7 p8
  | m :: ms, s, acc, p6, p7, p8, hs, hm, hl, k => by
    show forL _ _ _ _ (.tuple [.int s, .int m] :: enumD (s + 1) (dI ms)) _ _
    rw [forL_cons, s_tupG]
    refine ⟨rfl, ?_⟩
    simp only [List.length_cons] at hs
    refine body1 ht (by omega) (hm m (List.mem_cons_self ..)) hl fun p8 => ⟨hok _, ?_⟩
    refine loop1 hok ht ms (s + 1) _ _ _ _ (by omega) (fun x hx => hm x (List.mem_cons_of_mem _ hx)) ?_ k
    unfold addM
    rw [List.length_zipWith]
    omega
theorem s_rng2 {wr : DTA} {ρ : Rho} {κ : Kap} (P : List PyData → (Kap → Prop) → Kap → Prop) : wRng2 wr ρ κ P = wr ρ κ fun rs κ1 => match rs with
  | [.d (.int m), .d (.int n)] => (-(2 ^ 62) ≤ m ∧ m < 2 ^ 62 ∧ -(2 ^ 62) ≤ n ∧ n < 2 ^ 62) ∧ P ((List.range (n - m).toNat).map fun (i : Nat) => .int (m + (i : Int))) (fun _ => True) κ1
  | _ => False := rfl
def offs (j : Nat) : Nat → List PyData
  | 0 => []
  | c + 1 => .int j :: offs (j + 1) c
theorem range_offs : ∀ (c j : Nat), ((List.range c).map fun (i : Nat) => PyData.int ((j : Int) + (i : Int))) = offs j c
  | 0, j => rfl
  | c + 1, j => by
    rw [List.range_succ_eq_map, List.map_cons, List.map_map, offs, ← range_offs c (j + 1)]
    rw [show ((j : Int) + ((0 : Nat) : Int)) = (j : Int) by omega]
    congr 1
    · refine List.map_congr_left fun i _ => ?_
      simp only [Function.comp_apply]
      congr 1
      simp only [Nat.succ_eq_add_one, Int.natCast_add, Int.natCast_one]
      omega
theorem loopj {ok : Kap → Prop} {E : DEnds} {p0 p1 p2 p3 p4 p7 p8 p12 : Option R} {be rev : List Int} {s : Nat} (hok : ∀ κ, ok κ) (hs : rev.length = s) (sb : Sm be) : ∀ (c j : Nat) (n : Int) (p11 : Option R), 1 ≤ j → j + c ≤ be.length → j + c ≤ s + 1 →
    (∀ p11, E.nx [p0, p1, p2, p3, p4, some (.d (.list (dI be))), some (.d (.int s)), p7, p8, some (.c 0), some (.d (.int (numR be rev c j n))), p11, p12] [.l (dI rev.reverse)]) →
    forL ok (wName 11) wj E (offs j c) [p0, p1, p2, p3, p4, some (.d (.list (dI be))), some (.d (.int s)), p7, p8, some (.c 0), some (.d (.int n)), p11, p12] [.l (dI rev.reverse)]
  | 0, j, n, p11, _, _, _, k => k p11
  | c + 1, j, n, p11, h1, h2, h3, k => by
    show forL _ _ _ _ (.int j :: offs (j + 1) c) _ _
    rw [forL_cons]
    have g1 : ixD (.list (dI be)) (.int (j : Int)) = some (.v (.int (be.getD j 0))) := ixD_list (atI_nat (get_ints (by omega)))
    have e : ((s : Int) - (j : Int)) = ((s - j : Nat) : Int) := by omega
    have g2 : ixD (.list (dI rev.reverse)) (.int ((s - j : Nat) : Int)) = some (.v (.int (rev.getD (j - 1) 0))) := by
      have hlt : s - j < rev.reverse.length := by rw [List.length_reverse]; omega
      have q := get_ints hlt
      refine ixD_list (atI_nat (q.trans ?_))
      congr 2
      rw [List.getD_eq_getElem?_getD, List.getD_eq_getElem?_getD, List.getElem?_reverse (by omega)]
      congr 2
      omega
    have hb : -(2 ^ 64) < be.getD j 0 ∧ be.getD j 0 < 2 ^ 64 := by
      rw [List.getD_eq_getElem?_getD, List.getElem?_eq_getElem (by omega)]
      exact sb _ (List.getElem_mem _)
    generalize hx : be.getD j 0 = x at g1 hb
    generalize hy : rev.getD (j - 1) 0 = y at g2
    have ek : numR be rev (c + 1) j n = numR be rev c (j + 1) (n - x * y) := by rw [numR, hx, hy]
    rw [ek] at k
    simp [wj, g1, e, g2, mulD_int (i := x) (j := y) (.inl hb)]
    exact ⟨hok _, loopj hok hs sb c (j + 1) _ _ (by omega) (by omega) (by omega) k⟩
theorem pick2 {p0 p1 p2 p5 p7 p8 p9 p10 p11 p12 : Option R} {ab : List Int} {top s : Nat} {κ : Kap} {P : R → Kap → Prop} (ha : ab.length = top + 1) (h : P (.d (.int (if s ≤ top then ab.getD s 0 else 0))) κ) :
    wIf (wB (wBin (ciD leI) (wVar 6) (wVar 3))) (wBin ixD (wVar 4) (wVar 6)) (wC (.int 0)) [p0, p1, p2, some (.d (.int top)), some (.d (.list (dI ab))), p5, some (.d (.int s)), p7, p8, p9, p10, p11, p12] κ P := by
  by_cases q : s ≤ top
  · have d : leI (s : Int) (top : Int) = true := decide_eq_true (by omega)
    rw [if_pos q] at h
    have g1 : ixD (.list (dI ab)) (.int (s : Int)) = some (.v (.int (ab.getD s 0))) := ixD_list (atI_nat (get_ints (by omega)))
    generalize ab.getD s 0 = x at g1 h
    simp [d, g1]
    exact h
  · have d : leI (s : Int) (top : Int) = false := decide_eq_false (by omega)
    rw [if_neg q] at h
    simp [d]
    exact h
theorem rest2 {E : DEnds} {p0 p1 p2 p4 p7 p8 p11 p12 : Option R} {be rev : List Int} {top s : Nat} {n : Int} (hb : be.length = top + 1) (ht : top ≤ 6) (sb : Sm be) (hs : rev.length = s) (h1 : s ≤ 2000)
    (k : ∀ p10 p11, E.nx [p0, p1, p2, some (.d (.int top)), p4, some (.d (.list (dI be))), some (.d (.int s)), p7, p8, some (.c 0), p10, p11, p12] [.l (dI (numR be rev (min s top) 1 n :: rev).reverse)]) :
    wSeq (wFor (wRng2 (wCons (wC (.int 1)) (wCons (wBin addD (wCB min2D (wCons (wVar 6) (wCons (wVar 3) wNil))) (wC (.int 1))) wNil))) (wName 11) wj) (wDrop (wAppend (wVar 9) (wVar 10))) E
      [p0, p1, p2, some (.d (.int top)), p4, some (.d (.list (dI be))), some (.d (.int s)), p7, p8, some (.c 0), some (.d (.int n)), p11, p12] [.l (dI rev.reverse)] := by
  have emin : (if (top : Int) < (s : Int) then (top : Int) else (s : Int)) = ((min s top : Nat) : Int) := by
    by_cases q : (top : Int) < (s : Int)
    · rw [if_pos q]; omega
    · rw [if_neg q]; omega
  have e2 : (((min s top : Nat) : Int) + 1 - 1).toNat = min s top := by omega
  have er := range_offs (min s top) 1
  generalize hc : min s top = c at emin e2 er k
  simp only [s_seq, s_for, s_rng2, s_cons, s_nil, s_c, s_bin, s_cb, s_var, List.getElem?_cons_succ, List.getElem?_cons_zero, st_d, val_d, vals_cons, vals_nil, Opt_some, min2D_int, out_v, gt_iff_lt, emin, addD_int, e2]
  refine ⟨⟨by omega, by omega, by omega, by omega⟩, ?_⟩
  have er' : ((List.range c).map fun (i : Nat) => PyData.int (1 + (i : Int))) = offs 1 c := er
  rw [er']
  refine loopj (fun _ => trivial) hs sb c 1 n p11 (Nat.le_refl _) (by omega) (by omega) fun p11 => ?_
  have kk := k (some (.d (.int (numR be rev c 1 n)))) p11
  rw [List.reverse_cons, dI_snoc] at kk
  generalize numR be rev c 1 n = x at kk ⊢
  simp [dI_len]
  exact ⟨by rw [sizeLine_eq]; omega, kk⟩
theorem body2 {E : DEnds} {p0 p1 p2 p7 p8 p10 p11 p12 : Option R} {ab be rev : List Int} {top s : Nat} (ht : top ≤ 6) (hb : be.length = top + 1) (ha : ab.length = top + 1) (sb : Sm be) (hs : rev.length = s) (h1 : s ≤ 2000)
    (k : ∀ p10 p11, E.nx [p0, p1, p2, some (.d (.int top)), some (.d (.list (dI ab))), some (.d (.list (dI be))), some (.d (.int s)), p7, p8, some (.c 0), p10, p11, p12] [.l (dI (numR be rev (min s top) 1 (if s ≤ top then ab.getD s 0 else 0) :: rev).reverse)]) :
    wb2 E [p0, p1, p2, some (.d (.int top)), some (.d (.list (dI ab))), some (.d (.list (dI be))), some (.d (.int s)), p7, p8, some (.c 0), p10, p11, p12] [.l (dI rev.reverse)] := by
  unfold wb2
  rw [s_seq, s_set]
  refine pick2 ha ?_
  exact rest2 hb ht sb hs h1 k
theorem foundR_len (ab be : List Int) (top : Nat) : ∀ n, (foundR ab be top n).length = n
  | 0 => rfl
  | n + 1 => by rw [foundR, List.length_cons, foundR_len ab be top n]
theorem loop2 {ok : Kap → Prop} {E : DEnds} {p0 p1 p2 p7 p8 p12 : Option R} {ab be : List Int} {top : Nat} (hok : ∀ κ, ok κ) (ht : top ≤ 6) (hb : be.length = top + 1) (ha : ab.length = top + 1) (sb : Sm be) : ∀ (c s : Nat) (p6 p10 p11 : Option R), s + c ≤ 2000 →
    (∀ p6 p10 p11, E.nx [p0, p1, p2, some (.d (.int top)), some (.d (.list (dI ab))), some (.d (.list (dI be))), p6, p7, p8, some (.c 0), p10, p11, p12] [.l (dI (foundR ab be top (s + c)).reverse)]) →
    forL ok (wName 6) wb2 E (offs s c) [p0, p1, p2, some (.d (.int top)), some (.d (.list (dI ab))), some (.d (.list (dI be))), p6, p7, p8, some (.c 0), p10, p11, p12] [.l (dI (foundR ab be top s).reverse)]
  | 0, s, p6, p10, p11, _, k => k p6 p10 p11
  | c + 1, s, p6, p10, p11, hl, k => by
    show forL _ _ _ _ (.int s :: offs (s + 1) c) _ _
    rw [forL_cons]
    refine body2 ht hb ha sb (foundR_len ab be top s) (by omega) fun p10 p11 => ⟨hok _, ?_⟩
    refine loop2 hok ht hb ha sb c (s + 1) _ _ _ (by omega) fun p6 p10 p11 => ?_
    have := k p6 p10 p11
    rwa [show s + (c + 1) = s + 1 + c by omega] at this
end K77
namespace K77
open PySem PySem.Spec PyProof.Rows L2 DL SH
theorem found_top (ab be : List Int) (top h : Nat) : (foundR ab be top (h + 1)).reverse.getD h 0 = (foundR ab be top (h + 1)).headD 0 := by
  have e := foundR_len ab be top (h + 1)
  generalize foundR ab be top (h + 1) = l at e ⊢
  match l, e with
  | x :: xs, e =>
    simp at e
    subst e
    simp
theorem r_many_webs (rs : List R) (Pd : R → Prop) (h : Ph_many_webs rs Pd) (hl : rs.length = 2) : w_many_webs { nx := fun _ _ => Pd (.d .none), rt := fun r κ => Opt (outR κ 0 r) Pd } (rs.map some ++ List.replicate 11 none) [] := by
  obtain ⟨r, h, rfl, hr, hh, k⟩ := h
  clear hl
  obtain ⟨_, q2, q3, q4, q5, q6⟩ := ben_own r (List.mem_range.mpr (by omega))
  have sb := sm_all q2
  have sl := sm_all q4
  have eb : ben r = benF (r / 2) 0 (pairSets r) (List.replicate (r / 2 + 1) 0) := by unfold ben; rw [q3]; rfl
  have ea : abv r = raisedL [1, 1] (r / 2) := by unfold abv; rw [q3]; rfl
  have em : manyWebs r h = (foundR (abv r) (ben r) (r / 2) (h + 1)).headD 0 := by unfold manyWebs found; rw [q3]; rfl
  have top6 : r / 2 ≤ 6 := by omega
  rw [em] at k
  generalize ht : r / 2 = top at *
  generalize hL : pairSets r = L at *
  generalize hB : ben r = be at *
  generalize hA : abv r = ab at *
  unfold w_many_webs
  rw [s_seq, s_set]
  refine ⟨r, rfl, hr, ?_⟩
  rw [hL]
  simp [dI_len, q3]
  refine ⟨by rw [sizeLine_eq]; decide, ?_⟩
  refine ⟨[1, 1], top, rfl, rfl, by omega, sm11, ?_⟩
  rw [← ea]
  refine ⟨by rw [sizeLine_eq]; decide, ?_⟩
  have et : ((top : Int) + 1) = ((top + 1 : Nat) : Int) := by omega
  have e3 := mulD_rep (n := top + 1) (by omega)
  rw [et, e3]
  simp
  refine loop1 (fun _ => trivial) top6 L 0 _ _ _ _ (by omega) sl (by rw [List.length_replicate]; omega) fun p6 p7 p8 => ?_
  rw [← eb]
  simp [sizeLine_eq]
  refine ⟨by omega, by omega, ?_⟩
  have er := range_offs (h + 1) 0
  have e5 : ((h : Int) + 1).toNat = h + 1 := by omega
  have er' : ((List.range (h + 1)).map fun (i : Nat) => PyData.int (i : Int)) = offs 0 (h + 1) := by
    rw [← er]
    refine List.map_congr_left fun i _ => ?_
    congr 1
    omega
  rw [er']
  have e6 : ([] : List PyData) = dI (foundR ab be top 0).reverse := rfl
  rw [e6]
  refine loop2 (fun _ => trivial) top6 q5 q6 sb (h + 1) 0 _ _ _ (by omega) fun p6 p10 p11 => ?_
  have e7 : 0 + (h + 1) = h + 1 := by omega
  rw [e7]
  have g : ixD (.list (dI (foundR ab be top (h + 1)).reverse)) (.int (h : Int)) = some (.v (.int ((foundR ab be top (h + 1)).headD 0))) := by
    refine ixD_list (atI_nat ?_)
    rw [get_ints (by rw [List.length_reverse, foundR_len]; omega), found_top]
  generalize (foundR ab be top (h + 1)).headD 0 = z at g k
  generalize dI (foundR ab be top (h + 1)).reverse = zs at g
  simp [g]
  exact k
/-! ### the law's own count of pairings -/
def Ph_law_lots_ofN (n : Nat) (rs : List R) (P : R → Prop) : Prop := ∃ (r : Int) (p : Nat), rs = [.d (.int r), .d (.int p)] ∧ 0 ≤ r ∧ r < n ∧ r ≤ 64 ∧ P (.d (.int (lotsOf n r.toNat p)))
theorem n_law_lots_of {rs : List R} {P : R → Prop} (h : Ph_law_lots_ofN 0 rs P) : False := by
  obtain ⟨r, p, _, h1, h2, _, _⟩ := h
  omega
/-- _law_lots_of -/
def w_law_lots_of (Ph_law_lots_of : List R → (R → Prop) → Prop) : DTS := (wSeq (wIfS (wB (wBin (eqD false) (wVar 1) (wC (.int 0)))) (wRet (wC (.int 1))) wNext)
  (wSeq (wIfS (wB (wBin (ordD ltI ltS) (wVar 0) (wC (.int 2)))) (wRet (wC (.int 0))) wNext)
  (wRet (wBin addD (wCall Ph_law_lots_of (wCons (wBin subD (wVar 0) (wC (.int 1))) (wCons (wVar 1) wNil))) (wBin mulD (wBin subD (wVar 0) (wC (.int 1))) (wCall Ph_law_lots_of (wCons (wBin subD (wVar 0) (wC (.int 2))) (wCons (wBin subD (wVar 1) (wC (.int 1))) wNil))))))))
theorem eqD_int2 (neg : Bool) (i j : Int) : eqD neg (.int i) (.int j) = some (.v (.bool (if neg then !decide (i = j) else decide (i = j)))) := by
  rw [eqD_of (by unfold SeqAt.shaped PyData.canLay0; simp [PyData.depth]) (by unfold SeqAt.shaped PyData.canLay0; simp [PyData.depth])]
  have e : PyData.eqv (.int i) (.int j) = decide (i = j) := by
    rw [PyData.eqv]
    by_cases q : i = j <;> simp [q]
  rw [e]
theorem r_law_lots_of (n : Nat) (rs : List R) (Pd : R → Prop) (h : Ph_law_lots_ofN (n + 1) rs Pd) (hl : rs.length = 2) : w_law_lots_of (Ph_law_lots_ofN n) { nx := fun _ _ => Pd (.d .none), rt := fun r κ => Opt (outR κ 0 r) Pd } (rs.map some ++ List.replicate 0 none) [] := by
  obtain ⟨r, p, rfl, h0, h1, h64, k⟩ := h
  clear hl
  rw [lotsOf] at k
  by_cases hp : p = 0
  · subst hp
    rw [if_pos rfl] at k
    simp [w_law_lots_of, eqD_int2]
    exact k
  · rw [if_neg hp] at k
    by_cases hr : r.toNat < 2
    · rw [if_pos hr] at k
      have d : ltI r 2 = true := decide_eq_true (by omega)
      simp [w_law_lots_of, eqD_int2, hp, d]
      exact k
    · rw [if_neg hr] at k
      have d : ltI r 2 = false := decide_eq_false (by omega)
      simp [w_law_lots_of, eqD_int2, hp, d]
      refine ⟨r - 1, p, rfl, by omega, by omega, by omega, ?_⟩
      simp
      have ep : ((p : Int) - 1) = ((p - 1 : Nat) : Int) := by omega
      refine ⟨r - 2, p - 1, by rw [ep], by omega, by omega, by omega, ?_⟩
      have t1 : (r - 1).toNat = r.toNat - 1 := by omega
      have t2 : (r - 2).toNat = r.toNat - 2 := by omega
      have t3 : ((r.toNat : Nat) : Int) - 1 = r - 1 := by omega
      rw [t2]
      rw [t3] at k
      generalize lotsOf n (r.toNat - 1) p = x at k ⊢
      generalize lotsOf n (r.toNat - 2) (p - 1) = y at k ⊢
      simp [mulD_int (i := r - 1) (j := y) (.inl ⟨by omega, by omega⟩)]
      exact k
end K77
namespace K77
open PySem PySem.Spec PyProof.Rows L2 DL SH
theorem shaped_dI (l : List Int) : SeqAt.shaped (.list (dI l)) = true := by
  unfold SeqAt.shaped PyData.canLay0
  rw [Bool.and_eq_true]
  have a1 : PyData.canLayAll0 (dI l) = true ∧ PyData.depthAll (dI l) = 0 := by
    induction l with
    | nil => exact ⟨by simp [dI, PyData.canLayAll0], by simp [dI, PyData.depthAll]⟩
    | cons z ns ih =>
      obtain ⟨h1, h2⟩ := ih
      have e : dI (z :: ns) = .int z :: dI ns := rfl
      rw [e]
      exact ⟨by rw [PyData.canLayAll0, h1]; simp [PyData.canLay0], by rw [PyData.depthAll, h2]; simp [PyData.depth]⟩
  exact ⟨a1.1, by rw [PyData.depth, a1.2]; decide⟩
theorem eqv_dI : ∀ l : List Int, PyData.eqvAll (dI l) (dI l) = true
  | [] => by simp [dI, PyData.eqvAll]
  | z :: ns => by
    have e : dI (z :: ns) = .int z :: dI ns := rfl
    rw [e, PyData.eqvAll, eqv_dI ns, PyData.eqv]
    simp
theorem eqD_dI (neg : Bool) (l : List Int) : eqD neg (.list (dI l)) (.list (dI l)) = some (.v (.bool (!neg))) := by
  rw [eqD_of (shaped_dI l) (shaped_dI l), PyData.eqv, eqv_dI]
  cases neg <;> rfl
theorem cut_to {α : Type} (xs : List α) (m : Nat) : cut xs none (some (m : Int)) = xs.take m := by
  unfold cut
  rw [show HT.sIx xs.length xs.length (some (m : Int)) = min m xs.length from HT.sIx_nat _ _ m, HT.sIx_none, List.drop_zero, Nat.sub_zero]
  rcases Nat.le_total m xs.length with h | h
  · rw [Nat.min_eq_left h]
  · rw [Nat.min_eq_right h, List.take_of_length_le (Nat.le_refl _), List.take_of_length_le h]
theorem take_dI (l : List Int) (m : Nat) : (dI l).take m = dI (l.take m) := by unfold dI; rw [List.map_take]
theorem found_own (r : Nat) : ∀ m, (List.range m).map (manyWebs r) = (found r m).reverse
  | 0 => rfl
  | m + 1 => by
    rw [List.range_succ, List.map_append, found_own r m]
    have e : found r (m + 1) = manyWebs r m :: found r m := by
      unfold manyWebs found
      rw [foundR]
      rfl
    rw [e, List.reverse_cons]
    rfl
/-! ### the law's own parts -/
abbrev Ph_law_lots_of := Ph_law_lots_ofN 20
def Ph_law_right (bs : List PyData) (rs : List R) (P : R → List PyData → Prop) : Prop := ∃ N : Int, Box N bs ∧ N ≤ 2 ^ 38 ∧ rs = [] ∧ ∀ bs', Box (N + 3) bs' → P (.d (.bool true)) bs'
def wb_part : DTS := (wSet false 8 (wCall Ph_law_product (wCons (wVar 8) (wCons (wIf (wB (wBin (ordD ltI ltS) (wVar 9) (wVar 7))) (wLst (wCons (wC (.int 0)) (wCons (wUn negD (wC (.int 2))) wNil))) (wLst (wCons (wC (.int 1)) (wCons (wC (.int 1)) wNil)))) wNil))))
def wb_pairs7 : DTS := (wSeq (wSet false 8 (wLst (wCons (wCall Ph_law_lots_of (wCons (wVar 1) (wCons (wVar 7) wNil))) wNil)))
  (wSeq (wFor (wRng1 (wCons (wVar 3) wNil)) (wName 9) wb_part)
  (wSet false 5 (wLc (wZip (wCons (wVar 5) (wCons (wVar 8) wNil))) (wTupG 2 (wgCons (wName 14) (wgCons (wName 15) wgNil))) wYes (wBin addD (wVar 14) (wVar 15)) [14, 15]))))
def wb_above : DTS := (wSet false 6 (wCall Ph_law_product (wCons (wVar 6) (wCons (wLst (wCons (wC (.int 1)) (wCons (wC (.int 1)) wNil))) wNil))))
theorem part_loop {ok : Kap → Prop} {E : DEnds} {p0 p1 p2 p3 p4 p5 p6 p10 p11 p12 p13 p14 p15 : Option R} {top p : Nat} {κ : Kap} (hok : ok κ) (ht : top ≤ 6) : ∀ (c t : Nat) (x : List Int) (p9 : Option R), t + c = top → x.length = t + 1 →
    (∀ p9, E.nx [p0, p1, p2, p3, p4, p5, p6, some (.d (.int p)), some (.d (.list (dI (partF top p c x)))), p9, p10, p11, p12, p13, p14, p15] κ) →
    forL ok (wName 9) wb_part E (offs t c) [p0, p1, p2, p3, p4, p5, p6, some (.d (.int p)), some (.d (.list (dI x))), p9, p10, p11, p12, p13, p14, p15] κ
  | 0, t, x, p9, _, _, k => k p9
  | c + 1, t, x, p9, hc, hx, k => by
    show forL _ _ _ _ (.int t :: offs (t + 1) c) _ _
    rw [forL_cons]
    have et : top - (c + 1) = t := by omega
    have ek : partF top p (c + 1) x = partF top p c (timesL x (if t < p then [0, -2] else [1, 1])) := by rw [partF, et]
    rw [ek] at k
    by_cases q : t < p
    · rw [if_pos q] at k
      have d : ltI (t : Int) (p : Int) = true := decide_eq_true (by omega)
      simp [wb_part, d, sizeLine_eq]
      refine ⟨x, [0, -2], rfl, by omega, by simp, by simp; omega, sm02, ?_⟩
      refine ⟨hok, part_loop hok ht c (t + 1) _ _ (by omega) ?_ k⟩
      rw [timesL_len, hx]; simp
    · rw [if_neg q] at k
      have d : ltI (t : Int) (p : Int) = false := decide_eq_false (by omega)
      simp [wb_part, d, sizeLine_eq]
      refine ⟨x, [1, 1], rfl, by omega, by simp, by simp; omega, sm11, ?_⟩
      refine ⟨hok, part_loop hok ht c (t + 1) _ _ (by omega) ?_ k⟩
      rw [timesL_len, hx]; simp
theorem partF_len {top p : Nat} : ∀ (c : Nat) (x : List Int), (partF top p c x).length = x.length + c
  | 0, x => rfl
  | c + 1, x => by
    rw [partF, partF_len c, timesL_len]
    split <;> simp <;> omega
theorem zipA_map : ∀ a b : List Int, dI (List.zipWith (fun a b => a + b) a b) = (a.zip b).map fun p => .int (p.1 + p.2)
  | [], _ => rfl
  | _ :: _, [] => rfl
  | x :: a, y :: b => by
    show PyData.int (x + y) :: dI (List.zipWith (fun a b => a + b) a b) = _
    rw [zipA_map a b]
    rfl
theorem pairs7_loop {ok : Kap → Prop} {E : DEnds} {p0 p2 p4 p6 p10 p11 p12 p13 p14 p15 : Option R} {top r : Nat} {κ : Kap} (hok : ok κ) (ht : top ≤ 6) (hr : r ≤ 12) : ∀ (c p : Nat) (acc : List Int) (p7 p8 p9 : Option R), p + c = top + 1 → acc.length ≤ 1000 →
    (∀ p7 p8 p9, E.nx [p0, some (.d (.int r)), p2, some (.d (.int top)), p4, some (.d (.list (dI (ownBen r top c acc)))), p6, p7, p8, p9, p10, p11, p12, p13, p14, p15] κ) →
    forL ok (wName 7) wb_pairs7 E (offs p c) [p0, some (.d (.int r)), p2, some (.d (.int top)), p4, some (.d (.list (dI acc))), p6, p7, p8, p9, p10, p11, p12, p13, p14, p15] κ
  | 0, p, acc, p7, p8, p9, _, _, k => k p7 p8 p9
  | c + 1, p, acc, p7, p8, p9, hc, hl, k => by
    show forL _ _ _ _ (.int p :: offs (p + 1) c) _ _
    rw [forL_cons]
    have ep : top - c = p := by omega
    have ek : ownBen r top (c + 1) acc = ownBen r top c (List.zipWith (fun a b => a + b) acc (partF top p top [lotsOf 20 r p])) := by rw [ownBen, ep]
    rw [ek] at k
    have er : ((List.range top).map fun (i : Nat) => PyData.int (i : Int)) = offs 0 top := by
      rw [← range_offs top 0]
      refine List.map_congr_left fun i _ => ?_
      congr 1
      omega
    simp [wb_pairs7]
    refine ⟨r, p, rfl, by omega, by omega, by omega, ?_⟩
    generalize hz : lotsOf 20 r p = z at k
    simp [hz, sizeLine_eq]
    refine ⟨by omega, ?_⟩
    rw [er]
    have e1 : [PyData.int z] = dI [z] := rfl
    rw [e1]
    refine part_loop trivial ht top 0 [z] _ (by omega) rfl fun p9 => ?_
    generalize partF top p top [z] = y at k
    simp
    rw [zip_dI]
    refine lc_map (fun p : Int × Int => .tuple [.int p.1, .int p.2]) (fun p => .int (p.1 + p.2)) (by simp) (acc.zip y) [] ?_ (fun p _ D hD => ?_) ?_
    · rw [List.length_zip, sizeLine_eq, List.length_nil]; omega
    · simp
      exact hD
    · rw [← zipA_map]
      simp
      refine ⟨hok, pairs7_loop hok ht hr c (p + 1) _ _ _ _ (by omega) ?_ k⟩
      rw [List.length_zipWith]; omega
theorem above_loop {ok : Kap → Prop} {E : DEnds} {p0 p1 p2 p3 p4 p5 p7 p8 p10 p11 p12 p13 p14 p15 : Option R} {κ : Kap} (hok : ok κ) : ∀ (xs : List PyData) (m : Nat) (p9 : Option R), m + xs.length ≤ 100 →
    (∀ p9, E.nx [p0, p1, p2, p3, p4, p5, some (.d (.list (dI (raisedL [1, 1] (m + xs.length))))), p7, p8, p9, p10, p11, p12, p13, p14, p15] κ) →
    forL ok (wName 9) wb_above E xs [p0, p1, p2, p3, p4, p5, some (.d (.list (dI (raisedL [1, 1] m)))), p7, p8, p9, p10, p11, p12, p13, p14, p15] κ
  | [], m, p9, _, k => k p9
  | x :: xs, m, p9, hl, k => by
    rw [forL_cons]
    simp only [List.length_cons] at hl k
    have l1 := raisedL_len [1, 1] rfl m
    have hs : raisedL [1, 1] (m + 1) = timesL (raisedL [1, 1] m) [1, 1] := rfl
    simp [wb_above, sizeLine_eq]
    refine ⟨raisedL [1, 1] m, [1, 1], rfl, by omega, by simp, by simp; omega, sm11, ?_⟩
    rw [← hs]
    refine ⟨hok, above_loop hok xs (m + 1) _ (by omega) fun p9 => ?_⟩
    have := k p9
    rwa [show m + (xs.length + 1) = m + 1 + xs.length by omega] at this
end K77
namespace K77
open PySem PySem.Spec PyProof.Rows L2 DL SH
/-- the end of _law_right -/
def wt_right : DTS := (wSeq (wSet false 10 (wSl (wCall Ph_law_product (wCons (wVar 4) (wCons (wVar 5) wNil))) wNoP (wP (wCB lenD (wCons (wVar 4) wNil)))))
  (wSeq (wIfS (wB (wBin (eqD true) (wVar 10) (wSl (wBin addD (wVar 6) (wBin mulD (wLst (wCons (wC (.int 0)) wNil)) (wCB lenD (wCons (wVar 4) wNil)))) wNoP (wP (wCB lenD (wCons (wVar 4) wNil)))))) (wRet (wC (.bool false))) wNext)
  (wSeq (wPar 11 12 (wConsM false (wCall Ph_many_webs (wCons (wVar 1) (wCons (wBin subD (wVar 2) (wC (.int 1))) wNil))) (wConsM false (wCall Ph_many_webs (wCons (wBin addD (wVar 1) (wCB intC (wCons (wBin (ordD ltI ltS) (wVar 1) (wC (.int 12))) wNil))) (wCons (wBin subD (wVar 2) (wC (.int 1))) wNil))) wNil)))
  (wRet (wAndV (wIsi .int (wVar 11)) (wAndV (wNotV (wIsi .bool (wVar 11))) (wBin (ciD leI) (wVar 11) (wVar 12))))))))
/-- _law_right -/
def w_law_right : DTS := (wSeq (wPar 1 2 (wConsM false (wCallL Ph_law_take (wCons (wVar 0) (wCons (wC (.int 13)) wNil))) (wConsM false (wBin addD (wC (.int 1)) (wCallL Ph_law_take (wCons (wVar 0) (wCons (wBin ixD (wLst (wCons (wC (.int 20)) (wCons (wC (.int 201)) wNil))) (wCallL Ph_law_take (wCons (wVar 0) (wCons (wC (.int 2)) wNil)))) wNil)))) wNil)))
  (wSeq (wSet false 3 (wBin fdivD (wVar 1) (wC (.int 2))))
  (wSeq (wPar 4 5 (wConsM false (wLc (wRng1 (wCons (wCB min2D (wCons (wVar 2) (wCons (wC (.int 40)) wNil))) wNil)) (wName 13) wYes (wCall Ph_many_webs (wCons (wVar 1) (wCons (wVar 13) wNil))) [13]) (wConsM false (wBin mulD (wLst (wCons (wC (.int 0)) wNil)) (wBin addD (wVar 3) (wC (.int 1)))) wNil)))
  (wSeq (wSet false 6 (wLst (wCons (wC (.int 1)) wNil)))
  (wSeq (wFor (wRng1 (wCons (wBin addD (wVar 3) (wC (.int 1))) wNil)) (wName 7) wb_pairs7)
  (wSeq (wFor (wRng1 (wCons (wVar 3) wNil)) (wName 9) wb_above)
  wt_right))))))
theorem rise {r h : Nat} (hr : r ≤ 12) (hh : h ≤ 200) : manyWebs r h ≤ manyWebs (if r < 12 then r + 1 else r) h := by
  have hx := rises r (List.mem_range.mpr (by omega))
  have nth : ∀ q : Nat, (found q 201)[200 - h]? = some (manyWebs q h) := fun q => by
    have go : ∀ (k n : Nat), (found q (n + 1 + k))[k]? = some (manyWebs q n) := fun k => by
      induction k with
      | zero =>
        intro n
        unfold manyWebs found
        rw [Nat.add_zero, foundR]
        rfl
      | succ k ih =>
        intro n
        have e : found q (n + 1 + (k + 1)) = manyWebs q (n + 1 + k) :: found q (n + 1 + k) := by
          show foundR _ _ _ (n + 1 + k + 1) = _
          unfold manyWebs found
          rw [foundR]
          rfl
        rw [e, List.getElem?_cons_succ, ih n]
    have := go (200 - h) h
    rwa [show h + 1 + (200 - h) = 201 by omega] at this
  generalize (if r < 12 then r + 1 else r) = r' at hx ⊢
  have n1 := nth r
  have n2 := nth r'
  generalize found r 201 = A at hx n1
  generalize found r' 201 = B at hx n2
  have hz : (List.zipWith (fun a b => decide (a ≤ b)) A B)[200 - h]? = some (decide (manyWebs r h ≤ manyWebs r' h)) := by
    rw [List.getElem?_zipWith, n1, n2]
  have hm := List.mem_of_getElem? hz
  have := List.all_eq_true.mp hx _ hm
  exact of_decide_eq_true this
theorem tail_right {r f m : Nat} {bs : List PyData} {Pd : R → List PyData → Prop} {p0 p3 p7 p8 p9 p10 p11 p12 p13 p14 p15 : Option R} (hr : r ≤ 12) (hf1 : 1 ≤ f) (hf2 : f ≤ 201) (hm1 : 1 ≤ m) (hm2 : m ≤ 40) (k : Pd (.d (.bool true)) bs) :
    wt_right { nx := fun _ κ => endL κ (.d .none) Pd, rt := fun r κ => endL κ r Pd } [p0, some (.d (.int r)), some (.d (.int f)), p3, some (.d (.list (dI (found r m).reverse))), some (.d (.list (dI (ben r)))), some (.d (.list (dI (abv r)))), p7, p8, p9, p10, p11, p12, p13, p14, p15] [.l bs] := by
  obtain ⟨_, q2, q3, q4, q5, q6⟩ := ben_own r (List.mem_range.mpr (by omega))
  have sb := sm_all q2
  have tl := told r m (by omega) (by omega)
  have lo : ((found r m).reverse).length = m := by rw [List.length_reverse]; exact foundR_len _ _ _ m
  generalize (found r m).reverse = own at tl lo
  generalize ben r = be at *
  generalize abv r = ab at *
  have e3 := mulD_rep (n := m) (by omega)
  have hadd : addD (.list (dI ab)) (.list (dI (List.replicate m 0))) = some (.n (dI (ab ++ List.replicate m 0))) := by
    rw [addD_list (by rw [dI_len, dI_len, List.length_replicate, sizeLine_eq]; omega)]
    unfold dI
    rw [List.map_append]
  simp [wt_right]
  refine ⟨own, be, rfl, by omega, by omega, by omega, sb, ?_⟩
  generalize hC : timesL own be = C at tl
  simp [dI_len, lo, cut_to, take_dI, tl, e3, hadd, sizeLine_eq, eqD_dI]
  have ef : ((f : Int) - 1) = ((f - 1 : Nat) : Int) := by omega
  have er : ((r : Int) + if ltI (r : Int) 12 = true then 1 else 0) = (((if r < 12 then r + 1 else r) : Nat) : Int) := by
    by_cases q : r < 12
    · have d : ltI (r : Int) 12 = true := decide_eq_true (by omega)
      rw [if_pos q, if_pos d]
      omega
    · have d : ¬ ltI (r : Int) 12 = true := fun z => absurd (of_decide_eq_true z) (by omega)
      rw [if_neg q, if_neg d]
      omega
  have ri := rise hr (show f - 1 ≤ 200 by omega)
  rw [ef, er]
  refine ⟨r, f - 1, rfl, hr, by omega, ?_⟩
  have hr' : (if r < 12 then r + 1 else r) ≤ 12 := by split <;> omega
  generalize (if r < 12 then r + 1 else r) = r' at ri hr' ⊢
  refine ⟨r', f - 1, rfl, hr', by omega, ?_⟩
  have d : leI (manyWebs r (f - 1)) (manyWebs r' (f - 1)) = true := decide_eq_true ri
  generalize manyWebs r (f - 1) = x at d ⊢
  generalize manyWebs r' (f - 1) = y at d ⊢
  simp [isi, d]
  exact k
theorem r_law_right (bs : List PyData) (rs : List R) (Pd : R → List PyData → Prop) (h : Ph_law_right bs rs Pd) (hl : rs.length = 0) : w_law_right { nx := fun _ κ => endL κ (.d .none) Pd, rt := fun r κ => endL κ r Pd } (some (.c 0) :: (rs.map some ++ List.replicate 15 none)) [.l bs] := by
  obtain ⟨N, hb, hN, rfl, k⟩ := h
  clear hl
  unfold w_law_right
  rw [s_seq]
  simp only [s_par]
  simp [sizeLine_eq]
  refine ⟨N, 13, hb, by omega, rfl, by decide, by decide, fun r bs1 h0 h1 hb1 => ?_⟩
  simp
  refine ⟨N + 1, 2, hb1, by omega, rfl, by decide, by decide, fun z bs2 z0 z1 hb2 => ?_⟩
  obtain ⟨c, ec, hc⟩ : ∃ c : Int, ixD (.list [.int 20, .int 201]) (.int z) = some (.v (.int c)) ∧ (c = 20 ∨ c = 201) := by
    have : z = 0 ∨ z = 1 := by omega
    rcases this with rfl | rfl
    · exact ⟨20, rfl, .inl rfl⟩
    · exact ⟨201, rfl, .inr rfl⟩
  simp only [lab_d, st_d, val_d, Opt_some, ec]
  simp
  refine ⟨N + 1 + 1, c, hb2, by omega, rfl, by omega, by omega, fun f0 bs3 f1 f2 hb3 => ?_⟩
  simp
  obtain ⟨q, rfl⟩ : ∃ q : Nat, r = (q : Int) := ⟨r.toNat, by omega⟩
  obtain ⟨f, hf⟩ : ∃ f : Nat, 1 + f0 = (f : Int) := ⟨(1 + f0).toNat, by omega⟩
  rw [hf]
  obtain ⟨m, hm, hm1, hm2⟩ : ∃ m : Nat, (if (40 : Int) < (f : Int) then (40 : Int) else (f : Int)) = (m : Int) ∧ 1 ≤ m ∧ m ≤ 40 := by
    by_cases g : (40 : Int) < (f : Int)
    · rw [if_pos g]; exact ⟨40, rfl, by decide, by decide⟩
    · rw [if_neg g]; exact ⟨f, rfl, by omega, by omega⟩
  rw [hm]
  have hq : q ≤ 12 := by omega
  obtain ⟨b1, _, b3, _, b5, _⟩ := ben_own q (List.mem_range.mpr (by omega))
  have eabv : abv q = raisedL [1, 1] (q / 2) := by unfold abv; rw [b3]; rfl
  have e2 : fdivD (.int (q : Int)) (.int 2) = some (.v (.int ((q / 2 : Nat) : Int))) := by
    rw [fdivD_int (by decide) (by decide)]
    congr 3
  have top6 : q / 2 ≤ 6 := by omega
  generalize ht : q / 2 = top at *
  rw [e2]
  simp
  refine ⟨by omega, ?_⟩
  refine lc_map (ok := fun _ => True) (fun i : Nat => .int (i : Int)) (fun i => .int (manyWebs q i)) trivial (List.range m) [] (by rw [List.length_range, sizeLine_eq, List.length_nil]; omega) (fun i hi C hC => ?_) ?_
  · have := List.mem_range.mp hi
    simp
    exact ⟨q, i, rfl, hq, by omega, hC⟩
  have eown : (List.range m).map (fun i => PyData.int (manyWebs q i)) = dI (found q m).reverse := by
    rw [← found_own]
    unfold dI
    rw [List.map_map]
    rfl
  rw [List.nil_append, eown]
  have et : ((top : Int) + 1) = ((top + 1 : Nat) : Int) := by omega
  have e3 := mulD_rep (n := top + 1) (by omega)
  have pre : Opt (mulD (PyData.list [PyData.int 0]) (PyData.int ((top : Int) + 1))) = Opt (some (Out.n (dI (List.replicate (top + 1) 0)))) := by rw [et, e3]
  rw [pre]
  simp
  refine ⟨by omega, by omega, ?_⟩
  have ro : ∀ c : Nat, ((List.range c).map fun (i : Nat) => PyData.int (i : Int)) = offs 0 c := fun c => by
    rw [← range_offs c 0]
    refine List.map_congr_left fun i _ => ?_
    congr 1
    omega
  rw [ro]
  refine pairs7_loop trivial top6 hq (top + 1) 0 _ _ _ _ (by omega) (by rw [List.length_replicate]; omega) fun p7 p8 p9 => ?_
  rw [b1]
  simp
  refine ⟨by omega, ?_⟩
  have e6 : [PyData.int 1] = dI (raisedL [1, 1] 0) := rfl
  rw [e6]
  refine above_loop trivial _ 0 _ (by simp; omega) fun p9 => ?_
  simp
  rw [← eabv]
  exact tail_right hq (by omega) (by omega) hm1 hm2 (k _ (hb3.mono (by omega)))
end K77
namespace K77
open PySem PySem.Spec PyProof.Rows L2 DL SH
def Ph_law (rs : List R) (P : R → Prop) : Prop := ∃ ns : List Int, rs = [.s ns] ∧ P (.d (.bool true))
def wb_three : DTS := (wSeq (wIfS (wB (wBin (eqD true) (wCall Ph_many_webs (wCons (wC (.int 3)) (wCons (wVar 2) wNil))) (wVar 1))) (wRet (wC (.bool false))) wNext)
  (wSet false 1 (wBin mulD (wVar 1) (wC (.int 5)))))
def wt_law : DTS := (wSeq (wSet false 3 (wLcB (wRng1 (wCons (wBin addD (wC (.int 1)) (wCB min2D (wCons (wC (.int 3)) (wCons (wLenS (wVar 0)) wNil)))) wNil)) (wName 4) wYes (wCall Ph_law_box (wCons (wVar 0) (wCons (wVar 4) wNil))) [4]))
  (wRet (wCB (allC fun bs => bs.all id) (wCons (wLcR (wRefs (wVar 3)) (wName 5) wYes (wCallL Ph_law_right (wCons (wVar 5) wNil)) [5]) wNil))))
/-- law -/
def w_law : DTS := (wSeq (wIfS (wB (wBin (eqD true) (wLst (wCons (wCall Ph_many_webs (wCons (wC (.int 0)) (wCons (wC (.int 0)) wNil))) (wCons (wCall Ph_many_webs (wCons (wC (.int 1)) (wCons (wC (.int 0)) wNil))) (wCons (wCall Ph_many_webs (wCons (wC (.int 0)) (wCons (wC (.int 3)) wNil))) (wCons (wCall Ph_many_webs (wCons (wC (.int 1)) (wCons (wC (.int 200)) wNil))) wNil))))) (wLst (wCons (wC (.int 1)) (wCons (wC (.int 1)) (wCons (wC (.int 0)) (wCons (wC (.int 0)) wNil))))))) (wRet (wC (.bool false))) wNext)
  (wSeq (wIfS (wB (wBin (eqD true) (wLc (wSq (wTup (wCons (wC (.int 0)) (wCons (wC (.int 1)) (wCons (wC (.int 2)) (wCons (wC (.int 200)) wNil)))))) (wName 2) wYes (wCall Ph_many_webs (wCons (wC (.int 2)) (wCons (wVar 2) wNil))) [2]) (wLst (wCons (wC (.int 1)) (wCons (wC (.int 2)) (wCons (wC (.int 2)) (wCons (wC (.int 2)) wNil))))))) (wRet (wC (.bool false))) wNext)
  (wSeq (wSet false 1 (wC (.int 6)))
  (wSeq (wFor (wRng2 (wCons (wC (.int 1)) (wCons (wC (.int 60)) wNil))) (wName 2) wb_three)
  wt_law))))
def AllB (N : Int) (κ : Kap) : Prop := ∀ c ∈ κ, ∃ bs, c = Cell.l bs ∧ Box N bs
theorem AllB.mono {N M : Int} {κ : Kap} (h : AllB N κ) (l : N ≤ M) : AllB M κ := fun c hc => by
  obtain ⟨bs, e, hb⟩ := h c hc
  exact ⟨bs, e, hb.mono l⟩
theorem boxes_made {ns : List Int} {p1 p2 p3 p5 : Option R} {P : R → Kap → Prop} : ∀ (xs : List Nat) (ks : List Nat) (κ : Kap), (∀ i ∈ xs, i ≤ 1000) → ks.length + xs.length ≤ 1000 → AllB 0 κ → (∀ k ∈ ks, k < κ.length) →
    (∀ ks' κ', AllB 0 κ' → (∀ k ∈ ks', k < κ'.length) → ks'.length ≤ 1000 → P (.b ks') κ') →
    lcB (fun _ => True) (wName 4) wYes (wCall Ph_law_box (wCons (wVar 0) (wCons (wVar 4) wNil))) [some (.s ns), p1, p2, p3, none, p5] P (xs.map fun (i : Nat) => .int (i : Int)) ks κ
  | [], ks, κ, _, hl, ha, hk, k => k ks κ ha hk (by simpa using hl)
  | x :: xs, ks, κ, hx, hl, ha, hk, k => by
    rw [List.map_cons]
    unfold lcB
    simp only [List.length_cons] at hl
    simp
    refine ⟨ns, x, rfl, by omega, ?_, fun bs hb => ?_⟩
    · have := hx x (List.mem_cons_self ..)
      omega
    refine ⟨by rw [sizeLine_eq]; omega, ?_⟩
    refine boxes_made xs _ _ (fun i hi => hx i (List.mem_cons_of_mem _ hi)) (by simp; omega) (fun c hc => ?_) (fun i hi => ?_) k
    · rcases List.mem_append.mp hc with hc | hc
      · exact ha c hc
      · exact ⟨bs, List.mem_singleton.mp hc, hb⟩
    · rw [List.length_append, List.length_singleton]
      rcases List.mem_append.mp hi with hi | hi
      · have := hk i hi; omega
      · rw [List.mem_singleton.mp hi]; omega
theorem boxes_asked {p0 p1 p2 p3 p4 : Option R} {P : R → Kap → Prop} : ∀ (ks : List Nat) (acc : List PyData) (κ : Kap) (N : Int), AllB N κ → N + 3 * (ks.length : Int) ≤ 2 ^ 38 → acc.length + ks.length ≤ 1000 → (∀ k ∈ ks, k < κ.length) →
    (∀ κ', P (.f (acc ++ ks.map fun _ => PyData.bool true)) κ') →
    lcR (wName 5) wYes (wCallL Ph_law_right (wCons (wVar 5) wNil)) [p0, p1, p2, p3, p4, none] P (ks.map R.c) acc κ
  | [], acc, κ, N, _, _, _, _, k => by
    have := k κ
    simpa using this
  | x :: ks, acc, κ, N, ha, hN, hl, hk, k => by
    rw [List.map_cons]
    unfold lcR
    simp only [List.length_cons] at hl hN
    have hx := hk x (List.mem_cons_self ..)
    obtain ⟨bs, eb, hb⟩ := ha _ (List.getElem_mem hx)
    have ec : κ[x]? = some (.l bs) := by rw [List.getElem?_eq_getElem hx, eb]
    simp [ec]
    refine ⟨N, hb, by omega, rfl, fun bs' hb' => ?_⟩
    simp
    refine ⟨by rw [sizeLine_eq]; omega, ?_⟩
    refine boxes_asked ks _ _ (N + 3) (fun c hc => ?_) (by omega) (by simp; omega) (fun i hi => ?_) fun κ' => ?_
    · rcases List.mem_or_eq_of_mem_set hc with hc | rfl
      · obtain ⟨b2, e2, h2⟩ := ha c hc
        exact ⟨b2, e2, h2.mono (by omega)⟩
      · exact ⟨bs', rfl, hb'⟩
    · rw [List.length_set]
      exact hk i (List.mem_cons_of_mem _ hi)
    · have := k κ'
      simpa using this
theorem bools_rep {α : Type} : ∀ xs : List α, bools (xs.map fun _ => PyData.bool true) = some (xs.map fun _ => true)
  | [] => rfl
  | x :: xs => by rw [List.map_cons]; unfold bools; rw [bools_rep xs]; rfl
theorem all_rep {α : Type} (xs : List α) : allC (fun bs => bs.all id) [.list (xs.map fun _ => PyData.bool true)] = some (.v (.bool true)) := by
  unfold allC
  simp [bools_rep]
theorem tail_law {ns : List Int} {Pd : R → Prop} {p1 p2 p3 p4 p5 : Option R} (k : Pd (.d (.bool true))) : wt_law { nx := fun _ _ => Pd (.d .none), rt := fun r κ => Opt (outR κ 0 r) Pd } [some (.s ns), p1, p2, p3, p4, p5] [] := by
  obtain ⟨n, hn, e⟩ : ∃ n : Nat, n ≤ 4 ∧ (1 + if (ns.length : Int) < 3 then (ns.length : Int) else 3) = (n : Int) := by
    by_cases h1 : (ns.length : Int) < 3
    · rw [if_pos h1]; exact ⟨1 + ns.length, by omega, by omega⟩
    · rw [if_neg h1]; exact ⟨4, by decide, rfl⟩
  simp [wt_law, e]
  refine ⟨by omega, ?_⟩
  refine boxes_made (List.range n) [] [] (fun i hi => ?_) (by simp; omega) (fun c hc => nomatch hc) (fun i hi => nomatch hi) fun ks κ ha hk hl => ?_
  · have := List.mem_range.mp hi; omega
  show lcR _ _ _ _ _ (ks.map R.c) [] κ
  refine boxes_asked ks [] κ 0 ha (by omega) (by simpa using hl) hk fun κ' => ?_
  have h := all_rep ks
  simp only [List.nil_append, st_f, val_d, Opt_some]
  rw [h]
  simp
  exact k
theorem three_loop {E : DEnds} {p0 p3 p4 p5 : Option R} : ∀ (c j : Nat) (p2 : Option R), j + c = 59 → (∀ p1 p2, E.nx [p0, p1, p2, p3, p4, p5] []) →
    forL (fun _ => True) (wName 2) wb_three E (offs (j + 1) c) [p0, some (.d (.int (6 * 5 ^ j))), p2, p3, p4, p5] []
  | 0, j, p2, _, k => k _ _
  | c + 1, j, p2, hc, k => by
    show forL _ _ _ _ (.int ((j + 1 : Nat) : Int) :: offs (j + 1 + 1) c) _ _
    rw [forL_cons]
    have e := three j (List.mem_range.mpr (by omega))
    have ep : (6 * 5 ^ (j + 1) : Int) = 6 * 5 ^ j * 5 := by rw [Int.pow_succ, Int.mul_assoc]
    have go := three_loop (E := E) (p0 := p0) (p3 := p3) (p4 := p4) (p5 := p5) c (j + 1) (some (.d (.int ((j + 1 : Nat) : Int)))) (by omega) k
    rw [ep] at go
    generalize hz : (6 * 5 ^ j : Int) = z at e go ⊢
    unfold wb_three
    simp only [s_seq, s_name, s_if, s_B, s_bin, s_call, s_cons, s_nil, s_c, s_var, List.set_cons_succ, List.set_cons_zero, List.getElem?_cons_succ, List.getElem?_cons_zero, st_d, args_d, DL.args_nil, Opt_some]
    refine ⟨3, j + 1, rfl, by decide, by omega, ?_⟩
    rw [e]
    simp [eqD_int2, mulD_int (i := z) (j := 5) (.inr (by decide))]
    exact go
theorem r_law (rs : List R) (Pd : R → Prop) (h : Ph_law rs Pd) (hl : rs.length = 1) : w_law { nx := fun _ _ => Pd (.d .none), rt := fun r κ => Opt (outR κ 0 r) Pd } (rs.map some ++ List.replicate 5 none) [] := by
  obtain ⟨ns, rfl, k⟩ := h
  clear hl
  obtain ⟨k1, k2, k3, k4, k5, k6, k7, k8⟩ := known
  have e1 : eqD true (.list [.int 1, .int 1, .int 0, .int 0]) (.list [.int 1, .int 1, .int 0, .int 0]) = some (.v (.bool false)) := eqD_dI true [1, 1, 0, 0]
  have e2 : eqD true (.list [.int 1, .int 2, .int 2, .int 2]) (.list [.int 1, .int 2, .int 2, .int 2]) = some (.v (.bool false)) := eqD_dI true [1, 2, 2, 2]
  unfold w_law
  simp [sizeLine_eq]
  refine ⟨0, 0, rfl, by decide, by decide, ?_⟩
  rw [k1]
  refine ⟨1, 0, rfl, by decide, by decide, ?_⟩
  rw [k2]
  refine ⟨0, 3, rfl, by decide, by decide, ?_⟩
  rw [k3]
  refine ⟨1, 200, rfl, by decide, by decide, ?_⟩
  rw [k4]
  simp [e1]
  refine ⟨2, 0, rfl, by decide, by decide, ?_⟩
  rw [k5]
  simp
  refine ⟨2, 1, rfl, by decide, by decide, ?_⟩
  rw [k6]
  simp
  refine ⟨2, 2, rfl, by decide, by decide, ?_⟩
  rw [k7]
  simp
  refine ⟨2, 200, rfl, by decide, by decide, ?_⟩
  rw [k8]
  simp [e2]
  rw [s_rng2]
  simp
  have er : ((List.range 59).map fun (i : Nat) => PyData.int (1 + (i : Int))) = offs 1 59 := range_offs 59 1
  rw [er]
  exact three_loop 59 0 _ rfl fun p1 p2 => tail_law k
end K77
namespace K77
open PySem PySem.Spec PyProof.Rows L2 DL SH
def topS (i : Nat) : Stmt := PySem.Challenge.rw_drawnropes_k77_whole_counts_by_the_sum.prog.main.body.getD i (.Pass ⟨0, 0, 0, 0⟩)
structure Bn (mg : Str → Option Value) : Prop where
  len_ : mg "len" = none
  enumerate_ : mg "enumerate" = none
  range_ : mg "range" = none
  zip_ : mg "zip" = none
  min_ : mg "min" = none
  abs_ : mg "abs" = none
  int_ : mg "int" = none
  isinstance_ : mg "isinstance" = none
  bool_ : mg "bool" = none
  all_ : mg "all" = none
section
variable {P : Program} {w : World} {K : PySem.W.Frag} {mg : Str → Option Value} {base : Heap}
abbrev s_pair_sets : Stmt := topS 1
theorem sc_pair_sets : FnScope ["ropes", "found", "left"] ["ropes"] (defScope s_pair_sets) := ⟨rfl, rfl, rfl, by decide +kernel, rfl, by decide +kernel, by decide +kernel⟩
theorem d_pair_sets {f : Addr} {cdv : Value} {A : Around} {outer : List Env} {s : Shared} {H : Hp} {E : XK} {k : Nat} (hr : Room k (A.deeper (envOfC "pair_sets" (defScope s_pair_sets) s.heap.objs.size f cdv))) (B : Bn mg) :
    DSs (cxOf CX0 P w K mg base ["ropes", "found", "left"] "pair_sets" (defScope s_pair_sets) f cdv A outer s H E).nox (defBody s_pair_sets) w_pair_sets := by
  have nd : (["ropes", "found", "left"] : List Str).Nodup := sc_pair_sets.nd
  exact (dss_cons (ds_par 1 2 rfl nd (da_consM true (de_lst (da_cons de_int da_nil)) (da_consM false (de_var 0) da_nil)))
      (dss_cons (ds_while PassesOwn.never (dt_cmp op_gtI ci_ok (de_var 2) de_int (nomark _)) (dss_cons (ds_expr (de_append (de_var 1) (de_op op_fdiv fdiv_ok (de_op op_fdiv fdiv_ok (de_op op_mulD mul_ok (de_op op_mulD mul_ok (de_ix ix_seq ix_ok (de_var 1) (de_un un_neg neg_ok de_int) (fun _ _ => rfl)) (de_var 2)) (de_op op_sub sub_ok (de_var 2) de_int)) de_int) (de_callB call_len len_ok B.len_ (da_cons (de_var 1) da_nil)))))
      (dss_one (ds_aug 2 nd ip_sub de_int))))
      (dss_one (ds_ret (de_var 1)))))

abbrev s_times : Stmt := topS 2
theorem sc_times : FnScope ["one", "other", "found", "i", "first", "j", "second"] ["one", "other"] (defScope s_times) := ⟨rfl, rfl, rfl, by decide +kernel, rfl, by decide +kernel, by decide +kernel⟩
theorem d_times {f : Addr} {cdv : Value} {A : Around} {outer : List Env} {s : Shared} {H : Hp} {E : XK} {k : Nat} (hr : Room k (A.deeper (envOfC "times" (defScope s_times) s.heap.objs.size f cdv))) (B : Bn mg) :
    DSs (cxOf CX0 P w K mg base ["one", "other", "found", "i", "first", "j", "second"] "times" (defScope s_times) f cdv A outer s H E).nox (defBody s_times) w_times := by
  have nd : (["one", "other", "found", "i", "first", "j", "second"] : List Str).Nodup := sc_times.nd
  exact (dss_cons (ds_set true 2 nd (de_op op_mulD mul_ok (de_lst (da_cons de_int da_nil)) (de_op op_sub sub_ok (de_op op_addD add_ok (de_callB call_len len_ok B.len_ (da_cons (de_var 0) da_nil)) (de_callB call_len len_ok B.len_ (da_cons (de_var 1) da_nil))) de_int)))
      (dss_cons (ds_for PassesOwn.never rfl (di_enum B.enumerate_ (da_cons (de_var 0) da_nil)) (dg_tup rfl (dgs_cons (dg_name 3 nd) (dgs_cons (dg_name 4 nd) dgs_nil))) (dss_one (ds_for PassesOwn.never rfl (di_enum B.enumerate_ (da_cons (de_var 1) da_nil)) (dg_tup rfl (dgs_cons (dg_name 5 nd) (dgs_cons (dg_name 6 nd) dgs_nil))) (dss_one (ds_augS (de_var 2) (de_op op_addD add_ok (de_var 3) (de_var 5)) ip_add (de_op op_mulD mul_ok (de_var 4) (de_var 6)))))))
      (dss_one (ds_ret (de_var 2)))))

abbrev s_raised : Stmt := topS 3
theorem sc_raised : FnScope ["some", "often", "found", "turn"] ["some", "often"] (defScope s_raised) := ⟨rfl, rfl, rfl, by decide +kernel, rfl, by decide +kernel, by decide +kernel⟩
theorem d_raised {f : Addr} {cdv : Value} {A : Around} {outer : List Env} {s : Shared} {H : Hp} {E : XK} {k : Nat} (hr : Room k (A.deeper (envOfC "raised" (defScope s_raised) s.heap.objs.size f cdv))) (B : Bn mg) (C_times : Cal P w K mg base "times" k ["one", "other"] (spD K 2 Ph_times)) :
    DSs (cxOf CX0 P w K mg base ["some", "often", "found", "turn"] "raised" (defScope s_raised) f cdv A outer s H E).nox (defBody s_raised) w_raised := by
  have nd : (["some", "often", "found", "turn"] : List Str).Nodup := sc_raised.nd
  exact (dss_cons (ds_set false 2 nd (de_lst (da_cons de_int da_nil)))
      (dss_cons (ds_for PassesOwn.never rfl (di_range1 B.range_ (da_cons (de_var 1) da_nil)) (dg_name 3 nd) (dss_one (ds_set false 2 nd (de_callC C_times hr rfl (da_cons (de_var 2) (da_cons (de_var 0) da_nil))))))
      (dss_one (ds_ret (de_var 2)))))

abbrev s_many_webs : Stmt := topS 4
theorem sc_many_webs : FnScope ["ropes", "hooks", "lots", "top", "above", "beneath", "size", "many", "part", "found", "number", "j", "more"] ["ropes", "hooks"] (defScope s_many_webs) := ⟨rfl, rfl, rfl, by decide +kernel, rfl, by decide +kernel, by decide +kernel⟩
theorem d_many_webs {f : Addr} {cdv : Value} {A : Around} {outer : List Env} {s : Shared} {H : Hp} {E : XK} {k : Nat} (hr : Room k (A.deeper (envOfC "many_webs" (defScope s_many_webs) s.heap.objs.size f cdv))) (B : Bn mg) (C_pair_sets : Cal P w K mg base "pair_sets" k ["ropes"] (spD K 1 Ph_pair_sets)) (C_raised : Cal P w K mg base "raised" k ["some", "often"] (spD K 2 Ph_raised)) (C_times : Cal P w K mg base "times" k ["one", "other"] (spD K 2 Ph_times)) :
    DSs (cxOf CX0 P w K mg base ["ropes", "hooks", "lots", "top", "above", "beneath", "size", "many", "part", "found", "number", "j", "more"] "many_webs" (defScope s_many_webs) f cdv A outer s H E).nox (defBody s_many_webs) w_many_webs := by
  have nd : (["ropes", "hooks", "lots", "top", "above", "beneath", "size", "many", "part", "found", "number", "j", "more"] : List Str).Nodup := sc_many_webs.nd
  exact (dss_cons (ds_set false 2 nd (de_callC C_pair_sets hr rfl (da_cons (de_var 0) da_nil)))
      (dss_cons (ds_set false 3 nd (de_op op_sub sub_ok (de_callB call_len len_ok B.len_ (da_cons (de_var 2) da_nil)) de_int))
      (dss_cons (ds_par 4 5 rfl nd (da_consM false (de_callC C_raised hr rfl (da_cons (de_lst (da_cons de_int (da_cons de_int da_nil))) (da_cons (de_var 3) da_nil))) (da_consM false (de_op op_mulD mul_ok (de_lst (da_cons de_int da_nil)) (de_op op_addD add_ok (de_var 3) de_int)) da_nil)))
      (dss_cons (ds_for PassesOwn.never rfl (di_enum B.enumerate_ (da_cons (de_var 2) da_nil)) (dg_tup rfl (dgs_cons (dg_name 6 nd) (dgs_cons (dg_name 7 nd) dgs_nil))) (dss_cons (ds_set false 8 nd (de_callC C_times hr rfl (da_cons (de_callC C_raised hr rfl (da_cons (de_lst (da_cons de_int (da_cons (de_un un_neg neg_ok de_int) da_nil))) (da_cons (de_var 6) da_nil))) (da_cons (de_callC C_raised hr rfl (da_cons (de_lst (da_cons de_int (da_cons de_int da_nil))) (da_cons (de_op op_sub sub_ok (de_var 3) (de_var 6)) da_nil))) da_nil))))
      (dss_one (ds_setLc (own := [("number", 10), ("more", 12)]) false 5 rfl nd (sw_true rfl rfl rfl (by decide +kernel)) (di_zip B.zip_ (da_cons (de_var 5) (da_cons (de_var 8) da_nil))) (blkOk_by (by kernel_rfl)) (fun _ => (dg_tup rfl (dgs_cons (dg_name 10 nd) (dgs_cons (dg_name 12 nd) dgs_nil)))) (fun _ => dts_nil) (fun _ => (de_op op_addD add_ok (de_var 10) (de_op op_mulD mul_ok (de_var 7) (de_var 12))))))))
      (dss_cons (ds_set true 9 nd (de_lst da_nil))
      (dss_cons (ds_for PassesOwn.never rfl (di_range1 B.range_ (da_cons (de_op op_addD add_ok (de_var 1) de_int) da_nil)) (dg_name 6 nd) (dss_cons (ds_set false 10 nd (de_ifx (dt_cmp op_leI ci_ok (de_var 6) (de_var 3) (nomark _)) (de_ix ix_seq ix_ok (de_var 4) (de_var 6) (fun _ _ => rfl)) de_int))
      (dss_cons (ds_for PassesOwn.never rfl (di_range2 B.range_ (da_cons de_int (da_cons (de_op op_addD add_ok (de_callB (call_min2 rfl) min2_ok B.min_ (da_cons (de_var 6) (da_cons (de_var 3) da_nil))) de_int) da_nil))) (dg_name 11 nd) (dss_one (ds_aug 10 nd ip_sub (de_op op_mulD mul_ok (de_ix ix_seq ix_ok (de_var 5) (de_var 11) (fun _ _ => rfl)) (de_ix ix_seq ix_ok (de_var 9) (de_op op_sub sub_ok (de_var 6) (de_var 11)) (fun _ _ => rfl))))))
      (dss_one (ds_expr (de_append (de_var 9) (de_var 10)))))))
      (dss_one (ds_ret (de_ix ix_seq ix_ok (de_var 9) (de_var 1) (fun _ _ => rfl))))))))))

abbrev s_law_box : Stmt := topS 6
theorem sc_law_box : FnScope ["_law_script", "_law_k", "_law_cell"] ["_law_script", "_law_k"] (defScope s_law_box) := ⟨rfl, rfl, rfl, by decide +kernel, rfl, by decide +kernel, by decide +kernel⟩
theorem d_law_box {f : Addr} {cdv : Value} {A : Around} {outer : List Env} {s : Shared} {H : Hp} {E : XK} {k : Nat} (hr : Room k (A.deeper (envOfC "_law_box" (defScope s_law_box) s.heap.objs.size f cdv))) (B : Bn mg) :
    DSs (cxOf CX0 P w K mg base ["_law_script", "_law_k", "_law_cell"] "_law_box" (defScope s_law_box) f cdv A outer s H E).nox (defBody s_law_box) w_law_box := by
  have nd : (["_law_script", "_law_k", "_law_cell"] : List Str).Nodup := sc_law_box.nd
  exact (dss_cons (ds_set false 2 nd de_int)
      (dss_cons (ds_if (dt_cmp op_ltD ord_ok (de_var 1) (de_lenS B.len_ (de_var 0)) (nomark _)) (dss_one (ds_set false 2 nd (de_scr (de_var 0) (de_var 1) (fun _ _ => rfl)))) dss_nil)
      (dss_one (ds_ret (de_lst (da_cons (de_op op_mulD mul_ok (de_callB call_abs abs_ok B.abs_ (da_cons (de_var 2) da_nil)) (de_callTy call_int1 intC_ok B.int_ (da_cons (de_cmp op_geI ci_ok (de_callB call_abs abs_ok B.abs_ (da_cons (de_var 2) da_nil)) (de_op op_pow pow_ok de_int de_int) (nomark _)) da_nil))) (da_cons (de_op op_addD add_ok (de_op op_addD add_ok (de_op op_mod mod_ok (de_var 2) de_int) (de_op op_mulD mul_ok de_int (de_var 1))) de_int) (da_cons de_int da_nil))))))))

abbrev s_law_take : Stmt := topS 7
theorem sc_law_take : FnScope ["_law_box_here", "_law_bound", "_law_found", "_law_once"] ["_law_box_here", "_law_bound"] (defScope s_law_take) := ⟨rfl, rfl, rfl, by decide +kernel, rfl, by decide +kernel, by decide +kernel⟩
theorem d_law_take {f : Addr} {cdv : Value} {A : Around} {outer : List Env} {s : Shared} {H : Hp} {E : XK} {k : Nat} (hr : Room k (A.deeper (envOfC "_law_take" (defScope s_law_take) s.heap.objs.size f cdv))) (B : Bn mg) :
    DSs (cxOf CX0 P w K mg base ["_law_box_here", "_law_bound", "_law_found", "_law_once"] "_law_take" (defScope s_law_take) f cdv A outer s H E).nox (defBody s_law_take) w_law_take := by
  have nd : (["_law_box_here", "_law_bound", "_law_found", "_law_once"] : List Str).Nodup := sc_law_take.nd
  exact (dss_cons (ds_if (dt_cmp op_gtI ci_ok (de_ix ix_seq ix_ok (de_var 0) de_int (fun _ _ => rfl)) de_int (nomark _)) (dss_cons (ds_set false 2 nd (de_op op_mod mod_ok (de_ix ix_seq ix_ok (de_var 0) de_int (fun _ _ => rfl)) (de_var 1)))
      (dss_cons (ds_asg (de_op op_fdiv fdiv_ok (de_ix ix_seq ix_ok (de_var 0) de_int (fun _ _ => rfl)) (de_var 1)) (dg_sub (de_var 0) de_int))
      (dss_one (ds_ret (de_var 2))))) dss_nil)
      (dss_cons (ds_asg (de_op op_addD add_ok (de_ix ix_seq ix_ok (de_var 0) de_int (fun _ _ => rfl)) de_int) (dg_sub (de_var 0) de_int))
      (dss_cons (ds_set false 3 nd (de_op op_mod mod_ok (de_op op_pow pow_ok (de_op op_addD add_ok (de_ix ix_seq ix_ok (de_var 0) de_int (fun _ _ => rfl)) (de_op op_mulD mul_ok de_int (de_ix ix_seq ix_ok (de_var 0) de_int (fun _ _ => rfl)))) de_int) de_int))
      (dss_one (ds_ret (de_op op_mod mod_ok (de_op op_fdiv fdiv_ok (de_op op_mod mod_ok (de_op op_addD add_ok (de_op op_mulD mul_ok (de_var 3) (de_op op_addD add_ok (de_op op_mod mod_ok (de_var 3) de_int) de_int)) (de_op op_mulD mul_ok (de_ix ix_seq ix_ok (de_var 0) de_int (fun _ _ => rfl)) de_int)) de_int) de_int) (de_var 1)))))))

abbrev s_law_lots_of : Stmt := topS 8
theorem sc_law_lots_of : FnScope ["_law_ropes", "_law_pairs"] ["_law_ropes", "_law_pairs"] (defScope s_law_lots_of) := ⟨rfl, rfl, rfl, by decide +kernel, rfl, by decide +kernel, by decide +kernel⟩
theorem d_law_lots_of {f : Addr} {cdv : Value} {A : Around} {outer : List Env} {s : Shared} {H : Hp} {E : XK} {k : Nat} (hr : Room k (A.deeper (envOfC "_law_lots_of" (defScope s_law_lots_of) s.heap.objs.size f cdv))) (B : Bn mg) {Ph_law_lots_of : List R → (R → Prop) → Prop} (C_law_lots_of : Cal P w K mg base "_law_lots_of" k ["_law_ropes", "_law_pairs"] (spD K 2 Ph_law_lots_of)) :
    DSs (cxOf CX0 P w K mg base ["_law_ropes", "_law_pairs"] "_law_lots_of" (defScope s_law_lots_of) f cdv A outer s H E).nox (defBody s_law_lots_of) (w_law_lots_of Ph_law_lots_of) := by
  have nd : (["_law_ropes", "_law_pairs"] : List Str).Nodup := sc_law_lots_of.nd
  exact (dss_cons (ds_if (dt_cmp (op_eqD hr.units) eq_ok (de_var 1) de_int (nomark _)) (dss_one (ds_ret de_int)) dss_nil)
      (dss_cons (ds_if (dt_cmp op_ltD ord_ok (de_var 0) de_int (nomark _)) (dss_one (ds_ret de_int)) dss_nil)
      (dss_one (ds_ret (de_op op_addD add_ok (de_callC C_law_lots_of hr rfl (da_cons (de_op op_sub sub_ok (de_var 0) de_int) (da_cons (de_var 1) da_nil))) (de_op op_mulD mul_ok (de_op op_sub sub_ok (de_var 0) de_int) (de_callC C_law_lots_of hr rfl (da_cons (de_op op_sub sub_ok (de_var 0) de_int) (da_cons (de_op op_sub sub_ok (de_var 1) de_int) da_nil)))))))))

abbrev s_law_product : Stmt := topS 9
theorem sc_law_product : FnScope ["_law_one", "_law_two", "_law_found", "_law_i", "_law_first", "_law_j", "_law_second"] ["_law_one", "_law_two"] (defScope s_law_product) := ⟨rfl, rfl, rfl, by decide +kernel, rfl, by decide +kernel, by decide +kernel⟩
theorem d_law_product {f : Addr} {cdv : Value} {A : Around} {outer : List Env} {s : Shared} {H : Hp} {E : XK} {k : Nat} (hr : Room k (A.deeper (envOfC "_law_product" (defScope s_law_product) s.heap.objs.size f cdv))) (B : Bn mg) :
    DSs (cxOf CX0 P w K mg base ["_law_one", "_law_two", "_law_found", "_law_i", "_law_first", "_law_j", "_law_second"] "_law_product" (defScope s_law_product) f cdv A outer s H E).nox (defBody s_law_product) w_law_product := by
  have nd : (["_law_one", "_law_two", "_law_found", "_law_i", "_law_first", "_law_j", "_law_second"] : List Str).Nodup := sc_law_product.nd
  exact (dss_cons (ds_set true 2 nd (de_op op_mulD mul_ok (de_lst (da_cons de_int da_nil)) (de_op op_sub sub_ok (de_op op_addD add_ok (de_callB call_len len_ok B.len_ (da_cons (de_var 0) da_nil)) (de_callB call_len len_ok B.len_ (da_cons (de_var 1) da_nil))) de_int)))
      (dss_cons (ds_for PassesOwn.never rfl (di_enum B.enumerate_ (da_cons (de_var 0) da_nil)) (dg_tup rfl (dgs_cons (dg_name 3 nd) (dgs_cons (dg_name 4 nd) dgs_nil))) (dss_one (ds_for PassesOwn.never rfl (di_enum B.enumerate_ (da_cons (de_var 1) da_nil)) (dg_tup rfl (dgs_cons (dg_name 5 nd) (dgs_cons (dg_name 6 nd) dgs_nil))) (dss_one (ds_asg (de_op op_addD add_ok (de_ix ix_seq ix_ok (de_var 2) (de_op op_addD add_ok (de_var 3) (de_var 5)) (fun _ _ => rfl)) (de_op op_mulD mul_ok (de_var 4) (de_var 6))) (dg_sub (de_var 2) (de_op op_addD add_ok (de_var 3) (de_var 5))))))))
      (dss_one (ds_ret (de_var 2)))))

abbrev s_law_right : Stmt := topS 10
theorem sc_law_right : FnScope ["_law_box_here", "_law_ropes", "_law_far", "_law_top", "_law_own", "_law_beneath", "_law_above", "_law_pairs", "_law_part_of", "_law_turn", "_law_told", "_law_number", "_law_more", "_law_many", "_law_one", "_law_two"] ["_law_box_here"] (defScope s_law_right) := ⟨rfl, rfl, rfl, by decide +kernel, rfl, by decide +kernel, by decide +kernel⟩
theorem d_law_right {f : Addr} {cdv : Value} {A : Around} {outer : List Env} {s : Shared} {H : Hp} {E : XK} {k : Nat} (hr : Room k (A.deeper (envOfC "_law_right" (defScope s_law_right) s.heap.objs.size f cdv))) (B : Bn mg) (C_law_take : Cal P w K mg base "_law_take" k ["_law_box_here", "_law_bound"] (spL K 2 Ph_law_take)) (C_many_webs : Cal P w K mg base "many_webs" k ["ropes", "hooks"] (spD K 2 Ph_many_webs)) (C_law_lots_of : Cal P w K mg base "_law_lots_of" k ["_law_ropes", "_law_pairs"] (spD K 2 Ph_law_lots_of)) (C_law_product : Cal P w K mg base "_law_product" k ["_law_one", "_law_two"] (spD K 2 Ph_law_product)) :
    DSs (cxOf CX0 P w K mg base ["_law_box_here", "_law_ropes", "_law_far", "_law_top", "_law_own", "_law_beneath", "_law_above", "_law_pairs", "_law_part_of", "_law_turn", "_law_told", "_law_number", "_law_more", "_law_many", "_law_one", "_law_two"] "_law_right" (defScope s_law_right) f cdv A outer s H E).nox (defBody s_law_right) w_law_right := by
  have nd : (["_law_box_here", "_law_ropes", "_law_far", "_law_top", "_law_own", "_law_beneath", "_law_above", "_law_pairs", "_law_part_of", "_law_turn", "_law_told", "_law_number", "_law_more", "_law_many", "_law_one", "_law_two"] : List Str).Nodup := sc_law_right.nd
  exact (dss_cons (ds_tt 1 2 rfl nd (da_consM false (de_callC_L C_law_take hr rfl (da_cons (de_var 0) (da_cons de_int da_nil))) (da_consM false (de_op op_addD add_ok de_int (de_callC_L C_law_take hr rfl (da_cons (de_var 0) (da_cons (de_ix ix_seq ix_ok (de_lst (da_cons de_int (da_cons de_int da_nil))) (de_callC_L C_law_take hr rfl (da_cons (de_var 0) (da_cons de_int da_nil))) (fun _ _ => rfl)) da_nil)))) da_nil)))
      (dss_cons (ds_set false 3 nd (de_op op_fdiv fdiv_ok (de_var 1) de_int))
      (dss_cons (ds_par 4 5 rfl nd (da_consM false (de_lc (own := [("_law_many", 13)]) rfl nd (di_range1 B.range_ (da_cons (de_callB (call_min2 rfl) min2_ok B.min_ (da_cons (de_var 2) (da_cons de_int da_nil))) da_nil)) (blkOk_by (by kernel_rfl)) (fun _ => (dg_name 13 nd)) (fun _ => dts_nil) (fun _ => (de_callC C_many_webs hr rfl (da_cons (de_var 1) (da_cons (de_var 13) da_nil))))) (da_consM false (de_op op_mulD mul_ok (de_lst (da_cons de_int da_nil)) (de_op op_addD add_ok (de_var 3) de_int)) da_nil)))
      (dss_cons (ds_set false 6 nd (de_lst (da_cons de_int da_nil)))
      (dss_cons (ds_for PassesOwn.never rfl (di_range1 B.range_ (da_cons (de_op op_addD add_ok (de_var 3) de_int) da_nil)) (dg_name 7 nd) (dss_cons (ds_set false 8 nd (de_lst (da_cons (de_callC C_law_lots_of hr rfl (da_cons (de_var 1) (da_cons (de_var 7) da_nil))) da_nil)))
      (dss_cons (ds_for PassesOwn.never rfl (di_range1 B.range_ (da_cons (de_var 3) da_nil)) (dg_name 9 nd) (dss_one (ds_set false 8 nd (de_callC C_law_product hr rfl (da_cons (de_var 8) (da_cons (de_ifx (dt_cmp op_ltD ord_ok (de_var 9) (de_var 7) (nomark _)) (de_lst (da_cons de_int (da_cons (de_un un_neg neg_ok de_int) da_nil))) (de_lst (da_cons de_int (da_cons de_int da_nil)))) da_nil))))))
      (dss_one (ds_setLc (own := [("_law_one", 14), ("_law_two", 15)]) false 5 rfl nd (sw_true rfl rfl rfl (by decide +kernel)) (di_zip B.zip_ (da_cons (de_var 5) (da_cons (de_var 8) da_nil))) (blkOk_by (by kernel_rfl)) (fun _ => (dg_tup rfl (dgs_cons (dg_name 14 nd) (dgs_cons (dg_name 15 nd) dgs_nil)))) (fun _ => dts_nil) (fun _ => (de_op op_addD add_ok (de_var 14) (de_var 15))))))))
      (dss_cons (ds_for PassesOwn.never rfl (di_range1 B.range_ (da_cons (de_var 3) da_nil)) (dg_name 9 nd) (dss_one (ds_set false 6 nd (de_callC C_law_product hr rfl (da_cons (de_var 6) (da_cons (de_lst (da_cons de_int (da_cons de_int da_nil))) da_nil))))))
      (dss_cons (ds_set false 10 nd (de_sl (de_callC C_law_product hr rfl (da_cons (de_var 4) (da_cons (de_var 5) da_nil))) do_none (do_some (de_callB call_len len_ok B.len_ (da_cons (de_var 4) da_nil)))))
      (dss_cons (ds_if (dt_cmp (op_neD hr.units) ne_ok (de_var 10) (de_sl (de_op op_addD add_ok (de_var 6) (de_op op_mulD mul_ok (de_lst (da_cons de_int da_nil)) (de_callB call_len len_ok B.len_ (da_cons (de_var 4) da_nil)))) do_none (do_some (de_callB call_len len_ok B.len_ (da_cons (de_var 4) da_nil)))) (nomark _)) (dss_one (ds_ret de_bl)) dss_nil)
      (dss_cons (ds_par 11 12 rfl nd (da_consM false (de_callC C_many_webs hr rfl (da_cons (de_var 1) (da_cons (de_op op_sub sub_ok (de_var 2) de_int) da_nil))) (da_consM false (de_callC C_many_webs hr rfl (da_cons (de_op op_addD add_ok (de_var 1) (de_callTy call_int1 intC_ok B.int_ (da_cons (de_cmp op_ltD ord_ok (de_var 1) de_int (nomark _)) da_nil))) (da_cons (de_op op_sub sub_ok (de_var 2) de_int) da_nil))) da_nil)))
      (dss_one (ds_ret (de_and (de_isi .int B.isinstance_ B.int_ (de_var 11)) (de_and (de_not (de_isi .bool B.isinstance_ B.bool_ (de_var 11))) (de_one (de_cmp op_leI ci_ok (de_var 11) (de_var 12) (nomark _))))))))))))))))

abbrev s_law : Stmt := topS 11
theorem sc_law : FnScope ["_law_script", "_law_number", "_law_many", "_law_boxes", "_law_k", "_law_box_here"] ["_law_script"] (defScope s_law) := ⟨rfl, rfl, rfl, by decide +kernel, rfl, by decide +kernel, by decide +kernel⟩
theorem d_law {f : Addr} {cdv : Value} {A : Around} {outer : List Env} {s : Shared} {H : Hp} {E : XK} {k : Nat} (hr : Room k (A.deeper (envOfC "law" (defScope s_law) s.heap.objs.size f cdv))) (B : Bn mg) (C_many_webs : Cal P w K mg base "many_webs" k ["ropes", "hooks"] (spD K 2 Ph_many_webs)) (C_law_box : Cal P w K mg base "_law_box" k ["_law_script", "_law_k"] (spD K 2 Ph_law_box)) (C_law_right : Cal P w K mg base "_law_right" k ["_law_box_here"] (spL K 1 Ph_law_right)) :
    DSs (cxOf CX0 P w K mg base ["_law_script", "_law_number", "_law_many", "_law_boxes", "_law_k", "_law_box_here"] "law" (defScope s_law) f cdv A outer s H E).nox (defBody s_law) w_law := by
  have nd : (["_law_script", "_law_number", "_law_many", "_law_boxes", "_law_k", "_law_box_here"] : List Str).Nodup := sc_law.nd
  exact (dss_cons (ds_if (dt_cmp (op_neD hr.units) ne_ok (de_lst (da_cons (de_callC C_many_webs hr rfl (da_cons de_int (da_cons de_int da_nil))) (da_cons (de_callC C_many_webs hr rfl (da_cons de_int (da_cons de_int da_nil))) (da_cons (de_callC C_many_webs hr rfl (da_cons de_int (da_cons de_int da_nil))) (da_cons (de_callC C_many_webs hr rfl (da_cons de_int (da_cons de_int da_nil))) da_nil))))) (de_lst (da_cons de_int (da_cons de_int (da_cons de_int (da_cons de_int da_nil))))) (nomark _)) (dss_one (ds_ret de_bl)) dss_nil)
      (dss_cons (ds_if (dt_cmp (op_neD hr.units) ne_ok (de_lc (own := [("_law_many", 2)]) rfl nd (di_seq (de_tup (da_cons de_int (da_cons de_int (da_cons de_int (da_cons de_int da_nil)))))) (blkOk_by (by kernel_rfl)) (fun _ => (dg_name 2 nd)) (fun _ => dts_nil) (fun _ => (de_callC C_many_webs hr rfl (da_cons de_int (da_cons (de_var 2) da_nil))))) (de_lst (da_cons de_int (da_cons de_int (da_cons de_int (da_cons de_int da_nil))))) (nomark _)) (dss_one (ds_ret de_bl)) dss_nil)
      (dss_cons (ds_set false 1 nd de_int)
      (dss_cons (ds_for PassesOwn.never rfl (di_range2 B.range_ (da_cons de_int (da_cons de_int da_nil))) (dg_name 2 nd) (dss_cons (ds_if (dt_cmp (op_neD hr.units) ne_ok (de_callC C_many_webs hr rfl (da_cons de_int (da_cons (de_var 2) da_nil))) (de_var 1) (nomark _)) (dss_one (ds_ret de_bl)) dss_nil)
      (dss_one (ds_set false 1 nd (de_op op_mulD mul_ok (de_var 1) de_int)))))
      (dss_cons (ds_setLcB (own := [("_law_k", 4)]) false 3 rfl nd (sw_true rfl rfl rfl (by decide +kernel)) (di_range1 B.range_ (da_cons (de_op op_addD add_ok de_int (de_callB (call_min2 rfl) min2_ok B.min_ (da_cons de_int (da_cons (de_lenS B.len_ (de_var 0)) da_nil)))) da_nil)) (blkOk_by (by kernel_rfl)) (fun _ => (dg_name 4 nd)) (fun _ => dts_nil) (fun _ => (de_callC C_law_box hr rfl (da_cons (de_var 0) (da_cons (de_var 4) da_nil)))))
      (dss_one (ds_ret (de_callB (cr_all rfl) allC_ok B.all_ (da_cons (de_lcR (own := [("_law_box_here", 5)]) rfl nd (dir_refs (de_var 3)) (blkOk_by (by kernel_rfl)) (fun _ => (dg_name 5 nd)) (fun _ => dts_nil) (fun _ => (de_callC_L C_law_right hr rfl (da_cons (de_var 5) da_nil)))) da_nil)))))))))
theorem ok_pair_sets {f : Addr} {fd : FuncData} {k : Nat} (F : Fun K "pair_sets" "pair_sets" s_pair_sets f fd) (B : Bn mg) : FnOk P w K mg base CX0 (k + 1) f fd ["ropes"] (spD K 1 Ph_pair_sets) :=
  dfn F sc_pair_sets fun cdv A outer s H E hr => ⟨_, d_pair_sets hr B, r_pair_sets⟩

theorem ok_times {f : Addr} {fd : FuncData} {k : Nat} (F : Fun K "times" "times" s_times f fd) (B : Bn mg) : FnOk P w K mg base CX0 (k + 1) f fd ["one", "other"] (spD K 2 Ph_times) :=
  dfn F sc_times fun cdv A outer s H E hr => ⟨_, d_times hr B, r_times⟩

theorem ok_raised {f : Addr} {fd : FuncData} {k : Nat} (F : Fun K "raised" "raised" s_raised f fd) (B : Bn mg) (C_times : Cal P w K mg base "times" k ["one", "other"] (spD K 2 Ph_times)) : FnOk P w K mg base CX0 (k + 1) f fd ["some", "often"] (spD K 2 Ph_raised) :=
  dfn F sc_raised fun cdv A outer s H E hr => ⟨_, d_raised hr B C_times, r_raised⟩

theorem ok_many_webs {f : Addr} {fd : FuncData} {k : Nat} (F : Fun K "many_webs" "many_webs" s_many_webs f fd) (B : Bn mg) (C_pair_sets : Cal P w K mg base "pair_sets" k ["ropes"] (spD K 1 Ph_pair_sets)) (C_raised : Cal P w K mg base "raised" k ["some", "often"] (spD K 2 Ph_raised)) (C_times : Cal P w K mg base "times" k ["one", "other"] (spD K 2 Ph_times)) : FnOk P w K mg base CX0 (k + 1) f fd ["ropes", "hooks"] (spD K 2 Ph_many_webs) :=
  dfn F sc_many_webs fun cdv A outer s H E hr => ⟨_, d_many_webs hr B C_pair_sets C_raised C_times, r_many_webs⟩

theorem ok_law_box {f : Addr} {fd : FuncData} {k : Nat} (F : Fun K "_law_box" "_law_box" s_law_box f fd) (B : Bn mg) : FnOk P w K mg base CX0 (k + 1) f fd ["_law_script", "_law_k"] (spD K 2 Ph_law_box) :=
  dfn F sc_law_box fun cdv A outer s H E hr => ⟨_, d_law_box hr B, r_law_box⟩

theorem ok_law_take {f : Addr} {fd : FuncData} {k : Nat} (F : Fun K "_law_take" "_law_take" s_law_take f fd) (B : Bn mg) : FnOk P w K mg base CX0 (k + 1) f fd ["_law_box_here", "_law_bound"] (spL K 2 Ph_law_take) :=
  dfnL F sc_law_take rfl fun cdv A outer s H E hr => ⟨_, d_law_take hr B, r_law_take⟩

theorem no_law_lots_of {vs : List V} {H : Hp} {Q : VK} {E : XK} (h : spD K 2 (Ph_law_lots_ofN 0) vs H Q E) : False := by
  obtain ⟨_, G, rs, P, _, _, h, _⟩ := h
  exact n_law_lots_of h

theorem ok_law_lots_of {f : Addr} {fd : FuncData} {k : Nat} (F : Fun K "_law_lots_of" "_law_lots_of" s_law_lots_of f fd) (B : Bn mg) (hm : mg "_law_lots_of" = some (.ref f)) (hk : PySem.W.keepIn K (.ref f) = true) (hb : Binds K fd ["_law_ropes", "_law_pairs"] []) : ∀ n : Nat, FnOk P w K mg base CX0 (k + n) f fd ["_law_ropes", "_law_pairs"] (spD K 2 (Ph_law_lots_ofN n))
  | 0 => ⟨fun vs H Q E h => h.1, fun A outer s H as us vs Q E hr he hb hv hs => (no_law_lots_of hs).elim⟩
  | n + 1 => dfn F sc_law_lots_of fun cdv A outer s H E hr => ⟨_, d_law_lots_of hr B ⟨_, _, ok_law_lots_of F B hm hk hb n, hm, hk, hb⟩, r_law_lots_of n⟩

theorem ok_law_product {f : Addr} {fd : FuncData} {k : Nat} (F : Fun K "_law_product" "_law_product" s_law_product f fd) (B : Bn mg) : FnOk P w K mg base CX0 (k + 1) f fd ["_law_one", "_law_two"] (spD K 2 Ph_law_product) :=
  dfn F sc_law_product fun cdv A outer s H E hr => ⟨_, d_law_product hr B, r_law_product⟩

theorem ok_law_right {f : Addr} {fd : FuncData} {k : Nat} (F : Fun K "_law_right" "_law_right" s_law_right f fd) (B : Bn mg) (C_law_take : Cal P w K mg base "_law_take" k ["_law_box_here", "_law_bound"] (spL K 2 Ph_law_take)) (C_many_webs : Cal P w K mg base "many_webs" k ["ropes", "hooks"] (spD K 2 Ph_many_webs)) (C_law_lots_of : Cal P w K mg base "_law_lots_of" k ["_law_ropes", "_law_pairs"] (spD K 2 Ph_law_lots_of)) (C_law_product : Cal P w K mg base "_law_product" k ["_law_one", "_law_two"] (spD K 2 Ph_law_product)) : FnOk P w K mg base CX0 (k + 1) f fd ["_law_box_here"] (spL K 1 Ph_law_right) :=
  dfnL F sc_law_right rfl fun cdv A outer s H E hr => ⟨_, d_law_right hr B C_law_take C_many_webs C_law_lots_of C_law_product, r_law_right⟩

theorem ok_law {f : Addr} {fd : FuncData} {k : Nat} (F : Fun K "law" "law" s_law f fd) (B : Bn mg) (C_many_webs : Cal P w K mg base "many_webs" k ["ropes", "hooks"] (spD K 2 Ph_many_webs)) (C_law_box : Cal P w K mg base "_law_box" k ["_law_script", "_law_k"] (spD K 2 Ph_law_box)) (C_law_right : Cal P w K mg base "_law_right" k ["_law_box_here"] (spL K 1 Ph_law_right)) : FnOk P w K mg base CX0 (k + 1) f fd ["_law_script"] (spD K 1 Ph_law) :=
  dfn F sc_law fun cdv A outer s H E hr => ⟨_, d_law hr B C_many_webs C_law_box C_law_right, r_law⟩
end
theorem all_mk {l : PySem.W.OpenLaw} {w : World} {K : PySem.W.Frag} {h : Heap} {mg : Str → Option Value} {fa f1 f2 f3 f4 f5 f6 f7 f8 f9 f10 : Addr} (X : K.In h) (G : h.Ns mainGlobals mg) (hfa : mg "law" = some (.ref fa))
    {od1 an1 od2 an2 od3 an3 od4 an4 od5 an5 od6 an6 od7 an7 od8 an8 od9 an9 od10 an10 : Option Addr} {sl1 sl2 sl3 sl4 sl5 sl6 sl7 sl8 sl9 sl10 : Array (Option Value)} {oc1 kV1 dc1 pm1 cd1 ct1 oc2 kV2 dc2 pm2 cd2 ct2 oc3 kV3 dc3 pm3 cd3 ct3 oc4 kV4 dc4 pm4 cd4 ct4 oc5 kV5 dc5 pm5 cd5 ct5 oc6 kV6 dc6 pm6 cd6 ct6 oc7 kV7 dc7 pm7 cd7 ct7 oc8 kV8 dc8 pm8 cd8 ct8 oc9 kV9 dc9 pm9 cd9 ct9 oc10 kV10 dc10 pm10 cd10 ct10 : Value}
    (a1 : PySem.W.nsIn K mainGlobals "pair_sets" = some (some (.ref f1))) (l1 : K.lookup f1 = some ⟨oc1, od1, .func (PySem.W.fnOf "pair_sets" "pair_sets" (defArgs s_pair_sets) (defBody s_pair_sets) (defScope s_pair_sets) .none kV1 dc1 pm1 an1 cd1 ct1), sl1⟩) (c1 : PySem.W.codeIn K cd1 "pair_sets" = true) (k1 : PySem.W.keepIn K (.ref f1) = true)
    (a2 : PySem.W.nsIn K mainGlobals "times" = some (some (.ref f2))) (l2 : K.lookup f2 = some ⟨oc2, od2, .func (PySem.W.fnOf "times" "times" (defArgs s_times) (defBody s_times) (defScope s_times) .none kV2 dc2 pm2 an2 cd2 ct2), sl2⟩) (c2 : PySem.W.codeIn K cd2 "times" = true) (k2 : PySem.W.keepIn K (.ref f2) = true)
    (a3 : PySem.W.nsIn K mainGlobals "raised" = some (some (.ref f3))) (l3 : K.lookup f3 = some ⟨oc3, od3, .func (PySem.W.fnOf "raised" "raised" (defArgs s_raised) (defBody s_raised) (defScope s_raised) .none kV3 dc3 pm3 an3 cd3 ct3), sl3⟩) (c3 : PySem.W.codeIn K cd3 "raised" = true) (k3 : PySem.W.keepIn K (.ref f3) = true)
    (a4 : PySem.W.nsIn K mainGlobals "many_webs" = some (some (.ref f4))) (l4 : K.lookup f4 = some ⟨oc4, od4, .func (PySem.W.fnOf "many_webs" "many_webs" (defArgs s_many_webs) (defBody s_many_webs) (defScope s_many_webs) .none kV4 dc4 pm4 an4 cd4 ct4), sl4⟩) (c4 : PySem.W.codeIn K cd4 "many_webs" = true) (k4 : PySem.W.keepIn K (.ref f4) = true)
    (a5 : PySem.W.nsIn K mainGlobals "_law_box" = some (some (.ref f5))) (l5 : K.lookup f5 = some ⟨oc5, od5, .func (PySem.W.fnOf "_law_box" "_law_box" (defArgs s_law_box) (defBody s_law_box) (defScope s_law_box) .none kV5 dc5 pm5 an5 cd5 ct5), sl5⟩) (c5 : PySem.W.codeIn K cd5 "_law_box" = true) (k5 : PySem.W.keepIn K (.ref f5) = true)
    (a6 : PySem.W.nsIn K mainGlobals "_law_take" = some (some (.ref f6))) (l6 : K.lookup f6 = some ⟨oc6, od6, .func (PySem.W.fnOf "_law_take" "_law_take" (defArgs s_law_take) (defBody s_law_take) (defScope s_law_take) .none kV6 dc6 pm6 an6 cd6 ct6), sl6⟩) (c6 : PySem.W.codeIn K cd6 "_law_take" = true) (k6 : PySem.W.keepIn K (.ref f6) = true)
    (a7 : PySem.W.nsIn K mainGlobals "_law_lots_of" = some (some (.ref f7))) (l7 : K.lookup f7 = some ⟨oc7, od7, .func (PySem.W.fnOf "_law_lots_of" "_law_lots_of" (defArgs s_law_lots_of) (defBody s_law_lots_of) (defScope s_law_lots_of) .none kV7 dc7 pm7 an7 cd7 ct7), sl7⟩) (c7 : PySem.W.codeIn K cd7 "_law_lots_of" = true) (k7 : PySem.W.keepIn K (.ref f7) = true)
    (a8 : PySem.W.nsIn K mainGlobals "_law_product" = some (some (.ref f8))) (l8 : K.lookup f8 = some ⟨oc8, od8, .func (PySem.W.fnOf "_law_product" "_law_product" (defArgs s_law_product) (defBody s_law_product) (defScope s_law_product) .none kV8 dc8 pm8 an8 cd8 ct8), sl8⟩) (c8 : PySem.W.codeIn K cd8 "_law_product" = true) (k8 : PySem.W.keepIn K (.ref f8) = true)
    (a9 : PySem.W.nsIn K mainGlobals "_law_right" = some (some (.ref f9))) (l9 : K.lookup f9 = some ⟨oc9, od9, .func (PySem.W.fnOf "_law_right" "_law_right" (defArgs s_law_right) (defBody s_law_right) (defScope s_law_right) .none kV9 dc9 pm9 an9 cd9 ct9), sl9⟩) (c9 : PySem.W.codeIn K cd9 "_law_right" = true) (k9 : PySem.W.keepIn K (.ref f9) = true)
    (a10 : PySem.W.nsIn K mainGlobals "law" = some (some (.ref f10))) (l10 : K.lookup f10 = some ⟨oc10, od10, .func (PySem.W.fnOf "law" "law" (defArgs s_law) (defBody s_law) (defScope s_law) .none kV10 dc10 pm10 an10 cd10 ct10), sl10⟩) (c10 : PySem.W.codeIn K cd10 "law" = true) (k10 : PySem.W.keepIn K (.ref f10) = true)
    (z1 : PySem.W.nsIn K mainGlobals "len" = some none) (z2 : PySem.W.nsIn K mainGlobals "enumerate" = some none) (z3 : PySem.W.nsIn K mainGlobals "range" = some none) (z4 : PySem.W.nsIn K mainGlobals "zip" = some none) (z5 : PySem.W.nsIn K mainGlobals "min" = some none) (z6 : PySem.W.nsIn K mainGlobals "abs" = some none) (z7 : PySem.W.nsIn K mainGlobals "int" = some none) (z8 : PySem.W.nsIn K mainGlobals "isinstance" = some none) (z9 : PySem.W.nsIn K mainGlobals "bool" = some none) (z10 : PySem.W.nsIn K mainGlobals "all" = some none) :
    ∃ fd : FuncData, (∀ (s : Shared) (v : Value), BindsTo s fd ⟨[v], []⟩ [("_law_script", v)]) ∧ ∀ base : Heap, K.In base → base.Ns mainGlobals mg → FnOk l.prog w K mg base CX0 22 fa fd ["_law_script"] (spD K 1 Ph_law) := by
  have e := hfa.symm.trans (PySem.W.mg_of X G a10)
  cases e
  have F1 := fun_mk (st := s_pair_sets) l1 c1 k1
  have b1 := F1.binds (ps := ["ropes"]) fun _ _ _ _ _ _ us hl => match us, hl with | [_], _ => rfl
  have m1 := PySem.W.mg_of X G a1
  have F2 := fun_mk (st := s_times) l2 c2 k2
  have b2 := F2.binds (ps := ["one", "other"]) fun _ _ _ _ _ _ us hl => match us, hl with | [_, _], _ => rfl
  have m2 := PySem.W.mg_of X G a2
  have F3 := fun_mk (st := s_raised) l3 c3 k3
  have b3 := F3.binds (ps := ["some", "often"]) fun _ _ _ _ _ _ us hl => match us, hl with | [_, _], _ => rfl
  have m3 := PySem.W.mg_of X G a3
  have F4 := fun_mk (st := s_many_webs) l4 c4 k4
  have b4 := F4.binds (ps := ["ropes", "hooks"]) fun _ _ _ _ _ _ us hl => match us, hl with | [_, _], _ => rfl
  have m4 := PySem.W.mg_of X G a4
  have F5 := fun_mk (st := s_law_box) l5 c5 k5
  have b5 := F5.binds (ps := ["_law_script", "_law_k"]) fun _ _ _ _ _ _ us hl => match us, hl with | [_, _], _ => rfl
  have m5 := PySem.W.mg_of X G a5
  have F6 := fun_mk (st := s_law_take) l6 c6 k6
  have b6 := F6.binds (ps := ["_law_box_here", "_law_bound"]) fun _ _ _ _ _ _ us hl => match us, hl with | [_, _], _ => rfl
  have m6 := PySem.W.mg_of X G a6
  have F7 := fun_mk (st := s_law_lots_of) l7 c7 k7
  have b7 := F7.binds (ps := ["_law_ropes", "_law_pairs"]) fun _ _ _ _ _ _ us hl => match us, hl with | [_, _], _ => rfl
  have m7 := PySem.W.mg_of X G a7
  have F8 := fun_mk (st := s_law_product) l8 c8 k8
  have b8 := F8.binds (ps := ["_law_one", "_law_two"]) fun _ _ _ _ _ _ us hl => match us, hl with | [_, _], _ => rfl
  have m8 := PySem.W.mg_of X G a8
  have F9 := fun_mk (st := s_law_right) l9 c9 k9
  have b9 := F9.binds (ps := ["_law_box_here"]) fun _ _ _ _ _ _ us hl => match us, hl with | [_], _ => rfl
  have m9 := PySem.W.mg_of X G a9
  have F10 := fun_mk (st := s_law) l10 c10 k10
  have b10 := F10.binds (ps := ["_law_script"]) fun _ _ _ _ _ _ us hl => match us, hl with | [_], _ => rfl
  have m10 := PySem.W.mg_of X G a10
  have B : Bn mg := ⟨PySem.W.mg_none_of X G z1, PySem.W.mg_none_of X G z2, PySem.W.mg_none_of X G z3, PySem.W.mg_none_of X G z4, PySem.W.mg_none_of X G z5, PySem.W.mg_none_of X G z6, PySem.W.mg_none_of X G z7, PySem.W.mg_none_of X G z8, PySem.W.mg_none_of X G z9, PySem.W.mg_none_of X G z10⟩
  refine ⟨PySem.W.fnOf "law" "law" (defArgs s_law) (defBody s_law) (defScope s_law) .none kV10 dc10 pm10 an10 cd10 ct10, fun s v => .of_eq rfl, fun base _ _ => ?_⟩
  have O1 := ok_pair_sets (P := l.prog) (w := w) (base := base) (k := 0) F1 B 
  have C_pair_sets : Cal l.prog w K mg base "pair_sets" 1 ["ropes"] (spD K 1 Ph_pair_sets) := ⟨_, _, O1, m1, k1, b1⟩
  have O2 := ok_times (P := l.prog) (w := w) (base := base) (k := 0) F2 B 
  have C_times : Cal l.prog w K mg base "times" 1 ["one", "other"] (spD K 2 Ph_times) := ⟨_, _, O2, m2, k2, b2⟩
  have O3 := ok_raised (P := l.prog) (w := w) (base := base) (k := 1) F3 B (C_times.mono (by decide))
  have C_raised : Cal l.prog w K mg base "raised" 2 ["some", "often"] (spD K 2 Ph_raised) := ⟨_, _, O3, m3, k3, b3⟩
  have O4 := ok_many_webs (P := l.prog) (w := w) (base := base) (k := 2) F4 B (C_pair_sets.mono (by decide)) (C_raised.mono (by decide)) (C_times.mono (by decide))
  have C_many_webs : Cal l.prog w K mg base "many_webs" 3 ["ropes", "hooks"] (spD K 2 Ph_many_webs) := ⟨_, _, O4, m4, k4, b4⟩
  have O5 := ok_law_box (P := l.prog) (w := w) (base := base) (k := 0) F5 B 
  have C_law_box : Cal l.prog w K mg base "_law_box" 1 ["_law_script", "_law_k"] (spD K 2 Ph_law_box) := ⟨_, _, O5, m5, k5, b5⟩
  have O6 := ok_law_take (P := l.prog) (w := w) (base := base) (k := 0) F6 B 
  have C_law_take : Cal l.prog w K mg base "_law_take" 1 ["_law_box_here", "_law_bound"] (spL K 2 Ph_law_take) := ⟨_, _, O6, m6, k6, b6⟩
  have R7 := ok_law_lots_of (P := l.prog) (w := w) (base := base) (k := 0) F7 B m7 k7 b7
  have C_law_lots_of : Cal l.prog w K mg base "_law_lots_of" 20 ["_law_ropes", "_law_pairs"] (spD K 2 Ph_law_lots_of) := ⟨_, _, (R7 20).mono (by decide), m7, k7, b7⟩
  have O8 := ok_law_product (P := l.prog) (w := w) (base := base) (k := 0) F8 B 
  have C_law_product : Cal l.prog w K mg base "_law_product" 1 ["_law_one", "_law_two"] (spD K 2 Ph_law_product) := ⟨_, _, O8, m8, k8, b8⟩
  have O9 := ok_law_right (P := l.prog) (w := w) (base := base) (k := 20) F9 B (C_law_take.mono (by decide)) (C_many_webs.mono (by decide)) (C_law_lots_of.mono (by decide)) (C_law_product.mono (by decide))
  have C_law_right : Cal l.prog w K mg base "_law_right" 21 ["_law_box_here"] (spL K 1 Ph_law_right) := ⟨_, _, O9, m9, k9, b9⟩
  exact ok_law (k := 21) F10 B (C_many_webs.mono (by decide)) (C_law_box.mono (by decide)) (C_law_right.mono (by decide))
end K77
open PySem PySem.W PyProof.Rows
set_option maxRecDepth 100000 in
set_option maxHeartbeats 0 in
theorem PySem.Challenge.cw_drawnropes_k77_whole_counts_by_the_sum_holds : PySem.Challenge.rw_drawnropes_k77_whole_counts_by_the_sum.Holds := by
  w_on; o_law; k_head; (case hw => w_witness2)
  k_fill
  refine DL.walkD (l := PySem.Challenge.rw_drawnropes_k77_whole_counts_by_the_sum) (n := 63) (k := 22) (x := "_law_script") (Φ := K77.Ph_law) rfl (by decide) rfl ⟨rfl, by decide, by decide⟩ (fun w h Y => PySem.W.kIn_of Y) ?F (fun ns hl => ⟨ns, rfl, rfl⟩)
  case F =>
    intro w mg fa h KX G hmg
    refine' K77.all_mk KX G hmg ?a1 ?l1 ?c1 ?k1 ?a2 ?l2 ?c2 ?k2 ?a3 ?l3 ?c3 ?k3 ?a4 ?l4 ?c4 ?k4 ?a5 ?l5 ?c5 ?k5 ?a6 ?l6 ?c6 ?k6 ?a7 ?l7 ?c7 ?k7 ?a8 ?l8 ?c8 ?k8 ?a9 ?l9 ?c9 ?k9 ?a10 ?l10 ?c10 ?k10 ?z1 ?z2 ?z3 ?z4 ?z5 ?z6 ?z7 ?z8 ?z9 ?z10
    (case a1 => k_is); (case l1 => k_is); (case c1 => k_is); (case k1 => k_is); (case a2 => k_is); (case l2 => k_is); (case c2 => k_is); (case k2 => k_is)
    (case a3 => k_is); (case l3 => k_is); (case c3 => k_is); (case k3 => k_is); (case a4 => k_is); (case l4 => k_is); (case c4 => k_is); (case k4 => k_is)
    (case a5 => k_is); (case l5 => k_is); (case c5 => k_is); (case k5 => k_is); (case a6 => k_is); (case l6 => k_is); (case c6 => k_is); (case k6 => k_is)
    (case a7 => k_is); (case l7 => k_is); (case c7 => k_is); (case k7 => k_is); (case a8 => k_is); (case l8 => k_is); (case c8 => k_is); (case k8 => k_is)
    (case a9 => k_is); (case l9 => k_is); (case c9 => k_is); (case k9 => k_is); (case a10 => k_is); (case l10 => k_is); (case c10 => k_is); (case k10 => k_is)
    (case z1 => k_is); (case z2 => k_is); (case z3 => k_is); (case z4 => k_is); (case z5 => k_is); (case z6 => k_is); (case z7 => k_is); (case z8 => k_is)
    (case z9 => k_is); (case z10 => k_is)
