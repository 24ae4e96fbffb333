import PyProof.Rows.All
import Wide.All
import OpenK.AllK
import Wide.FinOn
import HandS.ForMost
import HandS.Style
import HandS.Defaults
import HandS.NoneIn
import HandS.Zip
import HandS.TupLe
import HandS.TupAny
import HandS.Deep
import HandS.IsInst
import KE.SortData
import KE.KUnpackStar
import HandS.Iter
import KE.GoesMore
import KE.GoesEnum
import PyProof.ReprRoads
import PyProof.ReprLen
import HandS.SetKeys
import HandS.Small
import PyProof.DictValues
import PyProof.DictIter
import KE.KDictList
import HandS.Dict
import HandS.List
import HandS.DictComp
import HandS.SetFor
import KE.DataMinMax
import HandS.Set
import HandS.Comp
import HandS.SetBool
import HandS.Strs
import HandS.More
import PySem.Challenge.RW_drawnropes_k64_whole_put_together_and_un
set_option Elab.async false
set_option linter.all false
set_option maxRecDepth 100000
set_option maxHeartbeats 4000000
/-! DLa: plain data over the hand layer: what represents what, cells, steps, the judgements of expressions. -/
namespace DL
open PySem PySem.Spec PyProof.Rows L2

/-! ### heaps -/
def Ex (H H' : Hp) : Prop := ∀ a o, H a = some o → H' a = some o
theorem Ex.refl (H : Hp) : Ex H H := fun _ _ h => h
theorem Ex.trans {H H1 H2 : Hp} (a : Ex H H1) (b : Ex H1 H2) : Ex H H2 := fun x o h => b x o (a x o h)
theorem Ex.new {H : Hp} {p : Addr} {o : HO} (h : H p = none) : Ex H (upd H p o) := fun a u e => by
  rw [upd_ne (ne_of_none e h)]; exact e
theorem Ex.free {H H' : Hp} {p : Addr} (e : Ex H H') (h : H' p = none) : H p = none := by
  cases q : H p with
  | none => rfl
  | some o => rw [e p o q] at h; cases h
/-- both sides get the same new object -/
theorem Ex.upd2 {H H' : Hp} {p : Addr} {o : HO} (e : Ex H H') : Ex (upd H p o) (upd H' p o) := fun a u h => by
  by_cases q : a = p
  · subst q; rw [upd_same] at h ⊢; exact h
  · rw [upd_ne q] at h ⊢; exact e a u h
/-- what the lesser heap does not know may change -/
theorem Ex.mut {H H' : Hp} {p : Addr} {o : HO} (e : Ex H H') (h : H p = none) : Ex H (upd H' p o) := fun a u ha => by
  rw [upd_ne (ne_of_none ha h)]; exact e a u ha
/-- the lesser heap learns what stands in the greater one -/
theorem Ex.learn {H H' : Hp} {p : Addr} {o : HO} (e : Ex H H') (h : H' p = some o) : Ex (upd H p o) H' := fun a u ha => by
  by_cases q : a = p
  · subst q; rw [upd_same] at ha; rw [h]; exact ha
  · rw [upd_ne q] at ha; exact e a u ha
theorem ex_sl {K : PySem.W.Frag} {H H' : Hp} {a : Addr} {xs : List V} (e : Ex H H') (h : SqL K H a xs) : SqL K H' a xs := by
  rcases h with (h | ⟨o, h⟩) | h
  · exact .inl (.inl (e _ _ h))
  · exact .inl (.inr ⟨o, e _ _ h⟩)
  · exact .inr h
theorem ex_st {K : PySem.W.Frag} {H H' : Hp} {a : Addr} {xs : List V} (e : Ex H H') (h : SqT K H a xs) : SqT K H' a xs := by
  rcases h with (h | ⟨o, h⟩) | h
  · exact .inl (.inl (e _ _ h))
  · exact .inl (.inr ⟨o, e _ _ h⟩)
  · exact .inr h
theorem sql_of {K : PySem.W.Frag} {H : Hp} {a : Addr} {xs : List V} (h : H a = some (.lst xs)) : SqL K H a xs := .inl (.inl h)
theorem sqt_of {K : PySem.W.Frag} {H : Hp} {a : Addr} {xs : List V} (h : H a = some (.tup xs)) : SqT K H a xs := .inl (.inl h)

/-! ### plain data in a heap -/
mutual
inductive Rp (K : PySem.W.Frag) (H : Hp) : V → PyData → Prop
  | non : Rp K H .non .none
  | bl (b : Bool) : Rp K H (.bl b) (.bool b)
  | int (i : Int) : Rp K H (.int i) (.int i)
  | str (x : Str) : Rp K H (.str x) (.str x)
  | lst {a : Addr} {xs : List V} {ds : List PyData} : H a = some (.lst xs) → RpA K H xs ds → Rp K H (.ref a) (.list ds)
  | tup {a : Addr} {xs : List V} {ds : List PyData} : SqT K H a xs → RpA K H xs ds → Rp K H (.ref a) (.tuple ds)
inductive RpA (K : PySem.W.Frag) (H : Hp) : List V → List PyData → Prop
  | nil : RpA K H [] []
  | cons {v : V} {vs : List V} {d : PyData} {ds : List PyData} : Rp K H v d → RpA K H vs ds → RpA K H (v :: vs) (d :: ds)
end
section
variable {K : PySem.W.Frag} {H H' : Hp}
mutual
theorem Rp.mono (e : Ex H H') : ∀ (d : PyData) (v : V), Rp K H v d → Rp K H' v d
  | .none, _, h => by cases h; exact .non
  | .bool b, _, h => by cases h; exact .bl b
  | .int i, _, h => by cases h; exact .int i
  | .str x, _, h => by cases h; exact .str x
  | .list ds, _, h => by
    cases h with
    | lst h1 h2 => exact .lst (e _ _ h1) (RpA.mono e ds _ h2)
  | .tuple ds, _, h => by
    cases h with
    | tup h1 h2 => exact .tup (ex_st e h1) (RpA.mono e ds _ h2)
  | .dict _, _, h => by cases h
theorem RpA.mono (e : Ex H H') : ∀ (ds : List PyData) (vs : List V), RpA K H vs ds → RpA K H' vs ds
  | [], _, h => by cases h; exact .nil
  | d :: ds, _, h => by
    cases h with
    | cons h1 h2 => exact .cons (Rp.mono e d _ h1) (RpA.mono e ds _ h2)
end
mutual
theorem Rp.dp : ∀ (d : PyData) (v : V), Rp K H v d → Dp K H v d
  | .none, _, h => by cases h; exact .non
  | .bool b, _, h => by cases h; exact .bl b
  | .int i, _, h => by cases h; exact .int i
  | .str x, _, h => by cases h; exact .str x
  | .list ds, _, h => by
    cases h with
    | lst h1 h2 => exact .lst (sql_of h1) (RpA.dp ds _ h2)
  | .tuple ds, _, h => by
    cases h with
    | tup h1 h2 => exact .tup h1 (RpA.dp ds _ h2)
  | .dict _, _, h => by cases h
theorem RpA.dp : ∀ (ds : List PyData) (vs : List V), RpA K H vs ds → DpAll K H vs ds
  | [], _, h => by cases h; exact .nil
  | d :: ds, _, h => by
    cases h with
    | cons h1 h2 => exact .cons (Rp.dp d _ h1) (RpA.dp ds _ h2)
end
theorem RpA.len : ∀ {vs : List V} {ds : List PyData}, RpA K H vs ds → vs.length = ds.length
  | _, _, .nil => rfl
  | _, _, .cons _ t => congrArg (· + 1) (RpA.len t)
theorem RpA.app : ∀ {vs ws : List V} {ds es : List PyData}, RpA K H vs ds → RpA K H ws es → RpA K H (vs ++ ws) (ds ++ es)
  | _, _, _, _, .nil, q => q
  | _, _, _, _, .cons r t, q => .cons r (RpA.app t q)
theorem RpA.take : ∀ (n : Nat) {vs : List V} {ds : List PyData}, RpA K H vs ds → RpA K H (vs.take n) (ds.take n)
  | 0, _, _, _ => .nil
  | _ + 1, _, _, .nil => .nil
  | n + 1, _, _, .cons r t => .cons r (RpA.take n t)
theorem RpA.drop : ∀ (n : Nat) {vs : List V} {ds : List PyData}, RpA K H vs ds → RpA K H (vs.drop n) (ds.drop n)
  | 0, _, _, r => r
  | _ + 1, _, _, .nil => .nil
  | n + 1, _, _, .cons _ t => RpA.drop n t
theorem RpA.get : ∀ {vs : List V} {ds : List PyData} {i : Nat} {d : PyData}, RpA K H vs ds → ds[i]? = some d → ∃ v, vs[i]? = some v ∧ Rp K H v d
  | _, _, _, _, .nil, e => by simp at e
  | _, _, 0, _, .cons r _, e => by simp at e; subst e; exact ⟨_, rfl, r⟩
  | _, _, i + 1, d, .cons _ t, e => by
    obtain ⟨v, h1, h2⟩ := RpA.get (i := i) (d := d) t (by simpa using e)
    exact ⟨v, by simpa using h1, h2⟩
theorem RpA.getV : ∀ {vs : List V} {ds : List PyData} {i : Nat} {v : V}, RpA K H vs ds → vs[i]? = some v → ∃ d, ds[i]? = some d ∧ Rp K H v d
  | _, _, _, _, .nil, e => by simp at e
  | _, _, 0, _, .cons r _, e => by simp at e; subst e; exact ⟨_, rfl, r⟩
  | _, _, i + 1, v, .cons _ t, e => by
    obtain ⟨d, h1, h2⟩ := RpA.getV (i := i) (v := v) t (by simpa using e)
    exact ⟨d, by simpa using h1, h2⟩
theorem RpA.set {v : V} {d : PyData} (r : Rp K H v d) : ∀ (i : Nat) {vs : List V} {ds : List PyData}, RpA K H vs ds → RpA K H (vs.set i v) (ds.set i d)
  | _, _, _, .nil => .nil
  | 0, _, _, .cons _ t => .cons r t
  | i + 1, _, _, .cons q t => .cons q (RpA.set r i t)
theorem RpA.rev : ∀ {vs : List V} {ds : List PyData}, RpA K H vs ds → RpA K H vs.reverse ds.reverse
  | _, _, .nil => .nil
  | _, _, .cons r t => by
    rw [List.reverse_cons, List.reverse_cons]
    exact (RpA.rev t).app (.cons r .nil)
end

/-! ### results, cells, places -/
inductive R where
  | d (x : PyData)
  | c (k : Nat)
  | f (xs : List PyData)
  | s (ns : List Int)
  | b (ks : List Nat)
  | h (es : List (Key × PyData))
  | o (u : HO)
inductive Cell where
  | l (xs : List PyData)
  | z (x : PyData)
  | m (es : List (Key × R))
  | k (es : List (Key × PyData))
  | x (u : HO)
abbrev Rho := List (Option R)
abbrev Kap := List Cell
/-- a fresh list that is let go is plain data -/
def R.st : R → R
  | .f xs => .d (.list xs)
  | r => r
/-- what is read there now -/
def val (κ : Kap) : R → Option PyData
  | .d x => some x
  | .f xs => some (.list xs)
  | .c k => match κ[k]? with
    | some (.l xs) => some (.list xs)
    | some (.z x) => some x
    | some (.m _) => none
    | some (.k _) => none
    | some (.x _) => none
    | none => none
  | .s _ => none
  | .b _ => none
  | .h _ => none
  | .o _ => none
/-- a key as a thing -/
def keyP : Key → PyData
  | .inl i => .int i
  | .inr z => .str z
/-- a dict that is known for good: nobody changes it -/
def ItH (K : PySem.W.Frag) (G : Hp) (v : V) (es : List (Key × PyData)) : Prop := ∃ a o kvs, v = .ref a ∧ G a = some (.frz o (.dK kvs)) ∧ Paired (fun (kv : Key × V) (e : Key × PyData) => kv.1 = e.1 ∧ Rp K G kv.2 e.2) kvs es
theorem ItH.mono {K : PySem.W.Frag} {G G' : Hp} {v : V} {es : List (Key × PyData)} (e : Ex G G') (h : ItH K G v es) : ItH K G' v es := by
  obtain ⟨a, o, kvs, h1, h2, h3⟩ := h
  exact ⟨a, o, kvs, h1, e _ _ h2, Paired.mapP h3 fun _ _ z => ⟨z.1, Rp.mono e _ _ z.2⟩⟩

def It (K : PySem.W.Frag) (G : Hp) (As : List Addr) (v : V) : R → Prop
  | .d x => Rp K G v x
  | .c k => ∃ a, As[k]? = some a ∧ v = .ref a
  | .f _ => False
  | .s ns => ∃ a, v = .ref a ∧ SqL K G a (ns.map V.int)
  | .b ks => ∃ a vs, v = .ref a ∧ G a = some (.lst vs) ∧ vs.length = ks.length ∧ ∀ (i k : Nat), ks[i]? = some k → ∃ c, As[k]? = some c ∧ vs[i]? = some (V.ref c)
  | .h es => ItH K G v es
  | .o u => ∃ a, v = .ref a ∧ G a = some u
/-- a dict's entries -/
def Mp (K : PySem.W.Frag) (G : Hp) (As : List Addr) (kvs : List (Key × V)) (es : List (Key × R)) : Prop := Paired (fun kv e => kv.1 = e.1 ∧ It K G As kv.2 e.2) kvs es
def CellOk (K : PySem.W.Frag) (G H : Hp) (As : List Addr) (a : Addr) : Cell → Prop
  | .l ds => G a = none ∧ ∃ vs, H a = some (.lst vs) ∧ RpA K G vs ds
  | .z x => Rp K G (.ref a) x
  | .m es => G a = none ∧ ∃ kvs, H a = some (.dK kvs) ∧ Mp K G As kvs es
  | .k es => ItH K G (.ref a) es
  | .x u => G a = none ∧ H a = some u
/-- what stands: G what is known for good, the cells at As -/
structure Cells (K : PySem.W.Frag) (G H : Hp) (As : List Addr) (κ : Kap) : Prop where
  ext : Ex G H
  len : As.length = κ.length
  nd : As.Nodup
  al : ∀ a, a ∈ As → ∃ o, H a = some o
  ok : ∀ (k : Nat) (c : Cell) (a : Addr), κ[k]? = some c → As[k]? = some a → CellOk K G H As a c
structure Places (K : PySem.W.Frag) (G : Hp) (As : List Addr) (σ : L2.St) (ρ : Rho) : Prop where
  len : σ.length = ρ.length
  ok : ∀ (i : Nat) (r : R), ρ[i]? = some (some r) → ∃ v, σ[i]? = some (some v) ∧ It K G As v r
structure Step (G H : Hp) (As : List Addr) (G' H' : Hp) (As' : List Addr) : Prop where
  ex : Ex G G'
  pre : ∃ bs, As' = As ++ bs
  new : ∀ a, a ∈ As' → a ∈ As ∨ H a = none
  fr : ∀ b o, b ∉ As → H b = some o → H' b = some o
  dom : ∀ b, H' b = none → H b = none
  gn : ∀ b, G b = none → G' b = none ∨ H b = none ∨ b ∈ As
def Rv (K : PySem.W.Frag) (H0 G H : Hp) (As : List Addr) (v : V) : R → Prop
  | .f xs => ∃ p vs, v = .ref p ∧ H0 p = none ∧ G p = none ∧ p ∉ As ∧ H p = some (.lst vs) ∧ RpA K G vs xs
  | r => It K G As v r

section
variable {K : PySem.W.Frag} {G H G' H' G1 H1 H0 : Hp} {As As' As1 : List Addr} {σ : L2.St} {ρ : Rho} {κ κ' : Kap} {v : V} {r : R}
theorem Step.refl : Step G H As G H As := ⟨Ex.refl G, ⟨[], by simp⟩, fun _ h => .inl h, fun _ _ _ h => h, fun _ h => h, fun _ h => .inl h⟩
theorem Step.trans (a : Step G H As G1 H1 As1) (b : Step G1 H1 As1 G' H' As') : Step G H As G' H' As' where
  ex := a.ex.trans b.ex
  pre := by
    obtain ⟨x, ex⟩ := a.pre
    obtain ⟨y, ey⟩ := b.pre
    exact ⟨x ++ y, by rw [ey, ex, List.append_assoc]⟩
  new := fun c h => by
    rcases b.new c h with h | h
    · exact a.new c h
    · exact .inr (a.dom c h)
  fr := fun c o hc h => by
    refine b.fr c o (fun hm => ?_) (a.fr c o hc h)
    rcases a.new c hm with q | q
    · exact hc q
    · rw [h] at q; cases q
  dom := fun c h => a.dom c (b.dom c h)
  gn := fun c h => by
    rcases a.gn c h with q | q | q
    · rcases b.gn c q with z | z | z
      · exact .inl z
      · exact .inr (.inl (a.dom c z))
      · rcases a.new c z with y | y
        · exact .inr (.inr y)
        · exact .inr (.inl y)
    · exact .inr (.inl q)
    · exact .inr (.inr q)
theorem It.mono (e : Ex G G') (p : ∃ bs, As' = As ++ bs) (h : It K G As v r) : It K G' As' v r := by
  cases r with
  | d x => exact Rp.mono e x v h
  | c k =>
    obtain ⟨a, h1, h2⟩ := h
    obtain ⟨bs, rfl⟩ := p
    refine ⟨a, ?_, h2⟩
    rw [List.getElem?_append_left (List.getElem?_eq_some_iff.mp h1).1]
    exact h1
  | f xs => exact h
  | s ns =>
    obtain ⟨a, h1, h2⟩ := h
    exact ⟨a, h1, ex_sl e h2⟩
  | b ks =>
    obtain ⟨a, vs, h1, h2, h3, h4⟩ := h
    refine ⟨a, vs, h1, e _ _ h2, h3, fun i k hk => ?_⟩
    obtain ⟨c, e1, e2⟩ := h4 i k hk
    obtain ⟨bs, rfl⟩ := p
    exact ⟨c, by rw [List.getElem?_append_left (List.getElem?_eq_some_iff.mp e1).1]; exact e1, e2⟩
  | h es => exact ItH.mono e h
  | o u =>
    obtain ⟨a, h1, h2⟩ := h
    exact ⟨a, h1, e _ _ h2⟩
theorem Mp.mono {kvs : List (Key × V)} {es : List (Key × R)} (e : Ex G G') (p : ∃ bs, As' = As ++ bs) (h : Mp K G As kvs es) : Mp K G' As' kvs es := by
  unfold Mp at h ⊢
  induction h with
  | nil => exact .nil
  | cons r _ ih => exact .cons ⟨r.1, r.2.mono e p⟩ ih
theorem Step.it (s : Step G H As G' H' As') (h : It K G As v r) : It K G' As' v r := h.mono s.ex s.pre
theorem Places.step (p : Places K G As σ ρ) (s : Step G H As G' H' As') : Places K G' As' σ ρ :=
  ⟨p.len, fun i r h => by
    obtain ⟨v, h1, h2⟩ := p.ok i r h
    exact ⟨v, h1, s.it h2⟩⟩
/-- the heap of what is known grows by a new object -/
theorem Cells.laid (c : Cells K G H As κ) {p : Addr} {o : HO} (hp : H p = none) : Cells K (upd G p o) (upd H p o) As κ where
  ext := c.ext.upd2
  len := c.len
  nd := c.nd
  al := fun a h => by
    obtain ⟨u, e⟩ := c.al a h
    exact ⟨u, by rw [upd_ne (ne_of_none e hp)]; exact e⟩
  ok := fun k x a h1 h2 => by
    have q := c.ok k x a h1 h2
    have eG : Ex G (upd G p o) := Ex.new (c.ext.free hp)
    cases x with
    | l ds =>
      obtain ⟨q1, vs, q2, q3⟩ := q
      have ne : a ≠ p := ne_of_none q2 hp
      exact ⟨by rw [upd_ne ne]; exact q1, vs, by rw [upd_ne ne]; exact q2, RpA.mono eG _ _ q3⟩
    | z x => exact Rp.mono eG _ _ q
    | k es => exact ItH.mono eG q
    | x u =>
      obtain ⟨q1, q2⟩ := q
      have ne : a ≠ p := ne_of_none q2 hp
      exact ⟨by rw [upd_ne ne]; exact q1, by rw [upd_ne ne]; exact q2⟩
    | m es =>
      obtain ⟨q1, vs, q2, q3⟩ := q
      have ne : a ≠ p := ne_of_none q2 hp
      exact ⟨by rw [upd_ne ne]; exact q1, vs, by rw [upd_ne ne]; exact q2, q3.mono eG ⟨[], by simp⟩⟩
/-- a new object that is not known for good -/
theorem Cells.fresh (c : Cells K G H As κ) {p : Addr} {o : HO} (hp : H p = none) : Cells K G (upd H p o) As κ where
  ext := c.ext.trans (Ex.new hp)
  len := c.len
  nd := c.nd
  al := fun a h => by
    obtain ⟨u, e⟩ := c.al a h
    exact ⟨u, by rw [upd_ne (ne_of_none e hp)]; exact e⟩
  ok := fun k x a h1 h2 => by
    have q := c.ok k x a h1 h2
    cases x with
    | l ds =>
      obtain ⟨q1, vs, q2, q3⟩ := q
      have ne : a ≠ p := ne_of_none q2 hp
      exact ⟨q1, vs, by rw [upd_ne ne]; exact q2, q3⟩
    | z x => exact q
    | k es => exact q
    | x u =>
      obtain ⟨q1, q2⟩ := q
      have ne : a ≠ p := ne_of_none q2 hp
      exact ⟨q1, by rw [upd_ne ne]; exact q2⟩
    | m es =>
      obtain ⟨q1, vs, q2, q3⟩ := q
      have ne : a ≠ p := ne_of_none q2 hp
      exact ⟨q1, vs, by rw [upd_ne ne]; exact q2, q3⟩
theorem Cells.notin (c : Cells K G H As κ) {p : Addr} (hp : H p = none) : p ∉ As := fun hm => by
  obtain ⟨o, e⟩ := c.al p hm
  rw [hp] at e; cases e
theorem Step.laid (ext : Ex G H) {p : Addr} {o : HO} (hp : H p = none) : Step G H As (upd G p o) (upd H p o) As :=
  ⟨Ex.new (ext.free hp), ⟨[], by simp⟩, fun _ h => .inl h, fun b u _ e => by rw [upd_ne (ne_of_none e hp)]; exact e, fun b e => by
    by_cases q : b = p
    · subst q; exact hp
    · rw [upd_ne q] at e; exact e, fun b e => by
    by_cases q : b = p
    · subst q; exact .inr (.inl hp)
    · exact .inl (by rw [upd_ne q]; exact e)⟩
theorem Step.fresh {p : Addr} {o : HO} (hp : H p = none) : Step G H As G (upd H p o) As :=
  ⟨Ex.refl G, ⟨[], by simp⟩, fun _ h => .inl h, fun b u _ e => by rw [upd_ne (ne_of_none e hp)]; exact e, fun b e => by
    by_cases q : b = p
    · subst q; exact hp
    · rw [upd_ne q] at e; exact e, fun _ e => .inl e⟩
/-- what is known for good grows by an object that stands -/
theorem Cells.learn (c : Cells K G H As κ) {q : Addr} {o : HO} (g0 : G q = none) (nin : q ∉ As) (hq : H q = some o) : Cells K (upd G q o) H As κ :=
  ⟨c.ext.learn hq, c.len, c.nd, c.al, fun k x a h1 h2 => by
    have w := c.ok k x a h1 h2
    have eG : Ex G (upd G q o) := Ex.new g0
    cases x with
    | l ds =>
      obtain ⟨w1, ws, w2, w3⟩ := w
      have ne : a ≠ q := fun e => nin (by rw [← e]; exact List.mem_of_getElem? h2)
      exact ⟨by rw [upd_ne ne]; exact w1, ws, w2, RpA.mono eG _ _ w3⟩
    | m es =>
      obtain ⟨w1, ws, w2, w3⟩ := w
      have ne : a ≠ q := fun e => nin (by rw [← e]; exact List.mem_of_getElem? h2)
      exact ⟨by rw [upd_ne ne]; exact w1, ws, w2, w3.mono eG ⟨[], by simp⟩⟩
    | z x => exact Rp.mono eG _ _ w
    | k es => exact ItH.mono eG w
    | x u =>
      obtain ⟨w1, w2⟩ := w
      have ne : a ≠ q := fun e => nin (by rw [← e]; exact List.mem_of_getElem? h2)
      exact ⟨by rw [upd_ne ne]; exact w1, w2⟩⟩
/-- a fresh list is let go: it is known for good -/
theorem settle (s : Step G1 H1 As1 G H As) (c : Cells K G H As κ) (p : Places K G As σ ρ) (h : Rv K H1 G H As v r) : ∃ G', Step G1 H1 As1 G' H As ∧ Cells K G' H As κ ∧ Places K G' As σ ρ ∧ It K G' As v r.st ∧ Ex G G' := by
  cases r with
  | f xs =>
    obtain ⟨q, vs, rfl, h0, g0, nin, hq, rp⟩ := h
    have eG : Ex G (upd G q (.lst vs)) := Ex.new g0
    refine ⟨upd G q (.lst vs), ⟨s.ex.trans eG, s.pre, s.new, s.fr, s.dom, fun b hb => ?_⟩, c.learn g0 nin hq, ⟨p.len, fun i r h => ?_⟩, .lst upd_same (RpA.mono eG _ _ rp), eG⟩
    · by_cases e : b = q
      · subst e; exact .inr (.inl h0)
      · rw [upd_ne e]; exact s.gn b hb
    · obtain ⟨v, h1, h2⟩ := p.ok i r h
      exact ⟨v, h1, h2.mono eG ⟨[], by simp⟩⟩
  | d x => exact ⟨G, s, c, p, h, Ex.refl G⟩
  | c k => exact ⟨G, s, c, p, h, Ex.refl G⟩
  | s ns => exact ⟨G, s, c, p, h, Ex.refl G⟩
  | b ks => exact ⟨G, s, c, p, h, Ex.refl G⟩
  | h ks => exact ⟨G, s, c, p, h, Ex.refl G⟩
  | o u => exact ⟨G, s, c, p, h, Ex.refl G⟩
/-- a cell is let go: what it holds is known for good -/
theorem freeze {k : Nat} {ds : List PyData} (c : Cells K G H As κ) (h : It K G As v (.c k)) (hk : κ[k]? = some (.l ds)) :
    ∃ G', Step G H As G' H As ∧ Cells K G' H As (κ.set k (.z (.list ds))) ∧ Rp K G' v (.list ds) := by
  obtain ⟨a, h1, rfl⟩ := h
  obtain ⟨g0, vs, hq, rp⟩ := c.ok k _ a hk h1
  have eG : Ex G (upd G a (.lst vs)) := Ex.new g0
  have hm : a ∈ As := List.mem_of_getElem? h1
  refine ⟨upd G a (.lst vs), ⟨eG, ⟨[], by simp⟩, fun _ h => .inl h, fun _ _ _ h => h, fun _ h => h, fun b hb => ?_⟩, ⟨c.ext.learn hq, by rw [List.length_set]; exact c.len, c.nd, c.al, fun j x b e1 e2 => ?_⟩, .lst upd_same (RpA.mono eG _ _ rp)⟩
  · by_cases e : b = a
    · subst e; exact .inr (.inr hm)
    · exact .inl (by rw [upd_ne e]; exact hb)
  · by_cases hj : j = k
    · subst hj
      rw [h1] at e2; cases e2
      rw [List.getElem?_set_self (List.getElem?_eq_some_iff.mp hk).1] at e1
      cases e1
      exact Rp.lst upd_same (RpA.mono eG _ _ rp)
    · rw [List.getElem?_set_ne (fun z => hj z.symm)] at e1
      have w := c.ok j x b e1 e2
      have ne : b ≠ a := fun z => hj (by
        subst z
        obtain ⟨l1, q1⟩ := List.getElem?_eq_some_iff.mp e2
        obtain ⟨l2, q2⟩ := List.getElem?_eq_some_iff.mp h1
        exact (List.getElem_inj c.nd).mp (q1.trans q2.symm))
      cases x with
      | l ds' =>
        obtain ⟨w1, ws, w2, w3⟩ := w
        exact ⟨by rw [upd_ne ne]; exact w1, ws, w2, RpA.mono eG _ _ w3⟩
      | m es =>
        obtain ⟨w1, ws, w2, w3⟩ := w
        exact ⟨by rw [upd_ne ne]; exact w1, ws, w2, w3.mono eG ⟨[], by simp⟩⟩
      | z x => exact Rp.mono eG _ _ w
      | k es => exact ItH.mono eG w
      | x u => exact ⟨by rw [upd_ne ne]; exact w.1, w.2⟩
/-- a cell holds another thing now -/
theorem Cells.put {k : Nat} {a : Addr} {c1 c2 : Cell} {o : HO} (c : Cells K G H As κ) (hk : κ[k]? = some c1) (h1 : As[k]? = some a) (g0 : G a = none) (new : CellOk K G (upd H a o) As a c2) : Cells K G (upd H a o) As (κ.set k c2) := by
  refine ⟨c.ext.mut g0, by rw [List.length_set]; exact c.len, c.nd, fun b hb => ?_, fun j x b e1 e2 => ?_⟩
  · by_cases e : b = a
    · subst e; exact ⟨_, upd_same⟩
    · rw [upd_ne e]; exact c.al b hb
  · by_cases hj : j = k
    · subst hj
      rw [h1] at e2; cases e2
      rw [List.getElem?_set_self (List.getElem?_eq_some_iff.mp hk).1] at e1
      cases e1
      exact new
    · rw [List.getElem?_set_ne (fun z => hj z.symm)] at e1
      have w := c.ok j x b e1 e2
      have ne : b ≠ a := fun z => hj (by
        subst z
        obtain ⟨l1, q1⟩ := List.getElem?_eq_some_iff.mp e2
        obtain ⟨l2, q2⟩ := List.getElem?_eq_some_iff.mp h1
        exact (List.getElem_inj c.nd).mp (q1.trans q2.symm))
      cases x with
      | l ds' =>
        obtain ⟨w1, ws', w2, w3⟩ := w
        exact ⟨w1, ws', by rw [upd_ne ne]; exact w2, w3⟩
      | m es =>
        obtain ⟨w1, ws', w2, w3⟩ := w
        exact ⟨w1, ws', by rw [upd_ne ne]; exact w2, w3⟩
      | z x => exact w
      | k es => exact w
      | x u => exact ⟨w.1, by rw [upd_ne ne]; exact w.2⟩
/-- a cell's list is another one now -/
theorem Cells.write {k : Nat} {a : Addr} {ds es : List PyData} {vs : List V} (c : Cells K G H As κ) (hk : κ[k]? = some (.l ds)) (h1 : As[k]? = some a) (hv : RpA K G vs es) : Cells K G (upd H a (.lst vs)) As (κ.set k (.l es)) := by
  obtain ⟨g0, ws, hq, rp⟩ := c.ok k _ a hk h1
  exact c.put hk h1 g0 ⟨g0, vs, upd_same, hv⟩
theorem Step.write {a : Addr} {o u : HO} (hm : a ∈ As) (hq : H a = some u) : Step G H As G (upd H a o) As :=
  ⟨Ex.refl G, ⟨[], by simp⟩, fun _ h => .inl h, fun b u hb e => by
    rw [upd_ne (fun z => hb (by rw [z]; exact hm))]; exact e, fun b e => by
    by_cases q : b = a
    · subst q; rw [upd_same] at e; cases e
    · rw [upd_ne q] at e; exact e, fun _ e => .inl e⟩
/-- a new cell -/
theorem Cells.moreC {q : Addr} {o : HO} {c2 : Cell} (c : Cells K G H As κ) (nin : q ∉ As) (hq : H q = some o) (new : CellOk K G H (As ++ [q]) q c2) : Cells K G H (As ++ [q]) (κ ++ [c2]) where
  ext := c.ext
  len := by rw [List.length_append, List.length_append, c.len]; rfl
  nd := by
    rw [List.nodup_append]
    refine ⟨c.nd, by simp, fun x hx y hy e => nin ?_⟩
    rw [List.mem_singleton] at hy
    rw [← hy, ← e]; exact hx
  al := fun a h => by
    rcases List.mem_append.mp h with h | h
    · exact c.al a h
    · rw [List.mem_singleton] at h
      subst h; exact ⟨_, hq⟩
  ok := fun k x a e1 e2 => by
    by_cases hk : k < κ.length
    · rw [List.getElem?_append_left hk] at e1
      rw [List.getElem?_append_left (by rw [c.len]; exact hk)] at e2
      have w := c.ok k x a e1 e2
      cases x with
      | l ds => exact w
      | z y => exact w
      | k es => exact w
      | x u => exact w
      | m es =>
        obtain ⟨w1, ws, w2, w3⟩ := w
        exact ⟨w1, ws, w2, w3.mono (Ex.refl G) ⟨[q], rfl⟩⟩
    · have hk' : k = κ.length := by
        have := (List.getElem?_eq_some_iff.mp e1).1
        rw [List.length_append] at this
        have z : ([c2] : List Cell).length = 1 := rfl
        omega
      subst hk'
      rw [List.getElem?_append_right (Nat.le_refl _), Nat.sub_self] at e1
      rw [← c.len, List.getElem?_append_right (Nat.le_refl _), Nat.sub_self] at e2
      cases e1
      cases e2
      exact new
theorem Cells.more {q : Addr} {ds : List PyData} {vs : List V} (c : Cells K G H As κ) (g0 : G q = none) (nin : q ∉ As) (hq : H q = some (.lst vs)) (rp : RpA K G vs ds) : Cells K G H (As ++ [q]) (κ ++ [.l ds]) := c.moreC nin hq ⟨g0, vs, hq, rp⟩
/-- a value as it is seen: its items are known for good -/
def Vw (K : PySem.W.Frag) (G H : Hp) (v : V) : PyData → Prop
  | .list ds => ∃ a vs, v = .ref a ∧ H a = some (.lst vs) ∧ RpA K G vs ds
  | x => Rp K G v x
theorem Vw.of (e : Ex G H) {x : PyData} (h : Rp K G v x) : Vw K G H v x := by
  cases h with
  | non => exact .non
  | bl b => exact .bl b
  | int i => exact .int i
  | str z => exact .str z
  | lst h1 h2 => exact ⟨_, _, rfl, e _ _ h1, h2⟩
  | tup h1 h2 => exact .tup h1 h2
theorem Vw.rp (e : Ex G H) : ∀ {x : PyData}, Vw K G H v x → Rp K H v x
  | .none, h => Rp.mono e _ _ h
  | .bool _, h => Rp.mono e _ _ h
  | .int _, h => Rp.mono e _ _ h
  | .str _, h => Rp.mono e _ _ h
  | .list _, h => by
    obtain ⟨a, vs, rfl, h1, h2⟩ := h
    exact .lst h1 (RpA.mono e _ _ h2)
  | .tuple _, h => Rp.mono e _ _ h
  | .dict _, h => Rp.mono e _ _ h
theorem Vw.tup (e : Ex G H) {ds : List PyData} (h : Vw K G H v (.tuple ds)) : ∃ a vs, v = .ref a ∧ SqT K H a vs ∧ RpA K G vs ds := by
  have h : Rp K G v (.tuple ds) := h
  cases h with
  | tup h1 h2 => exact ⟨_, _, rfl, ex_st e h1, h2⟩
theorem It.vw (c : Cells K G H As κ) (h : It K G As v r) {x : PyData} (e : val κ r = some x) : Vw K G H v x := by
  cases r with
  | d y =>
    cases e
    exact Vw.of c.ext h
  | f xs => exact h.elim
  | s ns => cases e
  | b ks => cases e
  | h ks => cases e
  | o u => cases e
  | c k =>
    obtain ⟨a, h1, rfl⟩ := h
    unfold val at e
    simp only at e
    cases q : κ[k]? with
    | none => rw [q] at e; cases e
    | some cc =>
      rw [q] at e
      have w := c.ok k cc a q h1
      cases cc with
      | l ds =>
        cases e
        obtain ⟨_, vs, w2, w3⟩ := w
        exact ⟨a, vs, rfl, w2, w3⟩
      | m es => cases e
      | k es => cases e
      | x u => cases e
      | z y =>
        cases e
        exact Vw.of c.ext w
end

/-! ### the judgements -/
/-- a reading over plain data: an expression, a test, arguments, a statement, a target -/
abbrev DTE := Rho → Kap → (R → Kap → Prop) → Prop
abbrev DTT := Rho → Kap → (Bool → Kap → Prop) → Prop
abbrev DTA := Rho → Kap → (List R → Kap → Prop) → Prop
structure DEnds where
  nx : Rho → Kap → Prop
  rt : R → Kap → Prop
  bk : Rho → Kap → Prop := fun _ _ => False
  ct : Rho → Kap → Prop := fun _ _ => False
abbrev DTS := DEnds → Rho → Kap → Prop
abbrev DTG := R → Rho → Kap → (Rho → Kap → Prop) → Prop

def DE (X : Cx) (e : Expr) (w : DTE) : Prop := ∃ t, PE X e t ∧ ∀ (G H : Hp) (As : List Addr) (σ : L2.St) (ρ : Rho) (κ : Kap) (P : R → Kap → Prop) (Q : VK), Cells X.K G H As κ → Places X.K G As σ ρ → w ρ κ P →
  (∀ v r G' H' As' κ', Step G H As G' H' As' → Cells X.K G' H' As' κ' → Places X.K G' As' σ ρ → Rv X.K H G' H' As' v r → P r κ' → Q v H') → t σ H Q
def DT (X : Cx) (e : Expr) (w : DTT) : Prop := ∃ t, PT X e t ∧ ∀ (G H : Hp) (As : List Addr) (σ : L2.St) (ρ : Rho) (κ : Kap) (P : Bool → Kap → Prop) (Q : Bool → Hp → Prop), Cells X.K G H As κ → Places X.K G As σ ρ → w ρ κ P →
  (∀ b G' H' As' κ', Step G H As G' H' As' → Cells X.K G' H' As' κ' → Places X.K G' As' σ ρ → P b κ' → Q b H') → t σ H Q
def DW (X : Cx) (e : Expr) (w : DTT) : Prop := ∃ t, PW X e t ∧ ∀ (G H : Hp) (As : List Addr) (σ : L2.St) (ρ : Rho) (κ : Kap) (P : Bool → Kap → Prop) (Q : Bool → Hp → Prop), Cells X.K G H As κ → Places X.K G As σ ρ → w ρ κ P →
  (∀ b G' H' As' κ', Step G H As G' H' As' → Cells X.K G' H' As' κ' → Places X.K G' As' σ ρ → P b κ' → Q b H') → t σ H Q
def DA (X : Cx) (es : List Expr) (w : DTA) : Prop := ∃ t, PA X es t ∧ ∀ (G H : Hp) (As : List Addr) (σ : L2.St) (ρ : Rho) (κ : Kap) (P : List R → Kap → Prop) (Q : List V → Hp → Prop), Cells X.K G H As κ → Places X.K G As σ ρ → w ρ κ P →
  (∀ vs rs G' H' As' κ', Step G H As G' H' As' → Cells X.K G' H' As' κ' → Places X.K G' As' σ ρ → Paired (It X.K G' As') vs rs → rs.length = es.length → P rs κ' → Q vs H') → t σ H Q
/-- what a statement reaches -/
structure Reach (K : PySem.W.Frag) (G H : Hp) (As : List Addr) (E : DEnds) (D : Ends) : Prop where
  nx : ∀ σ' ρ' G' H' As' κ', Step G H As G' H' As' → Cells K G' H' As' κ' → Places K G' As' σ' ρ' → E.nx ρ' κ' → D.nx σ' H'
  bk : ∀ σ' ρ' G' H' As' κ', Step G H As G' H' As' → Cells K G' H' As' κ' → Places K G' As' σ' ρ' → E.bk ρ' κ' → D.bk σ' H'
  ct : ∀ σ' ρ' G' H' As' κ', Step G H As G' H' As' → Cells K G' H' As' κ' → Places K G' As' σ' ρ' → E.ct ρ' κ' → D.ct σ' H'
  rt : ∀ v r G' H' As' κ', Step G H As G' H' As' → Cells K G' H' As' κ' → Rv K H G' H' As' v r → E.rt r κ' → D.rt v H'
def DS (X : Cx) (st : Stmt) (w : DTS) : Prop := ∃ t, PS X st t ∧ ∀ (G H : Hp) (As : List Addr) (σ : L2.St) (ρ : Rho) (κ : Kap) (E : DEnds) (D : Ends), Cells X.K G H As κ → Places X.K G As σ ρ → w E ρ κ → Reach X.K G H As E D → t D σ H
def DSs (X : Cx) (sts : List Stmt) (w : DTS) : Prop := ∃ t, PSs X sts t ∧ ∀ (G H : Hp) (As : List Addr) (σ : L2.St) (ρ : Rho) (κ : Kap) (E : DEnds) (D : Ends), Cells X.K G H As κ → Places X.K G As σ ρ → w E ρ κ → Reach X.K G H As E D → t D σ H
section
variable {K : PySem.W.Frag} {G H G1 H1 : Hp} {As As1 : List Addr} {E : DEnds} {D : Ends}
theorem Rv.back {K : PySem.W.Frag} {G0 H0 G1 H1 G H : Hp} {As0 As1 As : List Addr} {v : V} {r : R} (s : Step G0 H0 As0 G1 H1 As1) (h : Rv K H1 G H As v r) : Rv K H0 G H As v r := by
  cases r with
  | f xs =>
    obtain ⟨p, vs, e, h0, q⟩ := h
    exact ⟨p, vs, e, s.dom p h0, q⟩
  | d x => exact h
  | c k => exact h
  | s ns => exact h
  | b ks => exact h
  | h ks => exact h
  | o u => exact h
theorem Reach.step (r : Reach K G H As E D) (s : Step G H As G1 H1 As1) : Reach K G1 H1 As1 E D :=
  ⟨fun a b c d e f x => r.nx a b c d e f (s.trans x), fun a b c d e f x => r.bk a b c d e f (s.trans x), fun a b c d e f x => r.ct a b c d e f (s.trans x), fun a b c d e f x y z => r.rt a b c d e f (s.trans x) y (z.back s)⟩
end

/-! ### names, constants -/
def wVar (i : Nat) : DTE := fun ρ κ P => match ρ[i]? with
  | some (some r) => P r κ
  | _ => False
def wC (x : PyData) : DTE := fun _ κ P => P (.d x) κ
section
variable {X : Cx}
theorem de_var (i : Nat) {x : Str} {pos : Pos} (hN : X.N[i]? = some x := by rfl) (hv : Vis X.env.scope x := by first | exact Or.inl rfl | exact Or.inr (Or.inl rfl) | exact Or.inr (Or.inr rfl)) (hd : (x == ("__debug__" : Str)) = false := by decide)
    (hcd : (x == ("__classdict__" : Str)) = false := by decide) : DE X (.Name x pos) (wVar i) := by
  refine ⟨_, pe_var hN hv hd hcd, fun G H As σ ρ κ P Q c p w k => ?_⟩
  unfold wVar at w
  split at w
  · rename_i r hr
    obtain ⟨v, h1, h2⟩ := p.ok i r hr
    refine ⟨v, h1, k v r G H As κ Step.refl c p ?_ w⟩
    cases r with
    | f xs => exact h2.elim
    | d x => exact h2
    | c k => exact h2
    | s ns => exact h2
    | b ks => exact h2
    | h ks => exact h2
    | o u => exact h2
  · exact w.elim
theorem de_c {e : Expr} {v : V} {x : PyData} (h : PE X e (tC v)) (hx : ∀ G : Hp, Rp X.K G v x) : DE X e (wC x) :=
  ⟨_, h, fun G H As σ ρ κ P Q c p w k => k v (.d x) G H As κ Step.refl c p (hx G) w⟩
theorem de_int {i : Int} {j : Nat} {pos : Pos} : DE X (.Constant (.int i) j pos) (wC (.int i)) := de_c pe_int fun _ => .int i
theorem de_bl {b : Bool} {j : Nat} {pos : Pos} : DE X (.Constant (.bool b) j pos) (wC (.bool b)) := de_c pe_bl fun _ => .bl b
theorem de_non {j : Nat} {pos : Pos} : DE X (.Constant .none j pos) (wC .none) := de_c pe_non fun _ => .non
theorem de_str {x : Str} {j : Nat} {pos : Pos} : DE X (.Constant (.str x) j pos) (wC (.str x)) := de_c pe_str fun _ => .str x
end

/-! ### operations by values: what comes of them -/
/-- what an operation hands back: a value that is known, a new list, a new tuple -/
inductive Out where
  | v (x : PyData)
  | n (xs : List PyData)
  | t (xs : List PyData)
def Out.r : Out → R
  | .v x => .d x
  | .n xs => .f xs
  | .t xs => .d (.tuple xs)
def OutK (K : PySem.W.Frag) (G H : Hp) (Q : VK) : Out → Prop
  | .v x => ∀ w, Rp K G w x → Q w H
  | .n xs => ∀ p vs, H p = none → RpA K G vs xs → Q (.ref p) (upd H p (.lst vs))
  | .t xs => (∀ p vs, H p = none → RpA K G vs xs → Q (.ref p) (upd H p (.tup vs))) ∧ ∀ w, Rp K G w (.tuple xs) → Q w H
/-- an option that must be there -/
def Opt {α : Type} (o : Option α) (k : α → Prop) : Prop := match o with
  | some a => k a
  | none => False
theorem opt_some {α : Type} {a : α} {k : α → Prop} : Opt (some a) k = k a := rfl
theorem Opt.ex {α : Type} {o : Option α} {k : α → Prop} (h : Opt o k) : ∃ a, o = some a ∧ k a := by
  cases o with
  | none => exact h.elim
  | some a => exact ⟨a, rfl, h⟩
theorem Opt.mk {α : Type} {o : Option α} {k : α → Prop} {a : α} (e : o = some a) (h : k a) : Opt o k := by
  rw [e]; exact h
section
variable {K : PySem.W.Frag} {G H G0 H0 : Hp} {As As0 : List Addr} {σ : L2.St} {ρ : Rho} {κ : Kap} {Q : VK} {P : R → Kap → Prop}
theorem out_ok (s : Step G0 H0 As0 G H As) (c : Cells K G H As κ) (p : Places K G As σ ρ) (o : Out) (h : P o.r κ)
    (k : ∀ v r G' H' As' κ', Step G0 H0 As0 G' H' As' → Cells K G' H' As' κ' → Places K G' As' σ ρ → Rv K H0 G' H' As' v r → P r κ' → Q v H') : OutK K G H Q o := by
  cases o with
  | v x => exact fun w hw => k w (.d x) G H As κ s c p hw h
  | n xs => exact fun q vs hq hv => k _ (.f xs) G _ As κ (s.trans (Step.fresh hq)) (c.fresh hq) p ⟨q, vs, rfl, s.dom q hq, c.ext.free hq, c.notin hq, upd_same, hv⟩ h
  | t xs =>
    refine ⟨fun q vs hq hv => k _ (.d (.tuple xs)) _ _ As κ (s.trans (Step.laid c.ext hq)) (c.laid hq) (p.step (Step.laid c.ext hq)) ?_ h, fun w hw => k w (.d (.tuple xs)) G H As κ s c p hw h⟩
    exact Rp.tup (sqt_of upd_same) (RpA.mono (Ex.new (c.ext.free hq)) _ _ hv)
end
def OpD (K : PySem.W.Frag) (r2 : R2) (g : PyData → PyData → Option Out) : Prop := ∀ (G H : Hp) (v u : V) (x y : PyData) (o : Out) (Q : VK), Ex G H → Vw K G H v x → Vw K G H u y → g x y = some o → OutK K G H Q o → r2 v u H Q
def UnD (K : PySem.W.Frag) (r1 : V → Hp → VK → Prop) (g : PyData → Option Out) : Prop := ∀ (G H : Hp) (v : V) (x : PyData) (o : Out) (Q : VK), Ex G H → Vw K G H v x → g x = some o → OutK K G H Q o → r1 v H Q
def CallD (K : PySem.W.Frag) (rc : List V → Hp → VK → Prop) (g : List PyData → Option Out) : Prop := ∀ (G H : Hp) (vs : List V) (xs : List PyData) (o : Out) (Q : VK), Ex G H → Paired (Vw K G H) vs xs → g xs = some o → OutK K G H Q o → rc vs H Q
def wBin (g : PyData → PyData → Option Out) (wa wb : DTE) : DTE := fun ρ κ P => wa ρ κ fun r1 κ1 => wb ρ κ1 fun r2 κ2 => Opt (val κ2 r1.st) fun x => Opt (val κ2 r2.st) fun y => Opt (g x y) fun o => P o.r κ2
def wUn (g : PyData → Option Out) (wa : DTE) : DTE := fun ρ κ P => wa ρ κ fun r1 κ1 => Opt (val κ1 r1.st) fun x => Opt (g x) fun o => P o.r κ1
def vals (κ : Kap) : List R → Option (List PyData)
  | [] => some []
  | r :: rs => match val κ r, vals κ rs with
    | some x, some xs => some (x :: xs)
    | _, _ => none
def wCB (g : List PyData → Option Out) (wa : DTA) : DTE := fun ρ κ P => wa ρ κ fun rs κ1 => Opt (vals κ1 rs) fun xs => Opt (g xs) fun o => P o.r κ1
section
variable {X : Cx} {a b : Expr} {wa wb : DTE} {pos : Pos}
theorem bin_reads {ta tb : TE} {r2 : R2} {g : PyData → PyData → Option Out} (hg : OpD X.K r2 g)
    (ha : ∀ (G H : Hp) (As : List Addr) (σ : L2.St) (ρ : Rho) (κ : Kap) (P : R → Kap → Prop) (Q : VK), Cells X.K G H As κ → Places X.K G As σ ρ → wa ρ κ P → (∀ v r G' H' As' κ', Step G H As G' H' As' → Cells X.K G' H' As' κ' → Places X.K G' As' σ ρ → Rv X.K H G' H' As' v r → P r κ' → Q v H') → ta σ H Q)
    (hb : ∀ (G H : Hp) (As : List Addr) (σ : L2.St) (ρ : Rho) (κ : Kap) (P : R → Kap → Prop) (Q : VK), Cells X.K G H As κ → Places X.K G As σ ρ → wb ρ κ P → (∀ v r G' H' As' κ', Step G H As G' H' As' → Cells X.K G' H' As' κ' → Places X.K G' As' σ ρ → Rv X.K H G' H' As' v r → P r κ' → Q v H') → tb σ H Q)
    (G H : Hp) (As : List Addr) (σ : L2.St) (ρ : Rho) (κ : Kap) (P : R → Kap → Prop) (Q : VK) (c : Cells X.K G H As κ) (p : Places X.K G As σ ρ) (w : wBin g wa wb ρ κ P)
    (k : ∀ v r G' H' As' κ', Step G H As G' H' As' → Cells X.K G' H' As' κ' → Places X.K G' As' σ ρ → Rv X.K H G' H' As' v r → P r κ' → Q v H') : tOp r2 ta tb σ H Q := by
  refine ha G H As σ ρ κ _ _ c p w fun v1 r1 G1 H1 As1 κ1 s1 c1 p1 i1 w1 => ?_
  obtain ⟨G1', s1', c1', p1', i1', _⟩ := settle s1 c1 p1 i1
  refine hb G1' H1 As1 σ ρ κ1 _ _ c1' p1' w1 fun v2 r2 G2 H2 As2 κ2 s2 c2 p2 i2 w2 => ?_
  obtain ⟨G2', s2', c2', p2', i2', _⟩ := settle s2 c2 p2 i2
  obtain ⟨x, ex, w2⟩ := w2.ex
  obtain ⟨y, ey, w2⟩ := w2.ex
  obtain ⟨o, eo, w2⟩ := w2.ex
  exact hg G2' H2 v1 v2 x y o Q c2'.ext ((s2'.it i1').vw c2' ex) (i2'.vw c2' ey) eo (out_ok (s1'.trans s2') c2' p2' o w2 k)
theorem de_op {op : Operator} {r2 : R2} {g : PyData → PyData → Option Out} (ho : OpR X (binaryOp op) r2) (hg : OpD X.K r2 g) (ha : DE X a wa) (hb : DE X b wb) : DE X (.BinOp a op b pos) (wBin g wa wb) := by
  obtain ⟨ta, pa, ha⟩ := ha
  obtain ⟨tb, pb, hb⟩ := hb
  exact ⟨_, pe_op ho pa pb, bin_reads hg ha hb⟩
theorem de_cmp {op : CmpOp} {r2 : R2} {g : PyData → PyData → Option Out} (ho : OpR X (compareOp op) r2) (hg : OpD X.K r2 g) (ha : DE X a wa) (hb : DE X b wb) (hm : behindInMarks op b = false) : DE X (.Compare a [op] [b] pos) (wBin g wa wb) := by
  obtain ⟨ta, pa, ha⟩ := ha
  obtain ⟨tb, pb, hb⟩ := hb
  exact ⟨_, pe_cmpR ho pa pb hm, bin_reads hg ha hb⟩
theorem de_ix {r2 : R2} {g : PyData → PyData → Option Out} (ho : IxR X r2) (hg : OpD X.K r2 g) (ha : DE X a wa) (hb : DE X b wb) (hs : PlainIx b) : DE X (.Subscript a b pos) (wBin g wa wb) := by
  obtain ⟨ta, pa, ha⟩ := ha
  obtain ⟨tb, pb, hb⟩ := hb
  exact ⟨_, pe_ix ho pa pb hs, bin_reads hg ha hb⟩
theorem de_un {op : UnaryOp} {r1 : V → Hp → VK → Prop} {g : PyData → Option Out} (ho : UnR X (unaryOp op) r1) (hg : UnD X.K r1 g) (ha : DE X a wa) : DE X (.UnaryOp op a pos) (wUn g wa) := by
  obtain ⟨ta, pa, ha⟩ := ha
  refine ⟨_, pe_un ho pa, fun G H As σ ρ κ P Q c p w k => ?_⟩
  refine ha G H As σ ρ κ _ _ c p w fun v1 r1 G1 H1 As1 κ1 s1 c1 p1 i1 w1 => ?_
  obtain ⟨G1', s1', c1', p1', i1', _⟩ := settle s1 c1 p1 i1
  obtain ⟨x, ex, w2⟩ := w1.ex
  obtain ⟨o, eo, w2⟩ := w2.ex
  exact hg G1' H1 v1 x o Q c1'.ext (i1'.vw c1' ex) eo (out_ok s1' c1' p1' o w2 k)
end
end DL
/-! DLga: defs that know that no text of a list is being made around them. -/
namespace DL
open PySem PySem.Spec PyProof.Rows L2
/-- room, and nobody around who makes a text -/
structure RoomG (k : Nat) (A : Around) : Prop extends Room k A where
  gu : A.guards = some []
theorem RoomG.monoG {j k : Nat} {A : Around} (r : RoomG k A) (h : j ≤ k) : RoomG j A := ⟨r.toRoom.mono h, r.gu⟩
theorem guards_deeper {A : Around} {env : Env} (h : A.guards = some []) : (A.deeper env).guards = some [] := by
  obtain ⟨hd, d, fr, gs, u⟩ := A
  first
    | exact h
    | simpa [Around.deeper] using h
theorem RoomG.deeperG {k : Nat} {A : Around} (r : RoomG (k + 1) A) (env : Env) : RoomG k (A.deeper env) := ⟨r.toRoom.deeper env, guards_deeper r.gu⟩
theorem room_callerG {k : Nat} (h : Room k callerA) : RoomG k callerA := ⟨h, rfl⟩
/-- a def's promise, called where nobody makes a text -/
structure FnG (P : Program) (w : World) (K : PySem.W.Frag) (mg : Str → Option Value) (base : Heap) (CX : CXT) (k : Nat) (f : Addr) (fd : FuncData) (ps : List Str) (sp : Sp) : Prop where
  len : ∀ vs H Q E, sp vs H Q E → vs.length = ps.length
  go : ∀ (A : Around) (outer : List Env) (s : Shared) (H : Hp) (args : Args) (us : List Value) (vs : List V) (Q : VK) (E : XK), RoomG k A → Env0 P w K mg base A outer s H → BindsTo s fd args (ps.zip us) → Vals vs us → sp vs H Q E → codeAny (model P w) A (.call (.ref f) args) (CR CX outer P w H s Q E) s
theorem FnG.mono {P : Program} {w : World} {K : PySem.W.Frag} {mg : Str → Option Value} {base : Heap} {CX : CXT} {j k : Nat} {f : Addr} {fd : FuncData} {ps : List Str} {sp : Sp} (F : FnG P w K mg base CX j f fd ps sp) (h : j ≤ k) : FnG P w K mg base CX k f fd ps sp :=
  ⟨F.len, fun A outer s H args us vs Q E r => F.go A outer s H args us vs Q E (r.monoG h)⟩
section
variable {X : Cx} {CX : CXT} {k n : Nat} {f : Addr} {fd : FuncData} {ps ks : List Str} {sp : Sp} {E : XK} {x : Str} {p pos : Pos} {e : Expr} {es : List Expr} {t tk : TA}
/-- what a call leaves in the body that called -/
theorem ends_of {pins : List (Addr × Obj)} {σ : L2.St} {H : Hp} {s s' : Shared} {Q : VK} {r : Result} (hx : Passes CX X E) (I : L2.Inv X pins σ H s) (h : CR CX X.stack X.prog X.w H s Q E r s') : match r with
  | .ok (.ret u) => EP X pins σ Q u s'
  | .ok _ => False
  | .error e => X.xe e s' := by
  cases r with
  | error e => exact hx pins σ H s e s' I h
  | ok fl =>
    cases fl with
    | ret u => exact I.after h
    | _ => exact h.elim
/-- f(e, ..) -/
theorem pe_callG {ds : List Value} {dvs : List V} (F : FnG X.prog X.w X.K X.mg X.base CX k f fd ps sp) (hr : RoomG k X.A) (hg : Gl X x) (hm : X.mg x = some (.ref f)) (hk : PySem.W.keepIn X.K (.ref f) = true) (hb : Binds X.K fd ps ds) (hd : Vals dvs ds) (hx : Passes CX X E) (ha : PA X (e :: es) t)
    (hdb : (x == ("__debug__" : Str)) = false) (he : starEach (e :: es) X.env = (false, eval e X.env) :: starEach es X.env) (hpl : (backTo pos (starEach es X.env)).any (·.1) = false) : PE X (.Call (.Name x p) (e :: es) [] pos) (tCall sp dvs E t) := by
  constructor
  intro pins s σ H Q I h
  apply wpAny_Call_Name_kw
  apply ld_glob I hg hm ?_ hdb
  apply PySem.W.callWith_K (h₀ := X.base) I.ok.mod.kin hk ?_ he hpl
  apply thn (ha.run pos pins s σ H _ I h)
  rintro us s1 ⟨vs, H1, I1, r, q⟩
  have rr : Vals (vs ++ dvs) (us ++ ds) := r.append hd
  have ln : (us ++ ds).length = ps.length := rr.length.symm.trans (F.len _ _ _ _ q)
  refine ⟨I1.kIn, wpAny_call (codeAny_mono (F.go X.A X.stack s1 H1 ⟨us, []⟩ _ _ Q E hr I1.env0 (hb s1 us I1.kIn ln) rr q) fun r s' z => ?_)⟩
  have w := ends_of hx I1 z
  cases r with
  | error _ => exact w
  | ok fl => cases fl <;> exact w
/-- by place and by name -/
theorem run_namesG {pins : List (Addr × Obj)} {σ : L2.St} {H : Hp} {s : Shared} {Q : VK} {us ws : List Value} {vs zs : List V} {g : List Value → List Value → List Value} {gV : List V → List V → List V} (F : FnG X.prog X.w X.K X.mg X.base CX k f fd ps sp) (hr : RoomG k X.A) (hb : KBn X.K fd ps n ks g gV) (hx : Passes CX X E)
    (I : L2.Inv X pins σ H s) (r : Vals vs us) (rz : Vals zs ws) (l1 : vs.length = n) (l2 : zs.length = ks.length) (h : sp (gV vs zs) H Q E) : wpAny (model X.prog X.w) X.A (call (.ref f) us (ks.zip ws)) (EP X pins σ Q) X.xe s := by
  apply wpAny_call
  apply codeAny_mono (F.go X.A X.stack s H ⟨us, ks.zip ws⟩ _ _ Q E hr I.env0 (hb.to s us ws I.kIn (r.length.symm.trans l1) (rz.length.symm.trans l2)) (hb.rel r rz) h)
  intro r s' z
  have w := ends_of hx I z
  cases r with
  | error _ => exact w
  | ok fl => cases fl <;> exact w
theorem pe_callNG {kws : List Keyword} {g : List Value → List Value → List Value} {gV : List V → List V → List V} (F : FnG X.prog X.w X.K X.mg X.base CX k f fd ps sp) (hr : RoomG k X.A) (hg : Gl X x) (hm : X.mg x = some (.ref f)) (hk : PySem.W.keepIn X.K (.ref f) = true) (hb : KBn X.K fd ps n ks g gV) (hx : Passes CX X E)
    (ha : PA X (e :: es) t) (hkw : PK X kws tk) (hall : (backToKw pos (keywordEach kws X.env)).all (·.1.isSome) = true) (hks : (backToKw pos (keywordEach kws X.env)).filterMap (·.1) = ks) (hdb : (x == ("__debug__" : Str)) = false) (he : starEach (e :: es) X.env = (false, eval e X.env) :: starEach es X.env)
    (hpl : ((backTo pos (starEach (e :: es) X.env)).any (·.1) || (backToKw pos (keywordEach kws X.env)).any (·.1.isNone)) = false) : PE X (.Call (.Name x p) (e :: es) kws pos) (tCallN n ks.length sp gV E t tk) := by
  constructor
  intro pins s σ H Q I h
  apply wpAny_Call_Name_kw
  apply ld_glob I hg hm ?_ hdb
  apply PySem.W.callWith_KW (h₀ := X.base) I.ok.mod.kin hk hall ?_ hpl he
  apply thn (ha.run pos pins s σ H _ I h)
  rintro us s1 ⟨vs, H1, I1, r, q⟩
  apply thn (hkw.run pos pins s1 σ H1 _ I1 q)
  rintro ws s2 ⟨zs, H2, I2, rz, l1, l2, q2⟩
  rw [hks]
  exact ⟨I2.kIn, run_namesG F hr hb hx I2 r rz l1 l2 q2⟩
theorem pe_callN0G {kws : List Keyword} {g : List Value → List Value → List Value} {gV : List V → List V → List V} (F : FnG X.prog X.w X.K X.mg X.base CX k f fd ps sp) (hr : RoomG k X.A) (hg : Gl X x) (hm : X.mg x = some (.ref f)) (hk : PySem.W.keepIn X.K (.ref f) = true) (hb : KBn X.K fd ps 0 ks g gV) (hx : Passes CX X E)
    (hkw : PK X kws tk) (hall : (backToKw pos (keywordEach kws X.env)).all (·.1.isSome) = true) (hks : (backToKw pos (keywordEach kws X.env)).filterMap (·.1) = ks) (hdb : (x == ("__debug__" : Str)) = false)
    (hpl : ((backTo pos (starEach [] X.env)).any (·.1) || (backToKw pos (keywordEach kws X.env)).any (·.1.isNone)) = false) : PE X (.Call (.Name x p) [] kws pos) (tCallN 0 ks.length sp gV E tNil tk) := by
  constructor
  intro pins s σ H Q I h
  apply wpAny_Call_Name_kw
  apply ld_glob I hg hm ?_ hdb
  apply PySem.W.callWith_KW0 (h₀ := X.base) I.ok.mod.kin hk hall ?_ hpl
  apply thn (hkw.run pos pins s σ H _ I h)
  rintro ws s2 ⟨zs, H2, I2, rz, l1, l2, q2⟩
  rw [hks]
  exact ⟨I2.kIn, run_namesG (us := []) F hr hb hx I2 .nil rz l1 l2 q2⟩
end
section
variable {P : Program} {w : World} {K : PySem.W.Frag} {mg : Str → Option Value} {base : Heap} {x qual : Str} {st : Stmt} {f : Addr} {fd : FuncData} {N ps : List Str} {k : Nat} {sp : Sp}
/-- a def keeps its promise, from its body -/
theorem Fun.okG (F : Fun K x qual st f fd) (S : FnScope N ps (defScope st)) (len : ∀ vs H Q E, sp vs H Q E → vs.length = ps.length)
    (body : ∀ (cdv : Value) (A : Around) (outer : List Env) (s : Shared) (H : Hp) (vs : List V) (Q : VK) (E : XK), RoomG k (A.deeper (envOfC qual (defScope st) s.heap.objs.size f cdv)) → sp vs H Q E →
      ∃ t, PSs (cxOf CX0 P w K mg base N qual (defScope st) f cdv A outer s H E).nox (defBody st) t ∧ t { nx := fun _ H' => Q .non H', rt := Q } (L2.start N vs) H) : FnG P w K mg base CX0 (k + 1) f fd ps sp := by
  obtain ⟨oc, od, kV, doc, pm, an, cdv, ct, osl, rfl, lk, hcd⟩ := F.ex
  refine ⟨len, ?_⟩
  intro A outer s H args us vs Q E hr e0 bnd r hsp
  have inS : ∀ b o, base.get? b = some o → s.heap.get? b = some o := fun b o e => (e0.bs b o e).1
  have KX : K.In s.heap := e0.mod.kin.keeps inS
  apply codeAny_call_function hr.toRoom.depth (KX _ _ lk) rfl S.co S.gen rfl (PySem.W.codeRec_of KX hcd)
  apply bnd
  apply wpAny_newFunctionEnv_cells S.kind
  · rintro ⟨y, v⟩ hy
    exact (S.par y (List.of_mem_zip hy).1).imp id fun q => ⟨q, PySem.W.cellsFrom_some _ _ _ (.inl q)⟩
  · intro env he s1 xx
    subst he
    obtain ⟨t, pt, q⟩ := body cdv A outer s H vs Q E (hr.deeperG _) hsp
    have I : L2.Inv (cxOf CX0 P w K mg base N qual (defScope st) f cdv A outer s H E) [] (L2.start N vs) H s1 := inv_start S hr.toRoom.hd e0 (len _ _ _ _ hsp) r xx
    refine ⟨(e0.mod.nolimit.keeps inS).keeps xx.toInCall.keep, codeAny_func (wpAny_mono (pt.nox.run [] s1 _ H _ I q) (fun fl s' z => ?_) fun _ _ z => z)⟩
    cases fl with
    | ret u =>
      obtain ⟨v, σ', H', J, rv, q'⟩ := z
      exact ⟨v, H', J.os, J.bare, J.base, J.hok, rv, q'⟩
    | next =>
      obtain ⟨σ', H', J, q'⟩ := z
      exact ⟨.non, H', J.os, J.bare, J.base, J.hok, rfl, q'⟩
    | brk => exact z.elim fun _ z => z.elim fun _ z => z.2.elim
    | cont => exact z.elim fun _ z => z.elim fun _ z => z.2.elim
end
end DL
/-! DLb: arguments, displays, calls, targets, statements, loops, comprehensions, defs, over plain data. -/
namespace DL
open PySem PySem.Spec PyProof.Rows L2

/-! ### what is let go for good -/
def dat (κ : Kap) : R → Option (PyData × Kap)
  | .d x => some (x, κ)
  | .f xs => some (.list xs, κ)
  | .c k => match κ[k]? with
    | some (.l xs) => some (.list xs, κ.set k (.z (.list xs)))
    | some (.z x) => some (x, κ)
    | some (.m _) => none
    | some (.k _) => none
    | some (.x _) => none
    | none => none
  | .s _ => none
  | .b _ => none
  | .h _ => none
  | .o _ => none
def dats (κ : Kap) : List R → Option (List PyData × Kap)
  | [] => some ([], κ)
  | r :: rs => match dat κ r with
    | some (x, κ1) => match dats κ1 rs with
      | some (xs, κ2) => some (x :: xs, κ2)
      | none => none
    | none => none
/-- what a thing is as a dict that is known for good -/
def kd (κ : Kap) : R → Option (List (Key × PyData))
  | .h es => some es
  | .c k => match κ[k]? with
    | some (.k es) => some es
    | _ => none
  | _ => none
/-- what a def is handed: plain data, or the script, or a dict that is known for good -/
def arg (κ : Kap) : R → Option (R × Kap)
  | .s ns => some (.s ns, κ)
  | .h es => some (.h es, κ)
  | .o u => some (.o u, κ)
  | r => match dat κ r with
    | some (x, κ1) => some (.d x, κ1)
    | none => match kd κ r with
      | some es => some (.h es, κ)
      | none => none
def args (κ : Kap) : List R → Option (List R × Kap)
  | [] => some ([], κ)
  | r :: rs => match arg κ r with
    | some (x, κ1) => match args κ1 rs with
      | some (xs, κ2) => some (x :: xs, κ2)
      | none => none
    | none => none
section
variable {K : PySem.W.Frag} {G H G' H' G1 H1 H0 : Hp} {As As' As1 : List Addr} {σ : L2.St} {ρ : Rho} {κ κ' : Kap} {v : V} {r : R}
theorem dat_ok {x : PyData} (c : Cells K G H As κ) (h : It K G As v r) (e : dat κ r = some (x, κ')) : ∃ G', Step G H As G' H As ∧ Cells K G' H As κ' ∧ Rp K G' v x := by
  cases r with
  | d y =>
    cases e
    exact ⟨G, Step.refl, c, h⟩
  | f xs => exact h.elim
  | s ns => cases e
  | b ks => cases e
  | h ks => cases e
  | o u => cases e
  | c k =>
    unfold dat at e
    simp only at e
    cases q : κ[k]? with
    | none => rw [q] at e; cases e
    | some cc =>
      rw [q] at e
      cases cc with
      | l ds =>
        cases e
        exact freeze c h q
      | m es => cases e
      | k es => cases e
      | x u => cases e
      | z y =>
        cases e
        obtain ⟨a, h1, rfl⟩ := h
        exact ⟨G, Step.refl, c, c.ok k _ a q h1⟩
theorem dats_ok : ∀ {rs : List R} {vs : List V} {G : Hp} {κ : Kap} {xs : List PyData}, Cells K G H As κ → Paired (It K G As) vs rs → dats κ rs = some (xs, κ') → ∃ G', Step G H As G' H As ∧ Cells K G' H As κ' ∧ RpA K G' vs xs
  | [], _, G, κ, xs, c, h, e => by
    cases h
    cases e
    exact ⟨G, Step.refl, c, .nil⟩
  | r :: rs, _, G, κ, xs, c, h, e => by
    cases h with
    | cons h1 h2 =>
      unfold dats at e
      cases q : dat κ r with
      | none => rw [q] at e; cases e
      | some p =>
        obtain ⟨x, κ1⟩ := p
        rw [q] at e
        simp only at e
        cases q2 : dats κ1 rs with
        | none => rw [q2] at e; cases e
        | some p2 =>
          obtain ⟨ys, κ2⟩ := p2
          rw [q2] at e
          cases e
          obtain ⟨G1, s1, c1, r1⟩ := dat_ok c h1 q
          obtain ⟨G2, s2, c2, r2⟩ := dats_ok c1 (Paired.mapP h2 fun _ _ z => s1.it z) q2
          exact ⟨G2, s1.trans s2, c2, .cons (Rp.mono s2.ex _ _ r1) r2⟩
theorem kd_ok {es : List (Key × PyData)} (c : Cells K G H As κ) (h : It K G As v r) (e : kd κ r = some es) : ItH K G v es := by
  cases r with
  | h xs => cases e; exact h
  | c k =>
    obtain ⟨a, h1, rfl⟩ := h
    unfold kd at e
    simp only at e
    split at e
    · rename_i xs q
      cases e
      exact c.ok k _ a q h1
    · cases e
  | d y => cases e
  | f xs => cases e
  | s ns => cases e
  | b ks => cases e
  | o u => cases e
theorem arg_ok {x : R} (c : Cells K G H As κ) (h : It K G As v r) (e : arg κ r = some (x, κ')) : ∃ G', Step G H As G' H As ∧ Cells K G' H As κ' ∧ It K G' [] v x := by
  cases r with
  | s ns =>
    cases e
    exact ⟨G, Step.refl, c, h⟩
  | f xs => exact h.elim
  | d y =>
    cases e
    exact ⟨G, Step.refl, c, h⟩
  | b ks => cases e
  | h ks =>
    cases e
    exact ⟨G, Step.refl, c, h⟩
  | o u =>
    cases e
    exact ⟨G, Step.refl, c, h⟩
  | c k =>
    unfold arg at e
    cases q : dat κ (.c k) with
    | none =>
      simp only [q] at e
      cases q2 : kd κ (.c k) with
      | none => simp only [q2] at e; cases e
      | some es =>
        simp only [q2] at e
        cases e
        exact ⟨G, Step.refl, c, kd_ok c h q2⟩
    | some p =>
      obtain ⟨y, κ1⟩ := p
      simp only [q] at e
      cases e
      exact dat_ok c h q
theorem It.none (e : Ex G G') (h : It K G [] v r) : It K G' [] v r := h.mono e ⟨[], rfl⟩
theorem args_ok : ∀ {rs : List R} {vs : List V} {G : Hp} {κ : Kap} {xs : List R}, Cells K G H As κ → Paired (It K G As) vs rs → args κ rs = some (xs, κ') → ∃ G', Step G H As G' H As ∧ Cells K G' H As κ' ∧ Paired (It K G' []) vs xs
  | [], _, G, κ, xs, c, h, e => by
    cases h
    cases e
    exact ⟨G, Step.refl, c, .nil⟩
  | r :: rs, _, G, κ, xs, c, h, e => by
    cases h with
    | cons h1 h2 =>
      unfold args at e
      cases q : arg κ r with
      | none => rw [q] at e; cases e
      | some p =>
        obtain ⟨x, κ1⟩ := p
        rw [q] at e
        simp only at e
        cases q2 : args κ1 rs with
        | none => rw [q2] at e; cases e
        | some p2 =>
          obtain ⟨ys, κ2⟩ := p2
          rw [q2] at e
          cases e
          obtain ⟨G1, s1, c1, r1⟩ := arg_ok c h1 q
          obtain ⟨G2, s2, c2, r2⟩ := args_ok c1 (Paired.mapP h2 fun _ _ z => s1.it z) q2
          exact ⟨G2, s1.trans s2, c2, .cons (r1.none s2.ex) r2⟩
theorem vals_ok : ∀ {rs : List R} {vs : List V} {xs : List PyData}, Cells K G H As κ → Paired (It K G As) vs rs → vals κ rs = some xs → Paired (Vw K G H) vs xs
  | [], _, xs, c, h, e => by
    cases h
    cases e
    exact .nil
  | r :: rs, _, xs, c, h, e => by
    cases h with
    | cons h1 h2 =>
      unfold vals at e
      cases q : val κ r with
      | none => rw [q] at e; cases e
      | some x =>
        rw [q] at e
        cases q2 : vals κ rs with
        | none => rw [q2] at e; cases e
        | some ys =>
          rw [q2] at e
          cases e
          exact .cons (h1.vw c q) (vals_ok c h2 q2)
end

/-! ### arguments -/
def wNil : DTA := fun _ κ P => P [] κ
def wCons (wa : DTE) (wr : DTA) : DTA := fun ρ κ P => wa ρ κ fun r κ1 => wr ρ κ1 fun rs κ2 => P (r.st :: rs) κ2
section
variable {X : Cx} {e : Expr} {es : List Expr} {wa : DTE} {wr : DTA} {pos : Pos}
theorem da_nil : DA X [] wNil := ⟨_, pa_nil, fun G H As σ ρ κ P Q c p w k => k [] [] G H As κ Step.refl c p .nil rfl w⟩
theorem da_cons (ha : DE X e wa) (hr : DA X es wr) (hs : starEach (e :: es) X.env = (false, eval e X.env) :: starEach es X.env := by rfl) : DA X (e :: es) (wCons wa wr) := by
  obtain ⟨ta, pa, ha⟩ := ha
  obtain ⟨tr, pr, hr⟩ := hr
  refine ⟨_, pa_cons pa pr hs, fun G H As σ ρ κ P Q c p w k => ?_⟩
  refine ha G H As σ ρ κ _ _ c p w fun v1 r1 G1 H1 As1 κ1 s1 c1 p1 i1 w1 => ?_
  obtain ⟨G1', s1', c1', p1', i1', _⟩ := settle s1 c1 p1 i1
  refine hr G1' H1 As1 σ ρ κ1 _ _ c1' p1' w1 fun vs rs G2 H2 As2 κ2 s2 c2 p2 i2 l2 w2 => ?_
  exact k _ _ G2 H2 As2 κ2 (s1'.trans s2) c2 p2 (.cons (s2.it i1') i2) (congrArg (· + 1) l2) w2
/-! displays -/
def wTup (wa : DTA) : DTE := fun ρ κ P => wa ρ κ fun rs κ1 => Opt (dats κ1 rs) fun q => q.1.length ≤ sizeLine ∧ P (.d (.tuple q.1)) q.2
def wLst (wa : DTA) : DTE := fun ρ κ P => wa ρ κ fun rs κ1 => Opt (dats κ1 rs) fun q => q.1.length ≤ sizeLine ∧ P (.f q.1) q.2
theorem de_tup {x1 : Nat} (h : DA X es wr) : DE X (.Tuple es x1 pos) (wTup wr) := by
  obtain ⟨t, pt, h⟩ := h
  refine ⟨_, pe_tup pt, fun G H As σ ρ κ P Q c p w k => ?_⟩
  refine h G H As σ ρ κ _ _ c p w fun vs rs G1 H1 As1 κ1 s1 c1 p1 i1 el w1 => ?_
  obtain ⟨⟨xs, κ2⟩, e, hl, w2⟩ := w1.ex
  obtain ⟨G2, s2, c2, rp⟩ := dats_ok c1 i1 e
  exact ⟨by rw [rp.len]; exact hl, fun q hq => (out_ok (P := P) (s1.trans s2) c2 (p1.step s2) (.t xs) w2 k).1 q _ hq rp⟩
theorem de_lst (h : DA X es wr) : DE X (.List es pos) (wLst wr) := by
  obtain ⟨t, pt, h⟩ := h
  refine ⟨_, pe_lst pt, fun G H As σ ρ κ P Q c p w k => ?_⟩
  refine h G H As σ ρ κ _ _ c p w fun vs rs G1 H1 As1 κ1 s1 c1 p1 i1 el w1 => ?_
  obtain ⟨⟨xs, κ2⟩, e, hl, w2⟩ := w1.ex
  obtain ⟨G2, s2, c2, rp⟩ := dats_ok c1 i1 e
  exact ⟨by rw [rp.len]; exact hl, fun q hq => out_ok (P := P) (s1.trans s2) c2 (p1.step s2) (.n xs) w2 k q _ hq rp⟩
/-! built-ins by name -/
theorem cb_reads {t : TA} {rc : List V → Hp → VK → Prop} {g : List PyData → Option Out} (hg : CallD X.K rc g)
    (h : ∀ (G H : Hp) (As : List Addr) (σ : L2.St) (ρ : Rho) (κ : Kap) (P : List R → Kap → Prop) (Q : List V → Hp → Prop), Cells X.K G H As κ → Places X.K G As σ ρ → wr ρ κ P → (∀ vs rs G' H' As' κ', Step G H As G' H' As' → Cells X.K G' H' As' κ' → Places X.K G' As' σ ρ → Paired (It X.K G' As') vs rs → rs.length = es.length → P rs κ' → Q vs H') → t σ H Q)
    (G H : Hp) (As : List Addr) (σ : L2.St) (ρ : Rho) (κ : Kap) (P : R → Kap → Prop) (Q : VK) (c : Cells X.K G H As κ) (p : Places X.K G As σ ρ) (w : wCB g wr ρ κ P)
    (k : ∀ v r G' H' As' κ', Step G H As G' H' As' → Cells X.K G' H' As' κ' → Places X.K G' As' σ ρ → Rv X.K H G' H' As' v r → P r κ' → Q v H') : tCB rc t σ H Q := by
  refine h G H As σ ρ κ _ _ c p w fun vs rs G1 H1 As1 κ1 s1 c1 p1 i1 el w1 => ?_
  obtain ⟨xs, e, w2⟩ := w1.ex
  obtain ⟨o, eo, w3⟩ := w2.ex
  exact hg G1 H1 vs xs o Q c1.ext (vals_ok c1 i1 e) eo (out_ok s1 c1 p1 o w3 k)
theorem de_callB {id : String} {x : Str} {p : Pos} {rc : List V → Hp → VK → Prop} {g : List PyData → Option Out} (hc : CallR X (.builtin id) rc) (hgd : CallD X.K rc g) (hm : X.mg x = none) (ha : DA X (e :: es) wr) (hg : Gl X x := by rfl) (hv : bootBuiltins x = some (.builtin id) := by decide +kernel) (hn : x ≠ "__name__" := by decide) (hdb : (x == ("__debug__" : Str)) = false := by decide)
    (he : starEach (e :: es) X.env = (false, eval e X.env) :: starEach es X.env := by rfl) (hpl : (backTo pos (starEach es X.env)).any (·.1) = false := by rfl) : DE X (.Call (.Name x p) (e :: es) [] pos) (wCB g wr) := by
  obtain ⟨t, pt, h⟩ := ha
  exact ⟨_, pe_callB hc hg hm hv pt hn hdb he hpl, cb_reads hgd h⟩
theorem de_callTy {T : String} {x : Str} {p : Pos} {rc : List V → Hp → VK → Prop} {g : List PyData → Option Out} (hc : CallR X (.type T) rc) (hgd : CallD X.K rc g) (hm : X.mg x = none) (ha : DA X (e :: es) wr) (hg : Gl X x := by rfl) (hv : bootBuiltins x = some (.type T) := by decide +kernel) (hn : x ≠ "__name__" := by decide) (hdb : (x == ("__debug__" : Str)) = false := by decide)
    (he : starEach (e :: es) X.env = (false, eval e X.env) :: starEach es X.env := by rfl) (hpl : (backTo pos (starEach es X.env)).any (·.1) = false := by rfl) : DE X (.Call (.Name x p) (e :: es) [] pos) (wCB g wr) := by
  obtain ⟨t, pt, h⟩ := ha
  exact ⟨_, pe_callTy hc hg hm hv pt hn hdb he hpl, cb_reads hgd h⟩
end

/-! ### own defs: what they promise over plain data -/
def spD (K : PySem.W.Frag) (n : Nat) (Φ : List R → (R → Prop) → Prop) : Sp := fun vs H Q _ => vs.length = n ∧ ∃ (G : Hp) (rs : List R) (P : R → Prop), Ex G H ∧ Paired (It K G []) vs rs ∧ Φ rs P ∧
  ∀ v r G' H', P r → Ex G' H' → Step G H [] G' H' [] → Rv K H G' H' [] v r → Q v H'
/-- the first argument is a list that may be changed -/
def spL (K : PySem.W.Frag) (n : Nat) (Φ : List PyData → List R → (R → List PyData → Prop) → Prop) : Sp := fun vs H Q _ => vs.length = n ∧ ∃ (G : Hp) (a : Addr) (ws : List V) (bs : List PyData) (rs : List R) (P : R → List PyData → Prop),
  vs = .ref a :: ws ∧ Cells K G H [a] [.l bs] ∧ Paired (It K G []) ws rs ∧ Φ bs rs P ∧
  ∀ v r bs' G' H', P r bs' → Cells K G' H' [a] [.l bs'] → Step G H [a] G' H' [a] → Rv K H G' H' [a] v r → Q v H'
def wCall (Φ : List R → (R → Prop) → Prop) (wa : DTA) : DTE := fun ρ κ P => wa ρ κ fun rs κ1 => Opt (args κ1 rs) fun q => Φ q.1 fun r => P r q.2
def lend (κ : Kap) : List R → Option (Nat × List PyData × List R × Kap)
  | .c k :: rs => match args κ rs with
    | some (xs, κ1) => match κ1[k]? with
      | some (.l bs) => some (k, bs, xs, κ1)
      | _ => none
    | none => none
  | _ => none
/-- the def's own cell is the caller's k-th -/
def R.lab (k : Nat) : R → R
  | .c _ => .c k
  | .b ks => .b (ks.map fun _ => k)
  | r => r
def wCallL (Φ : List PyData → List R → (R → List PyData → Prop) → Prop) (wa : DTA) : DTE := fun ρ κ P => wa ρ κ fun rs κ1 => Opt (lend κ1 rs) fun q => Φ q.2.1 q.2.2.1 fun r bs => P (r.lab q.1) (q.2.2.2.set q.1 (.l bs))
section
variable {K : PySem.W.Frag} {G H G' H' G1 H1 H0 : Hp} {As As' As1 : List Addr} {σ : L2.St} {ρ : Rho} {κ κ' : Kap} {v : V} {r : R}
/-- behind a call that changes none of the cells -/
theorem Cells.call (c : Cells K G H As κ) (s : Step G H [] G' H' []) (e : Ex G' H') : Cells K G' H' As κ where
  ext := e
  len := c.len
  nd := c.nd
  al := fun a h => by
    obtain ⟨o, q⟩ := c.al a h
    exact ⟨o, s.fr a o (by simp) q⟩
  ok := fun k x a e1 e2 => by
    have w := c.ok k x a e1 e2
    cases x with
    | l ds =>
      obtain ⟨w1, ws, w2, w3⟩ := w
      refine ⟨?_, ws, s.fr a _ (by simp) w2, RpA.mono s.ex _ _ w3⟩
      rcases s.gn a w1 with z | z | z
      · exact z
      · rw [w2] at z; cases z
      · cases z
    | m es =>
      obtain ⟨w1, ws, w2, w3⟩ := w
      refine ⟨?_, ws, s.fr a _ (by simp) w2, w3.mono s.ex ⟨[], by simp⟩⟩
      rcases s.gn a w1 with z | z | z
      · exact z
      · rw [w2] at z; cases z
      · cases z
    | z x => exact Rp.mono s.ex _ _ w
    | k es => exact ItH.mono s.ex w
    | x u =>
      obtain ⟨w1, w2⟩ := w
      refine ⟨?_, s.fr a _ (by simp) w2⟩
      rcases s.gn a w1 with z | z | z
      · exact z
      · rw [w2] at z; cases z
      · cases z
theorem Step.wide (s : Step G H [] G' H' []) : Step G H As G' H' As :=
  ⟨s.ex, ⟨[], by simp⟩, fun _ h => .inl h, fun b o _ h => s.fr b o (by simp) h, s.dom, fun b h => by
    rcases s.gn b h with z | z | z
    · exact .inl z
    · exact .inr (.inl z)
    · cases z⟩
theorem Rv.wide (c : Cells K G H As κ) (h : Rv K H G' H' [] v r) : Rv K H G' H' As v r := by
  cases r with
  | f xs =>
    obtain ⟨p, vs, e, h0, g0, _, q⟩ := h
    exact ⟨p, vs, e, h0, g0, c.notin h0, q⟩
  | d x => exact h
  | h es => exact h
  | o u => exact h
  | s ns => exact h
  | b ks =>
    obtain ⟨a, vs, h1, h2, h3, h4⟩ := h
    exact ⟨a, vs, h1, h2, h3, fun i k hk => by
      obtain ⟨c, z, _⟩ := h4 i k hk
      simp at z⟩
  | c k =>
    obtain ⟨a, z, _⟩ := h
    simp at z
/-- the cell that is lent -/
theorem Cells.one {k : Nat} {a : Addr} {ds : List PyData} (c : Cells K G H As κ) (hk : κ[k]? = some (.l ds)) (ha : As[k]? = some a) : Cells K G H [a] [.l ds] where
  ext := c.ext
  len := rfl
  nd := by simp
  al := fun b h => by
    rw [List.mem_singleton] at h
    subst h
    exact c.al b (List.mem_of_getElem? ha)
  ok := fun j x b e1 e2 => by
    cases j with
    | zero =>
      cases e1
      cases e2
      exact c.ok k _ _ hk ha
    | succ j => simp at e1
theorem Cells.lent {k : Nat} {a : Addr} {ds es : List PyData} (c : Cells K G H As κ) (hk : κ[k]? = some (.l ds)) (ha : As[k]? = some a) (s : Step G H [a] G' H' [a]) (c1 : Cells K G' H' [a] [.l es]) : Cells K G' H' As (κ.set k (.l es)) where
  ext := c1.ext
  len := by rw [List.length_set]; exact c.len
  nd := c.nd
  al := fun b h => by
    obtain ⟨o, q⟩ := c.al b h
    cases z : H' b with
    | none => rw [s.dom b z] at q; cases q
    | some u => exact ⟨u, rfl⟩
  ok := fun j x b e1 e2 => by
    by_cases hj : j = k
    · subst hj
      rw [ha] at e2; cases e2
      rw [List.getElem?_set_self (List.getElem?_eq_some_iff.mp hk).1] at e1
      cases e1
      exact c1.ok 0 _ _ rfl rfl
    · rw [List.getElem?_set_ne (fun z => hj z.symm)] at e1
      have w := c.ok j x b e1 e2
      have ne : b ≠ a := fun z => hj (by
        subst z
        obtain ⟨l1, q1⟩ := List.getElem?_eq_some_iff.mp e2
        obtain ⟨l2, q2⟩ := List.getElem?_eq_some_iff.mp ha
        exact (List.getElem_inj c.nd).mp (q1.trans q2.symm))
      have ni : b ∉ [a] := by rw [List.mem_singleton]; exact ne
      cases x with
      | l ds' =>
        obtain ⟨w1, ws, w2, w3⟩ := w
        refine ⟨?_, ws, s.fr b _ ni w2, RpA.mono s.ex _ _ w3⟩
        rcases s.gn b w1 with z | z | z
        · exact z
        · rw [w2] at z; cases z
        · exact absurd z ni
      | m es' =>
        obtain ⟨w1, ws, w2, w3⟩ := w
        refine ⟨?_, ws, s.fr b _ ni w2, w3.mono s.ex ⟨[], by simp⟩⟩
        rcases s.gn b w1 with z | z | z
        · exact z
        · rw [w2] at z; cases z
        · exact absurd z ni
      | z x => exact Rp.mono s.ex _ _ w
      | k es => exact ItH.mono s.ex w
      | x u =>
        obtain ⟨w1, w2⟩ := w
        refine ⟨?_, s.fr b _ ni w2⟩
        rcases s.gn b w1 with z | z | z
        · exact z
        · rw [w2] at z; cases z
        · exact absurd z ni
theorem Step.lent {a : Addr} (hm : a ∈ As) (s : Step G H [a] G' H' [a]) : Step G H As G' H' As :=
  ⟨s.ex, ⟨[], by simp⟩, fun _ h => .inl h, fun b o hb h => s.fr b o (fun z => hb (by rw [List.mem_singleton] at z; rw [z]; exact hm)) h, s.dom, fun b h => by
    rcases s.gn b h with z | z | z
    · exact .inl z
    · exact .inr (.inl z)
    · exact .inr (.inr (by rw [List.mem_singleton] at z; rw [z]; exact hm))⟩
theorem Rv.lent {k : Nat} {a : Addr} (c : Cells K G H As κ) (ha : As[k]? = some a) (h : Rv K H G' H' [a] v r) : Rv K H G' H' As v (r.lab k) := by
  cases r with
  | f xs =>
    obtain ⟨p, vs, e, h0, g0, _, q⟩ := h
    exact ⟨p, vs, e, h0, g0, c.notin h0, q⟩
  | d x => exact h
  | h es => exact h
  | o u => exact h
  | s ns => exact h
  | b ks =>
    obtain ⟨p, vs, h1, h2, h3, h4⟩ := h
    refine ⟨p, vs, h1, h2, by rw [h3, List.length_map], fun i j hk => ?_⟩
    rw [List.getElem?_map] at hk
    cases q : ks[i]? with
    | none => rw [q] at hk; cases hk
    | some j' =>
      rw [q] at hk
      cases hk
      obtain ⟨b, e1, e2⟩ := h4 i j' q
      cases j' with
      | zero => cases e1; exact ⟨a, ha, e2⟩
      | succ j' => simp at e1
  | c j =>
    obtain ⟨b, e1, e2⟩ := h
    cases j with
    | zero => cases e1; exact ⟨a, ha, e2⟩
    | succ j => simp at e1
end
section
variable {X : Cx} {CX : CXT} {k : Nat} {f : Addr} {fd : FuncData} {ps : List Str} {n : Nat} {E : XK} {x : Str} {p pos : Pos} {e : Expr} {es : List Expr} {wr : DTA}
theorem de_call {Φ : List R → (R → Prop) → Prop} (F : FnG X.prog X.w X.K X.mg X.base CX k f fd ps (spD X.K n Φ)) (hr : RoomG k X.A) (hm : X.mg x = some (.ref f)) (hk : PySem.W.keepIn X.K (.ref f) = true) (hb : Binds X.K fd ps []) (hx : Passes CX X E)
    (hn : n = (e :: es).length) (ha : DA X (e :: es) wr) (hg : Gl X x := by rfl) (hdb : (x == ("__debug__" : Str)) = false := by decide) (he : starEach (e :: es) X.env = (false, eval e X.env) :: starEach es X.env := by rfl) (hpl : (backTo pos (starEach es X.env)).any (·.1) = false := by rfl) :
    DE X (.Call (.Name x p) (e :: es) [] pos) (wCall Φ wr) := by
  obtain ⟨t, pt, h⟩ := ha
  refine ⟨_, pe_callG F hr hg hm hk hb .nil hx pt hdb he hpl, fun G H As σ ρ κ P Q c pl w kk => ?_⟩
  refine h G H As σ ρ κ _ _ c pl w fun vs rs G1 H1 As1 κ1 s1 c1 p1 i1 el w1 => ?_
  obtain ⟨⟨xs, κ2⟩, ea, w2⟩ := w1.ex
  obtain ⟨G2, s2, c2, i2⟩ := args_ok c1 i1 ea
  rw [List.append_nil]
  refine ⟨by rw [Paired.length i1, hn]; exact el, G2, xs, _, c2.ext, i2, w2, fun v r G' H' hP hE s3 rv => ?_⟩
  have st : Step G H As G' H' As1 := (s1.trans s2).trans s3.wide
  exact kk v r G' H' As1 κ2 st (c2.call s3 hE) (pl.step st) ((rv.wide c2).back (s1.trans s2)) hP
theorem de_callL {Φ : List PyData → List R → (R → List PyData → Prop) → Prop} (F : FnG X.prog X.w X.K X.mg X.base CX k f fd ps (spL X.K n Φ)) (hr : RoomG k X.A) (hm : X.mg x = some (.ref f)) (hk : PySem.W.keepIn X.K (.ref f) = true) (hb : Binds X.K fd ps []) (hx : Passes CX X E)
    (hn : n = (e :: es).length) (ha : DA X (e :: es) wr) (hg : Gl X x := by rfl) (hdb : (x == ("__debug__" : Str)) = false := by decide) (he : starEach (e :: es) X.env = (false, eval e X.env) :: starEach es X.env := by rfl) (hpl : (backTo pos (starEach es X.env)).any (·.1) = false := by rfl) :
    DE X (.Call (.Name x p) (e :: es) [] pos) (wCallL Φ wr) := by
  obtain ⟨t, pt, h⟩ := ha
  refine ⟨_, pe_callG F hr hg hm hk hb .nil hx pt hdb he hpl, fun G H As σ ρ κ P Q c pl w kk => ?_⟩
  refine h G H As σ ρ κ _ _ c pl w fun vs rs G1 H1 As1 κ1 s1 c1 p1 i1 el w1 => ?_
  obtain ⟨⟨kc, bs, xs, κ2⟩, ea, w2⟩ := w1.ex
  cases rs with
  | nil => cases ea
  | cons r rs =>
    cases r with
    | d y => cases ea
    | f y => cases ea
    | s y => cases ea
    | b y => cases ea
    | h y => cases ea
    | o y => cases ea
    | c kk' =>
      cases i1 with
      | cons i1 i1r =>
        unfold lend at ea
        simp only at ea
        cases q2 : args κ1 rs with
        | none => rw [q2] at ea; cases ea
        | some pp =>
          obtain ⟨ys, κ3⟩ := pp
          rw [q2] at ea
          simp only at ea
          cases q3 : κ3[kk']? with
          | none => rw [q3] at ea; cases ea
          | some c3 =>
            cases c3 with
            | z y => rw [q3] at ea; cases ea
            | m y => rw [q3] at ea; cases ea
            | k y => rw [q3] at ea; cases ea
            | x y => rw [q3] at ea; cases ea
            | l ds =>
              rw [q3] at ea
              cases ea
              obtain ⟨G2, s2, c2, i2⟩ := args_ok c1 i1r q2
              obtain ⟨a, ha1, rfl⟩ := i1
              rw [List.append_nil]
              refine ⟨by rw [List.length_cons, Paired.length i1r, hn]; exact el, G2, a, _, _, _, _, rfl, c2.one q3 ha1, i2, w2, fun v r bs' G' H' hP hE s3 rv => ?_⟩
              have st : Step G H As G' H' As1 := (s1.trans s2).trans (s3.lent (List.mem_of_getElem? ha1))
              exact kk v _ G' H' As1 _ st (c2.lent q3 ha1 s3 hE) (pl.step st) ((rv.lent c2 ha1).back (s1.trans s2)) hP
end
end DL
/-! DLc: tests, targets, statements, loops, comprehensions, defs, over plain data. -/
namespace DL
open PySem PySem.Spec PyProof.Rows L2

/-! ### a value is kept: as plain data, or (m) a fresh list as a cell -/
def sto (m : Bool) (r : R) (κ : Kap) : R × Kap := match m, r with
  | true, .f xs => (.c κ.length, κ ++ [.l xs])
  | _, r => (r.st, κ)
section
variable {K : PySem.W.Frag} {G H G' H' G1 H1 H0 : Hp} {As As' As1 : List Addr} {σ : L2.St} {ρ : Rho} {κ κ' : Kap} {v : V} {r : R}
theorem sto_ok (m : Bool) (s : Step G1 H1 As1 G H As) (c : Cells K G H As κ) (h : Rv K H1 G H As v r) : ∃ G' As', Step G1 H1 As1 G' H As' ∧ Cells K G' H As' (sto m r κ).2 ∧ It K G' As' v (sto m r κ).1 ∧ Ex G G' ∧ ∃ bs, As' = As ++ bs := by
  have dflt : (sto m r κ) = (r.st, κ) → ∃ G' As', Step G1 H1 As1 G' H As' ∧ Cells K G' H As' (sto m r κ).2 ∧ It K G' As' v (sto m r κ).1 ∧ Ex G G' ∧ ∃ bs, As' = As ++ bs := fun e => by
    obtain ⟨G', s', c', _, i', e'⟩ := settle (σ := []) (ρ := []) s c ⟨rfl, fun i r h => by simp at h⟩ h
    rw [e]
    exact ⟨G', As, s', c', i', e', [], by simp⟩
  cases m with
  | false => exact dflt (by cases r <;> rfl)
  | true =>
    cases r with
    | d x => exact dflt rfl
    | c k => exact dflt rfl
    | s ns => exact dflt rfl
    | b ks => exact dflt rfl
    | h ks => exact dflt rfl
    | o u => exact dflt rfl
    | f xs =>
      obtain ⟨q, vs, rfl, h0, g0, nin, hq, rp⟩ := h
      refine ⟨G, As ++ [q], ?_, c.more g0 nin hq rp, ⟨q, ?_, rfl⟩, Ex.refl G, [q], rfl⟩
      · obtain ⟨bs, e⟩ := s.pre
        refine ⟨s.ex, ⟨bs ++ [q], by rw [e, List.append_assoc]⟩, fun a ha => ?_, s.fr, s.dom, s.gn⟩
        rcases List.mem_append.mp ha with z | z
        · exact s.new a z
        · rw [List.mem_singleton] at z
          subst z; exact .inr h0
      · show (As ++ [q])[κ.length]? = some q
        rw [← c.len, List.getElem?_append_right (Nat.le_refl _), Nat.sub_self]
        rfl
theorem Places.mono (p : Places K G As σ ρ) (e : Ex G G') (hp : ∃ bs, As' = As ++ bs) : Places K G' As' σ ρ :=
  ⟨p.len, fun i r h => by
    obtain ⟨v, h1, h2⟩ := p.ok i r h
    exact ⟨v, h1, h2.mono e hp⟩⟩
theorem Places.put (p : Places K G As σ ρ) (i : Nat) (h : It K G As v r) : Places K G As (σ.set i (some v)) (ρ.set i (some r)) :=
  ⟨by rw [List.length_set, List.length_set]; exact p.len, fun j q e => by
    by_cases hj : i = j
    · subst hj
      by_cases hi : i < ρ.length
      · rw [List.getElem?_set_self hi] at e
        cases e
        exact ⟨v, List.getElem?_set_self (by rw [p.len]; exact hi), h⟩
      · rw [List.getElem?_eq_none (by rw [List.length_set]; omega)] at e; cases e
    · rw [List.getElem?_set_ne hj] at e ⊢
      exact p.ok j q e⟩
end
def wConsM (m : Bool) (wa : DTE) (wr : DTA) : DTA := fun ρ κ P => wa ρ κ fun r κ1 => wr ρ (sto m r κ1).2 fun rs κ2 => P ((sto m r κ1).1 :: rs) κ2
section
variable {X : Cx} {e a b : Expr} {es : List Expr} {wa wb : DTE} {wr : DTA} {pos : Pos} {wt wu : DTT}
theorem da_consM (m : Bool) (ha : DE X e wa) (hr : DA X es wr) (hs : starEach (e :: es) X.env = (false, eval e X.env) :: starEach es X.env := by rfl) : DA X (e :: es) (wConsM m wa wr) := by
  obtain ⟨ta, pa, ha⟩ := ha
  obtain ⟨tr, pr, hr⟩ := hr
  refine ⟨_, pa_cons pa pr hs, fun G H As σ ρ κ P Q c p w k => ?_⟩
  refine ha G H As σ ρ κ _ _ c p w fun v1 r1 G1 H1 As1 κ1 s1 c1 p1 i1 w1 => ?_
  obtain ⟨G1', As1', s1', c1', i1', e1, e2⟩ := sto_ok m s1 c1 i1
  refine hr G1' H1 As1' σ ρ _ _ _ c1' (p1.mono e1 e2) w1 fun vs rs G2 H2 As2 κ2 s2 c2 p2 i2 l2 w2 => ?_
  exact k _ _ G2 H2 As2 κ2 (s1'.trans s2) c2 p2 (.cons (s2.it i1') i2) (congrArg (· + 1) l2) w2

/-! ### tests -/
def truth : PyData → Option Bool
  | .none => some false
  | .bool b => some b
  | .int i => some (i != 0)
  | .str z => if z.length ≤ sizeLine then some ((z.length : Int) != 0) else none
  | .list xs => some (!xs.isEmpty)
  | .tuple xs => some (!xs.isEmpty)
  | .dict _ => none
def wTru (wa : DTE) : DTT := fun ρ κ P => wa ρ κ fun r κ1 => Opt (val κ1 r.st) fun x => Opt (truth x) fun b => P b κ1
def wB (wa : DTE) : DTT := fun ρ κ P => wa ρ κ fun r κ1 => match r with
  | .d (.bool b) => P b κ1
  | _ => False
theorem tru_of {K : PySem.W.Frag} {G H : Hp} {v : V} {x : PyData} {b : Bool} (ext : Ex G H) (h : Vw K G H v x) (e : truth x = some b) : TruV K v H b := by
  have emp : ∀ {vs : List V} {ds : List PyData}, RpA K G vs ds → (!vs.isEmpty) = !ds.isEmpty := fun r => by cases r <;> rfl
  cases x with
  | none => cases e; cases h; rfl
  | bool c => cases e; cases h; rfl
  | int i => cases e; cases h; rfl
  | str z =>
    cases h
    unfold truth at e
    simp only at e
    split at e
    · cases e; exact ⟨by assumption, rfl⟩
    · cases e
  | list xs =>
    cases e
    obtain ⟨a, vs, rfl, h1, h2⟩ := h
    exact .inl ⟨vs, sql_of h1, (emp h2).symm⟩
  | tuple xs =>
    cases e
    obtain ⟨a, vs, rfl, h1, h2⟩ := h.tup ext
    exact .inr (.inl ⟨vs, h1, (emp h2).symm⟩)
  | dict _ => cases e
theorem dt_tru (ha : DE X a wa) (he : ∀ whole, isTrue a X.env whole = (do let v ← whole; standAt a.pos; holding [v] (truthy v)) := by intro _; rfl) : DT X a (wTru wa) := by
  obtain ⟨ta, pa, ha⟩ := ha
  refine ⟨_, pt_truth pa he, fun G H As σ ρ κ P Q c p w k => ?_⟩
  refine ha G H As σ ρ κ _ _ c p w fun v1 r1 G1 H1 As1 κ1 s1 c1 p1 i1 w1 => ?_
  obtain ⟨G1', s1', c1', p1', i1', _⟩ := settle s1 c1 p1 i1
  obtain ⟨x, ex, w2⟩ := w1.ex
  obtain ⟨b, eb, w3⟩ := w2.ex
  exact ⟨b, tru_of c1'.ext (i1'.vw c1' ex) eb, k b G1' H1 As1 κ1 s1' c1' p1' w3⟩
theorem dt_cmp {op : CmpOp} {r2 : R2} {g : PyData → PyData → Option Out} (ho : OpR X (compareOp op) r2) (hg : OpD X.K r2 g) (ha : DE X a wa) (hb : DE X b wb) (hm : behindInMarks op b = false) : DT X (.Compare a [op] [b] pos) (wB (wBin g wa wb)) := by
  obtain ⟨ta, pa, ha⟩ := ha
  obtain ⟨tb, pb, hb⟩ := hb
  refine ⟨_, pt_cmpR ho pa pb hm, fun G H As σ ρ κ P Q c p w k => ?_⟩
  refine bin_reads hg ha hb G H As σ ρ κ _ _ c p w fun v r G1 H1 As1 κ1 s1 c1 p1 i1 w1 => ?_
  cases r with
  | d x =>
    cases x with
    | bool z =>
      have i1 : Rp X.K G1 v (.bool z) := i1
      cases i1
      exact ⟨z, rfl, k z G1 H1 As1 κ1 s1 c1 p1 w1⟩
    | _ => exact w1.elim
  | _ => exact w1.elim
def wNot (wt : DTT) : DTT := fun ρ κ P => wt ρ κ fun b κ1 => P (!b) κ1
def wAnd (wt wu : DTT) : DTT := fun ρ κ P => wt ρ κ fun b κ1 => if b = true then wu ρ κ1 P else P false κ1
def wOr (wt wu : DTT) : DTT := fun ρ κ P => wt ρ κ fun b κ1 => if b = true then P true κ1 else wu ρ κ1 P
theorem dt_not (h : DT X a wt) : DT X (.UnaryOp .Not a pos) (wNot wt) := by
  obtain ⟨t, pt, h⟩ := h
  exact ⟨_, pt_not pt, fun G H As σ ρ κ P Q c p w k => h G H As σ ρ κ _ _ c p w fun b => k (!b)⟩
theorem dw_pt (h : DW X a wt) : DT X a wt := by
  obtain ⟨t, pt, h⟩ := h
  exact ⟨_, pt.pt, h⟩
theorem dw_and1 (h : DT X a wt) : DW X (.BoolOp .And [a] pos) wt := by
  obtain ⟨t, pt, h⟩ := h
  exact ⟨_, pw_and1 pt, h⟩
theorem dw_or1 (h : DT X a wt) : DW X (.BoolOp .Or [a] pos) wt := by
  obtain ⟨t, pt, h⟩ := h
  exact ⟨_, pw_or1 pt, h⟩
theorem dw_and (h : DT X a wt) (hb : DW X (.BoolOp .And (b :: es) pos) wu) : DW X (.BoolOp .And (a :: b :: es) pos) (wAnd wt wu) := by
  obtain ⟨t, pt, h⟩ := h
  obtain ⟨u, pu, hb⟩ := hb
  refine ⟨_, pw_and pt pu, fun G H As σ ρ κ P Q c p w k => ?_⟩
  refine h G H As σ ρ κ _ _ c p w fun z G1 H1 As1 κ1 s1 c1 p1 w1 => ?_
  cases z with
  | true =>
    rw [if_pos rfl] at w1 ⊢
    exact hb G1 H1 As1 σ ρ κ1 _ _ c1 p1 w1 fun y G2 H2 As2 κ2 s2 c2 p2 w2 => k y G2 H2 As2 κ2 (s1.trans s2) c2 p2 w2
  | false =>
    rw [if_neg (by decide)] at w1 ⊢
    exact k false G1 H1 As1 κ1 s1 c1 p1 w1
theorem dw_or (h : DT X a wt) (hb : DW X (.BoolOp .Or (b :: es) pos) wu) : DW X (.BoolOp .Or (a :: b :: es) pos) (wOr wt wu) := by
  obtain ⟨t, pt, h⟩ := h
  obtain ⟨u, pu, hb⟩ := hb
  refine ⟨_, pw_or pt pu, fun G H As σ ρ κ P Q c p w k => ?_⟩
  refine h G H As σ ρ κ _ _ c p w fun z G1 H1 As1 κ1 s1 c1 p1 w1 => ?_
  cases z with
  | false =>
    rw [if_neg (by decide)] at w1 ⊢
    exact hb G1 H1 As1 σ ρ κ1 _ _ c1 p1 w1 fun y G2 H2 As2 κ2 s2 c2 p2 w2 => k y G2 H2 As2 κ2 (s1.trans s2) c2 p2 w2
  | true =>
    rw [if_pos rfl] at w1 ⊢
    exact k true G1 H1 As1 κ1 s1 c1 p1 w1
/-! and, or, not, a if t else b as values -/
def wAndV (wa wb : DTE) : DTE := fun ρ κ P => wa ρ κ fun r κ1 => match r with
  | .d (.bool z) => if z = true then wb ρ κ1 P else P (.d (.bool false)) κ1
  | _ => False
def wOrV (wa wb : DTE) : DTE := fun ρ κ P => wa ρ κ fun r κ1 => match r with
  | .d (.bool z) => if z = true then P (.d (.bool true)) κ1 else wb ρ κ1 P
  | _ => False
def wNotV (wa : DTE) : DTE := fun ρ κ P => wa ρ κ fun r κ1 => match r with
  | .d (.bool z) => P (.d (.bool (!z))) κ1
  | _ => False
def wIf (wt : DTT) (wa wb : DTE) : DTE := fun ρ κ P => wt ρ κ fun z κ1 => if z = true then wa ρ κ1 P else wb ρ κ1 P
theorem de_one {op : BoolOp} (h : DE X a wa) : DE X (.BoolOp op [a] pos) wa := by
  obtain ⟨t, pt, h⟩ := h
  exact ⟨_, pe_one pt, h⟩
theorem de_and (ha : DE X a wa) (hb : DE X (.BoolOp .And (b :: es) pos) wb) : DE X (.BoolOp .And (a :: b :: es) pos) (wAndV wa wb) := by
  obtain ⟨t, pt, ha⟩ := ha
  obtain ⟨u, pu, hb⟩ := hb
  refine ⟨_, pe_and pt pu, fun G H As σ ρ κ P Q c p w k => ?_⟩
  refine ha G H As σ ρ κ _ _ c p w fun v r G1 H1 As1 κ1 s1 c1 p1 i1 w1 => ?_
  cases r with
  | d x =>
    cases x with
    | bool z =>
      have i1 : Rp X.K G1 v (.bool z) := i1
      cases i1
      refine ⟨z, rfl, ?_⟩
      cases z with
      | true =>
        simp only [if_pos] at w1
        rw [if_pos rfl]
        exact hb G1 H1 As1 σ ρ κ1 _ _ c1 p1 w1 fun y r2 G2 H2 As2 κ2 s2 c2 p2 i2 w2 => k y r2 G2 H2 As2 κ2 (s1.trans s2) c2 p2 (i2.back s1) w2
      | false =>
        simp only [if_neg (show ¬ false = true by decide)] at w1
        rw [if_neg (by decide)]
        exact k _ (.d (.bool false)) G1 H1 As1 κ1 s1 c1 p1 (.bl false) w1
    | _ => exact w1.elim
  | _ => exact w1.elim
theorem de_or (ha : DE X a wa) (hb : DE X (.BoolOp .Or (b :: es) pos) wb) : DE X (.BoolOp .Or (a :: b :: es) pos) (wOrV wa wb) := by
  obtain ⟨t, pt, ha⟩ := ha
  obtain ⟨u, pu, hb⟩ := hb
  refine ⟨_, pe_or pt pu, fun G H As σ ρ κ P Q c p w k => ?_⟩
  refine ha G H As σ ρ κ _ _ c p w fun v r G1 H1 As1 κ1 s1 c1 p1 i1 w1 => ?_
  cases r with
  | d x =>
    cases x with
    | bool z =>
      have i1 : Rp X.K G1 v (.bool z) := i1
      cases i1
      refine ⟨z, rfl, ?_⟩
      cases z with
      | false =>
        simp only [if_neg (show ¬ false = true by decide)] at w1
        rw [if_neg (by decide)]
        exact hb G1 H1 As1 σ ρ κ1 _ _ c1 p1 w1 fun y r2 G2 H2 As2 κ2 s2 c2 p2 i2 w2 => k y r2 G2 H2 As2 κ2 (s1.trans s2) c2 p2 (i2.back s1) w2
      | true =>
        simp only [if_pos] at w1
        rw [if_pos rfl]
        exact k _ (.d (.bool true)) G1 H1 As1 κ1 s1 c1 p1 (.bl true) w1
    | _ => exact w1.elim
  | _ => exact w1.elim
theorem de_not (ha : DE X a wa) : DE X (.UnaryOp .Not a pos) (wNotV wa) := by
  obtain ⟨t, pt, ha⟩ := ha
  refine ⟨_, pe_not pt, fun G H As σ ρ κ P Q c p w k => ?_⟩
  refine ha G H As σ ρ κ _ _ c p w fun v r G1 H1 As1 κ1 s1 c1 p1 i1 w1 => ?_
  cases r with
  | d x =>
    cases x with
    | bool z =>
      have i1 : Rp X.K G1 v (.bool z) := i1
      cases i1
      exact ⟨z, rfl, k _ (.d (.bool (!z))) G1 H1 As1 κ1 s1 c1 p1 (.bl (!z)) w1⟩
    | _ => exact w1.elim
  | _ => exact w1.elim
theorem de_ifx {t : Expr} (ht : DT X t wt) (ha : DE X a wa) (hb : DE X b wb) : DE X (.IfExp t a b pos) (wIf wt wa wb) := by
  obtain ⟨tt, pt, ht⟩ := ht
  obtain ⟨ta, pa, ha⟩ := ha
  obtain ⟨tb, pb, hb⟩ := hb
  refine ⟨_, pe_ifExp pt pa pb, fun G H As σ ρ κ P Q c p w k => ?_⟩
  refine ht G H As σ ρ κ _ _ c p w fun z G1 H1 As1 κ1 s1 c1 p1 w1 => ?_
  cases z with
  | true =>
    rw [if_pos rfl] at w1 ⊢
    exact ha G1 H1 As1 σ ρ κ1 _ _ c1 p1 w1 fun y r2 G2 H2 As2 κ2 s2 c2 p2 i2 w2 => k y r2 G2 H2 As2 κ2 (s1.trans s2) c2 p2 (i2.back s1) w2
  | false =>
    rw [if_neg (by decide)] at w1 ⊢
    exact hb G1 H1 As1 σ ρ κ1 _ _ c1 p1 w1 fun y r2 G2 H2 As2 κ2 s2 c2 p2 i2 w2 => k y r2 G2 H2 As2 κ2 (s1.trans s2) c2 p2 (i2.back s1) w2
end

/-! ### targets -/
def Wr (js : List Nat) (σ σ' : L2.St) : Prop := σ'.length = σ.length ∧ ∀ i, i ∉ js → σ'[i]? = σ[i]?
def DG (X : Cx) (e : Expr) (js : List Nat) (w : DTG) : Prop := ∃ g, PG X e g ∧ ∀ (G H : Hp) (As : List Addr) (σ : L2.St) (ρ : Rho) (κ : Kap) (v : V) (r : R) (P : Rho → Kap → Prop) (Q : L2.St → Hp → Prop), Cells X.K G H As κ → Places X.K G As σ ρ → It X.K G As v r → w r ρ κ P →
  (∀ σ' ρ' G' H' As' κ', Wr js σ σ' → Step G H As G' H' As' → Cells X.K G' H' As' κ' → Places X.K G' As' σ' ρ' → P ρ' κ' → Q σ' H') → g v σ H Q
def DGs (X : Cx) (es : List Expr) (js : List Nat) (w : List PyData → Rho → Kap → (Rho → Kap → Prop) → Prop) : Prop := ∃ g, PGs X es g ∧ ∀ (G H : Hp) (As : List Addr) (σ : L2.St) (ρ : Rho) (κ : Kap) (vs : List V) (xs : List PyData) (P : Rho → Kap → Prop) (Q : L2.St → Hp → Prop), Cells X.K G H As κ → Places X.K G As σ ρ → RpA X.K G vs xs → w xs ρ κ P →
  (∀ σ' ρ' G' H' As' κ', Wr js σ σ' → Step G H As G' H' As' → Cells X.K G' H' As' κ' → Places X.K G' As' σ' ρ' → P ρ' κ' → Q σ' H') → g vs σ H Q
theorem Wr.refl {js : List Nat} {σ : L2.St} : Wr js σ σ := ⟨rfl, fun _ _ => rfl⟩
theorem Wr.trans {js is : List Nat} {σ σ1 σ2 : L2.St} (a : Wr js σ σ1) (b : Wr is σ1 σ2) : Wr (js ++ is) σ σ2 :=
  ⟨b.1.trans a.1, fun i h => (b.2 i fun z => h (List.mem_append_right _ z)).trans (a.2 i fun z => h (List.mem_append_left _ z))⟩
theorem wipe_in {σ : L2.St} {i : Nat} : ∀ {vs : List Nat}, i ∈ vs → (wipe σ vs)[i]? = if i < σ.length then some none else none
  | [], h => by cases h
  | v :: vs, h => by
    unfold wipe
    by_cases e : v = i
    · subst e
      by_cases hl : v < σ.length
      · rw [if_pos hl, List.getElem?_set_self (by rw [wipe_length]; exact hl)]
      · rw [if_neg hl, List.getElem?_eq_none (by rw [List.length_set, wipe_length]; omega)]
    · rw [List.getElem?_set_ne e]
      rcases List.mem_cons.mp h with z | z
      · exact absurd z.symm e
      · exact wipe_in z
theorem Wr.wipe {js vs : List Nat} {σ σ' : L2.St} (w : Wr js σ σ') (h : ∀ j, j ∈ js → j ∈ vs) : wipe σ' vs = wipe σ vs := by
  refine List.ext_getElem? fun i => ?_
  by_cases hi : i ∈ vs
  · rw [wipe_in hi, wipe_in hi, w.1]
  · rw [wipe_out hi, wipe_out hi]
    exact w.2 i fun z => hi (h i z)
def wName (i : Nat) : DTG := fun r ρ κ P => P (ρ.set i (some r)) κ
def wgNil : List PyData → Rho → Kap → (Rho → Kap → Prop) → Prop := fun xs ρ κ P => match xs with
  | [] => P ρ κ
  | _ => False
def wgCons (g : DTG) (gs : List PyData → Rho → Kap → (Rho → Kap → Prop) → Prop) : List PyData → Rho → Kap → (Rho → Kap → Prop) → Prop := fun xs ρ κ P => match xs with
  | x :: xs => g (.d x) ρ κ fun ρ1 κ1 => gs xs ρ1 κ1 P
  | [] => False
def wTupG (n : Nat) (gs : List PyData → Rho → Kap → (Rho → Kap → Prop) → Prop) : DTG := fun r ρ κ P => match r with
  | .d (.tuple xs) => xs.length = n ∧ gs xs ρ κ P
  | _ => False
/-- a written tuple of names that a LIST goes to -/
def wTupL (n : Nat) (gs : List PyData → Rho → Kap → (Rho → Kap → Prop) → Prop) : DTG := fun r ρ κ P => Opt (val κ r) fun x => match x with
  | .list xs => xs.length = n ∧ gs xs ρ κ P
  | _ => False
section
variable {X : Cx} {pos : Pos} {e : Expr} {es : List Expr} {js is : List Nat} {wg : DTG} {gs : List PyData → Rho → Kap → (Rho → Kap → Prop) → Prop}
theorem dg_name (i : Nat) {x : Str} (hN : X.N.Nodup) (hi : X.N[i]? = some x := by rfl) (hx : Loc X.env.scope x := by first | exact Or.inl rfl | exact Or.inr rfl) (hf : X.fn x = true ∨ X.env.scope.names.lookup x = some .local := by first | exact .inl rfl | exact .inr rfl) : DG X (.Name x pos) [i] (wName i) := by
  refine ⟨_, pg_name hN hi hx hf, fun G H As σ ρ κ v r P Q c p h w k => ?_⟩
  refine k _ _ G H As κ ⟨by rw [List.length_set], fun j hj => List.getElem?_set_ne fun z => hj (by rw [z]; exact List.mem_singleton.mpr rfl)⟩ Step.refl c (p.put i h) w
theorem dgs_nil : DGs X [] [] wgNil := by
  refine ⟨_, pgs_nil, fun G H As σ ρ κ vs xs P Q c p h w k => ?_⟩
  cases h with
  | nil => exact ⟨rfl, k σ ρ G H As κ Wr.refl Step.refl c p w⟩
  | cons _ _ => exact w.elim
theorem dgs_cons (h1 : DG X e js wg) (h2 : DGs X es is gs) (hs : (assignEach (e :: es) X.env).map (·.2) = assign e X.env :: (assignEach es X.env).map (·.2) := by rfl) : DGs X (e :: es) (js ++ is) (wgCons wg gs) := by
  obtain ⟨g, pg, h1⟩ := h1
  obtain ⟨u, pu, h2⟩ := h2
  refine ⟨_, pgs_cons pg pu hs, fun G H As σ ρ κ vs xs P Q c p h w k => ?_⟩
  cases h with
  | nil => exact w.elim
  | cons r1 r2 =>
    refine ⟨_, _, rfl, ?_⟩
    refine h1 G H As σ ρ κ _ (.d _) _ _ c p r1 w fun σ1 ρ1 G1 H1 As1 κ1 a1 s1 c1 p1 w1 => ?_
    refine h2 G1 H1 As1 σ1 ρ1 κ1 _ _ _ _ c1 p1 (RpA.mono s1.ex _ _ r2) w1 fun σ2 ρ2 G2 H2 As2 κ2 a2 s2 c2 p2 w2 => ?_
    exact k σ2 ρ2 G2 H2 As2 κ2 (a1.trans a2) (s1.trans s2) c2 p2 w2
theorem dg_tup {k n : Nat} (hc : X.calm = true) (h : DGs X es js gs) (hn : (assignEach es X.env).length = n := by rfl) (hst : (assignEach es X.env).findIdx? (·.1) = none := by rfl) : DG X (.Tuple es k pos) js (wTupG n gs) := by
  obtain ⟨g, pg, h⟩ := h
  refine ⟨_, pg_tup hc pg hn hst, fun G H As σ ρ κ v r P Q c p i w k => ?_⟩
  unfold wTupG at w
  split at w
  · rename_i xs
    obtain ⟨hl, w⟩ := w
    have i : Rp X.K G v (.tuple xs) := i
    cases i with
    | tup h1 h2 => exact ⟨_, _, rfl, ex_st c.ext h1, h2.len.trans hl, h G H As σ ρ κ _ _ P Q c p h2 w k⟩
  · exact w.elim
theorem dg_tupL {k n : Nat} (hc : X.calm = true) (h : DGs X es js gs) (hn : (assignEach es X.env).length = n := by rfl) (hst : (assignEach es X.env).findIdx? (·.1) = none := by rfl) : DG X (.Tuple es k pos) js (wTupL n gs) := by
  obtain ⟨g, pg, h⟩ := h
  refine ⟨_, pg_unl hc pg hn hst, fun G H As σ ρ κ v r P Q c p i w k => ?_⟩
  obtain ⟨x, ex, w⟩ := w.ex
  cases x with
  | list xs =>
    obtain ⟨hl, w⟩ := w
    obtain ⟨a, vs, rfl, h1, h2⟩ := i.vw c ex
    exact ⟨a, vs, rfl, sql_of h1, h2.len.trans hl, h G H As σ ρ κ _ _ P Q c p h2 w k⟩
  | _ => exact w.elim
end

/-! ### statements -/
def wNext : DTS := fun E ρ κ => E.nx ρ κ
def wSeq (a b : DTS) : DTS := fun E ρ κ => a { E with nx := b E } ρ κ
def wAsg (we : DTE) (wg : DTG) : DTS := fun E ρ κ => we ρ κ fun r κ1 => wg r.st ρ κ1 E.nx
def wSet (m : Bool) (i : Nat) (we : DTE) : DTS := fun E ρ κ => we ρ κ fun r κ1 => E.nx (ρ.set i (some (sto m r κ1).1)) (sto m r κ1).2
def wPar (i j : Nat) (wa : DTA) : DTS := fun E ρ κ => wa ρ κ fun rs κ1 => match rs with
  | [r, q] => E.nx ((ρ.set i (some r)).set j (some q)) κ1
  | _ => False
def setN : List Nat → List R → Rho → Rho
  | i :: is, r :: rs, ρ => setN is rs (ρ.set i (some r))
  | _, _, ρ => ρ
def wTT (is : List Nat) (wa : DTA) : DTS := fun E ρ κ => wa ρ κ fun rs κ1 => rs.length = is.length ∧ is.length ≤ sizeLine ∧ E.nx (setN is rs ρ) κ1
def wDrop (we : DTE) : DTS := fun E ρ κ => we ρ κ fun _ κ1 => E.nx ρ κ1
def wRet (we : DTE) : DTS := fun E ρ κ => we ρ κ E.rt
def wRetN : DTS := fun E _ κ => E.rt (.d .none) κ
def wIfS (wt : DTT) (a b : DTS) : DTS := fun E ρ κ => wt ρ κ fun z κ1 => if z = true then a E ρ κ1 else b E ρ κ1
def wBrk : DTS := fun E ρ κ => E.bk ρ κ
def wCnt : DTS := fun E ρ κ => E.ct ρ κ
section
variable {X : Cx} {pos : Pos} {e a b tg : Expr} {es : List Expr} {st : Stmt} {sts sts2 : List Stmt} {w u : DTS} {we wa : DTE} {wr : DTA} {wt : DTT} {wg : DTG} {js : List Nat}
theorem dss_nil : DSs X [] wNext := ⟨_, pss_nil, fun G H As σ ρ κ E D c p w r => r.nx σ ρ G H As κ Step.refl c p w⟩
theorem dss_cons (h1 : DS X st w) (h2 : DSs X sts u) : DSs X (st :: sts) (wSeq w u) := by
  obtain ⟨t1, p1, h1⟩ := h1
  obtain ⟨t2, p2, h2⟩ := h2
  refine ⟨_, pss_cons p1 p2, fun G H As σ ρ κ E D c p w r => ?_⟩
  refine h1 G H As σ ρ κ { E with nx := u E } _ c p w ⟨fun σ1 ρ1 G1 H1 As1 κ1 s1 c1 pl1 w1 => ?_, r.bk, r.ct, r.rt⟩
  exact h2 G1 H1 As1 σ1 ρ1 κ1 E D c1 pl1 w1 (r.step s1)
theorem dss_one (h1 : DS X st w) : DSs X [st] w := by
  obtain ⟨t1, p1, h1⟩ := h1
  exact ⟨_, pss_one p1, h1⟩
theorem ds_pass : DS X (.Pass pos) wNext := ⟨_, ps_pass, fun G H As σ ρ κ E D c p w r => r.nx σ ρ G H As κ Step.refl c p w⟩
theorem ds_break : DS X (.Break pos) wBrk := ⟨_, ps_break, fun G H As σ ρ κ E D c p w r => r.bk σ ρ G H As κ Step.refl c p w⟩
theorem ds_continue : DS X (.Continue pos) wCnt := ⟨_, ps_continue, fun G H As σ ρ κ E D c p w r => r.ct σ ρ G H As κ Step.refl c p w⟩
theorem ds_asg (he : DE X e we) (hg : DG X tg js wg) (hs : swapsWithSole [tg] e pos.line X.env = pure false := by rfl) (hw : swappedStores [tg] e X.env = pure none := by rfl) (h1 : (assignEach [tg] X.env).map (·.2) = [assign tg X.env] := by rfl) : DS X (.Assign [tg] e pos) (wAsg we wg) := by
  obtain ⟨t, pt, he⟩ := he
  obtain ⟨g, pg, hg⟩ := hg
  refine ⟨_, ps_asg pt pg hs hw h1, fun G H As σ ρ κ E D c p w r => ?_⟩
  refine he G H As σ ρ κ _ _ c p w fun v q G1 H1 As1 κ1 s1 c1 p1 i1 w1 => ?_
  obtain ⟨G1', s1', c1', p1', i1', _⟩ := settle s1 c1 p1 i1
  refine hg G1' H1 As1 σ ρ κ1 _ _ _ _ c1' p1' i1' w1 fun σ2 ρ2 G2 H2 As2 κ2 _ s2 c2 p2 w2 => ?_
  exact r.nx σ2 ρ2 G2 H2 As2 κ2 (s1'.trans s2) c2 p2 w2
theorem ds_set (m : Bool) (i : Nat) {x : Str} {pos' : Pos} (hN : X.N.Nodup) (he : DE X e we) (hi : X.N[i]? = some x := by rfl) (hx : Loc X.env.scope x := by first | exact Or.inl rfl | exact Or.inr rfl) (hs : swapsWith e (some (.Name x pos')) pos.line X.env = pure false := by rfl)
    (hf : X.fn x = true ∨ X.env.scope.names.lookup x = some .local := by first | exact .inl rfl | exact .inr rfl) : DS X (.Assign [.Name x pos'] e pos) (wSet m i we) := by
  obtain ⟨t, pt, he⟩ := he
  refine ⟨_, ps_set hN hi hx pt hs hf, fun G H As σ ρ κ E D c p w r => ?_⟩
  refine he G H As σ ρ κ _ _ c p w fun v q G1 H1 As1 κ1 s1 c1 p1 i1 w1 => ?_
  obtain ⟨G1', As1', s1', c1', i1', e1, e2⟩ := sto_ok m s1 c1 i1
  exact r.nx _ _ G1' H1 As1' _ s1' c1' ((p1.mono e1 e2).put i i1') w1
theorem ds_par (i j : Nat) {x y : Str} {px py pt : Pos} {kt k2 : Nat} {pt2 : Pos} (hc : X.calm = true) (hN : X.N.Nodup) (ha : DA X [a, b] wr) (hi : X.N[i]? = some x := by rfl) (hj : X.N[j]? = some y := by rfl) (hij : i ≠ j := by decide)
    (hx : X.env.scope.names.lookup x = some .local := by rfl) (hy : X.env.scope.names.lookup y = some .local := by rfl)
    (hw : swappedStores [.Tuple [.Name x px, .Name y py] kt pt] (.Tuple [a, b] k2 pt2) X.env = pure (some [x, y]) := by rfl)
    (hs : swapsWithSole [.Tuple [.Name x px, .Name y py] kt pt] (.Tuple [a, b] k2 pt2) pos.line X.env = pure false := by rfl) :
    DS X (.Assign [.Tuple [.Name x px, .Name y py] kt pt] (.Tuple [a, b] k2 pt2) pos) (wPar i j wr) := by
  obtain ⟨t, ptt, ha⟩ := ha
  refine ⟨_, ps_par hc hN hi hj hij hx hy ptt hw hs, fun G H As σ ρ κ E D c p w r => ?_⟩
  refine ha G H As σ ρ κ _ _ c p w fun vs rs G1 H1 As1 κ1 s1 c1 p1 i1 l1 w1 => ?_
  match rs, vs, i1, w1 with
  | [q1, q2], _, .cons h1 (.cons h2 .nil), w1 => exact ⟨_, _, rfl, r.nx _ _ G1 H1 As1 κ1 s1 c1 ((p1.put i h1).put j h2) w1⟩
  | [], _, _, w1 => exact w1.elim
  | [_], _, _, w1 => exact w1.elim
  | _ :: _ :: _ :: _, _, _, w1 => exact w1.elim
theorem ds_expr (he : DE X e we) (hs : swapsWith e none pos.line X.env = pure false := by rfl) : DS X (.Expr e pos) (wDrop we) := by
  obtain ⟨t, pt, he⟩ := he
  refine ⟨_, ps_expr pt hs, fun G H As σ ρ κ E D c p w r => ?_⟩
  exact he G H As σ ρ κ _ _ c p w fun v q G1 H1 As1 κ1 s1 c1 p1 i1 w1 => r.nx σ ρ G1 H1 As1 κ1 s1 c1 p1 w1
theorem ds_ret (he : DE X e we) : DS X (.Return (some e) pos) (wRet we) := by
  obtain ⟨t, pt, he⟩ := he
  refine ⟨_, ps_ret pt, fun G H As σ ρ κ E D c p w r => ?_⟩
  exact he G H As σ ρ κ _ _ c p w fun v q G1 H1 As1 κ1 s1 c1 p1 i1 w1 => r.rt v q G1 H1 As1 κ1 s1 c1 i1 w1
theorem ds_retN : DS X (.Return none pos) wRetN := ⟨_, ps_retN, fun G H As σ ρ κ E D c p w r => r.rt _ (.d .none) G H As κ Step.refl c .non w⟩
theorem ds_if {t : Expr} (ht : DT X t wt) (ha : DSs X sts w) (hb : DSs X sts2 u) : DS X (.If t sts sts2 pos) (wIfS wt w u) := by
  obtain ⟨tt, pt, ht⟩ := ht
  obtain ⟨ta, pa, ha⟩ := ha
  obtain ⟨tb, pb, hb⟩ := hb
  refine ⟨_, ps_if pt pa pb, fun G H As σ ρ κ E D c p w r => ?_⟩
  refine ht G H As σ ρ κ _ _ c p w fun z G1 H1 As1 κ1 s1 c1 p1 w1 => ?_
  cases z with
  | true =>
    rw [if_pos rfl] at w1 ⊢
    exact ha G1 H1 As1 σ ρ κ1 E D c1 p1 w1 (r.step s1)
  | false =>
    rw [if_neg (by decide)] at w1 ⊢
    exact hb G1 H1 As1 σ ρ κ1 E D c1 p1 w1 (r.step s1)
end
end DL
/-! DLd: walks, for, while, comprehensions, lists changed in place, a def's body, over plain data. -/
namespace DL
open PySem PySem.Spec PyProof.Rows L2

/-! ### what a for walks -/
def WalkOk (K : PySem.W.Frag) (G : Hp) (As : List Addr) (J : L2.It) (xs : List PyData) (ok : Kap → Prop) : Prop := ∀ (G' H' : Hp) (As' : List Addr) (κ' : Kap), Ex G G' → (∃ bs, As' = As ++ bs) → Cells K G' H' As' κ' → ok κ' →
  (∀ i, i < xs.length → J.go i H') ∧ J.stop xs.length H' ∧ ∀ i v H'' x, J.yld i H' v H'' → xs[i]? = some x → ∃ G'', Step G' H' As' G'' H'' As' ∧ Cells K G'' H'' As' κ' ∧ Rp K G'' v x
abbrev DTI := Rho → Kap → (List PyData → (Kap → Prop) → Kap → Prop) → Prop
def DI (X : Cx) (tg it : Expr) (w : DTI) : Prop := ∃ t, PI X tg it t ∧ ∀ (G H : Hp) (As : List Addr) (σ : L2.St) (ρ : Rho) (κ : Kap) (P : List PyData → (Kap → Prop) → Kap → Prop) (R : L2.It → Hp → Prop), Cells X.K G H As κ → Places X.K G As σ ρ → w ρ κ P →
  (∀ J xs ok G' H' As' κ', Step G H As G' H' As' → Cells X.K G' H' As' κ' → Places X.K G' As' σ ρ → WalkOk X.K G' As' J xs ok → ok κ' → P xs ok κ' → R J H') → t σ H R
/-- a list, a tuple, a text -/
def iSeq (K : PySem.W.Frag) (tl : TE) : TI := fun σ H R => tl σ H fun x H1 => (∃ a xs, x = .ref a ∧ SqL K H1 a xs ∧ R (Itl K a) H1) ∨ (∃ a xs, x = .ref a ∧ SqT K H1 a xs ∧ R (Itt K a) H1) ∨ ∃ z, x = .str z ∧ R (Its z) H1
section
variable {X : Cx} {tg l : Expr}
theorem pi_seq {tl : TE} (hl : PE X l tl) : PI X tg l (iSeq X.K tl) := by
  refine ⟨fun pins s σ H R I h => ?_⟩
  refine thn (hl.run pins s σ H _ I h) fun v s1 ⟨x, H1, I1, r1, q1⟩ => ?_
  rcases q1 with ⟨a, xs, ex, hq, q⟩ | ⟨a, xs, ex, hq, q⟩ | ⟨z, ex, q⟩
  · subst ex
    cases r1
    obtain ⟨its, rv, pl, hz⟩ := I1.list hq
    refine wpAny_pyIter_list pl.isList ⟨s1.heap.objs.size, [s1.heap.objs.size], _, _, H1, rfl, I1.kept (t' := s1.toks) fun b o e => Heap.get?_push_of_some _ e, turn_list a _, ⟨_, Heap.get?_push_size _ rfl, rfl, rfl⟩, fun b hb => ?_, q⟩
    have e : b = s1.heap.objs.size := by simpa using hb
    subst e
    exact I1.fpOk (Nat.le_refl _) (I1.hok.fresh (Nat.le_refl _))
  · subst ex
    cases r1
    obtain ⟨its, rv, pl, hz⟩ := I1.tuple hq
    refine wpAny_pyIter_tuple (show s1.heap.IsTuple a its.toArray from pl) ⟨s1.heap.objs.size, [s1.heap.objs.size], _, _, H1, rfl, I1.kept (t' := s1.toks) fun b o e => Heap.get?_push_of_some _ e, turn_tuple a _, ⟨_, Heap.get?_push_size _ rfl, rfl, rfl⟩, fun b hb => ?_, q⟩
    have e : b = s1.heap.objs.size := by simpa using hb
    subst e
    exact I1.fpOk (Nat.le_refl _) (I1.hok.fresh (Nat.le_refl _))
  · subst ex
    obtain ⟨t, rfl⟩ := r1
    cases ha : z.cps.all (· < 128)
    · exact wpAny_pyIter_wide ha (pi_one (tk := s1.toks) I1 _ (turn_str _ z t "str_iterator" (.inr rfl)) ⟨_, Heap.get?_push_size _ rfl, rfl, rfl⟩ q)
    · exact wpAny_pyIter_ascii ha (pi_one (tk := s1.toks) I1 _ (turn_str _ z t "str_ascii_iterator" (.inl rfl)) ⟨_, Heap.get?_push_size _ rfl, rfl, rfl⟩ q)
end
def wSq (we : DTE) : DTI := fun ρ κ P => we ρ κ fun r κ1 => Opt (val κ1 r.st) fun x => match x with
  | .list xs => P xs (fun κ' => val κ' r.st = some (.list xs)) κ1
  | .tuple xs => P xs (fun κ' => val κ' r.st = some (.tuple xs)) κ1
  | .str z => P (z.cps.toList.map fun c => .str ⟨#[c]⟩) (fun _ => True) κ1
  | _ => False
section
variable {K : PySem.W.Frag} {G H G' H' : Hp} {As As' : List Addr} {κ : Kap} {v : V} {r : R}
theorem walk_list {a : Addr} {xs : List PyData} (i0 : It K G As (.ref a) r) : WalkOk K G As (Itl K a) xs fun κ' => val κ' r = some (.list xs) := by
  intro G' H' As' κ' e p c h
  obtain ⟨b, vs, ev, h1, h2⟩ := (i0.mono e p).vw c h
  cases ev
  refine ⟨fun i hi => ?_, ⟨vs, sql_of h1, by rw [h2.len]; exact Nat.le_refl _⟩, fun i v H'' x y hx => ?_⟩
  · obtain ⟨v, e1, _⟩ := h2.get (List.getElem?_eq_getElem hi)
    exact ⟨vs, v, sql_of h1, e1⟩
  · obtain ⟨rfl, y⟩ := y
    obtain ⟨d, e1, e2⟩ := h2.getV (y vs (sql_of h1))
    rw [e1] at hx
    cases hx
    exact ⟨G', Step.refl, c, e2⟩
theorem walk_tuple {a : Addr} {xs : List PyData} (i0 : It K G As (.ref a) r) : WalkOk K G As (Itt K a) xs fun κ' => val κ' r = some (.tuple xs) := by
  intro G' H' As' κ' e p c h
  obtain ⟨b, vs, ev, h1, h2⟩ := (i0.mono e p).vw c h |>.tup c.ext
  cases ev
  refine ⟨fun i hi => ?_, ⟨vs, h1, by rw [h2.len]; exact Nat.le_refl _⟩, fun i v H'' x y hx => ?_⟩
  · obtain ⟨v, e1, _⟩ := h2.get (List.getElem?_eq_getElem hi)
    exact ⟨vs, v, h1, e1⟩
  · obtain ⟨rfl, y⟩ := y
    obtain ⟨d, e1, e2⟩ := h2.getV (y vs h1)
    rw [e1] at hx
    cases hx
    exact ⟨G', Step.refl, c, e2⟩
theorem walk_str {z : Str} : WalkOk K G As (Its z) (z.cps.toList.map fun c => .str ⟨#[c]⟩) fun _ => True := by
  intro G' H' As' κ' e p c _
  refine ⟨fun i hi => by simpa [Its] using hi, by simp [Its], fun i v H'' x y hx => ?_⟩
  obtain ⟨rfl, c0, e1, rfl⟩ := y
  rw [List.getElem?_map, Array.getElem?_toList, e1] at hx
  cases hx
  exact ⟨G', Step.refl, c, .str _⟩
theorem walk_range {lo : Int} {n : Nat} : WalkOk K G As (Itr lo n) ((List.range n).map fun (i : Nat) => .int (lo + (i : Int))) fun _ => True := by
  intro G' H' As' κ' e p c _
  refine ⟨fun i hi => by simpa [Itr] using hi, by simp [Itr], fun i v H'' x y hx => ?_⟩
  obtain ⟨rfl, rfl⟩ := y
  rw [List.getElem?_map] at hx
  cases q : (List.range n)[i]? with
  | none => rw [q] at hx; cases hx
  | some j =>
    rw [q] at hx
    have : j = i := by
      obtain ⟨h1, h2⟩ := List.getElem?_eq_some_iff.mp q
      rw [List.getElem_range] at h2
      exact h2.symm
    subst this
    cases hx
    exact ⟨G', Step.refl, c, .int _⟩
theorem walk_rev {a : Addr} {xs : List PyData} (i0 : It K G As (.ref a) r) : WalkOk K G As (Itv K a xs.length) xs.reverse fun κ' => val κ' r = some (.list xs) := by
  intro G' H' As' κ' e p c h
  obtain ⟨b, vs, ev, h1, h2⟩ := (i0.mono e p).vw c h
  cases ev
  have hl := h2.len
  refine ⟨fun i hi => ?_, ?_, fun i v H'' x y hx => ?_⟩
  · rw [List.length_reverse] at hi
    have : xs.length - 1 - i < vs.length := by omega
    exact ⟨hi, vs, vs[xs.length - 1 - i], sql_of h1, List.getElem?_eq_getElem this⟩
  · show xs.length ≤ xs.reverse.length
    rw [List.length_reverse]; exact Nat.le_refl _
  · obtain ⟨rfl, y⟩ := y
    have hi : i < xs.length := by
      have := (List.getElem?_eq_some_iff.mp hx).1
      rwa [List.length_reverse] at this
    obtain ⟨d, e1, e2⟩ := h2.getV (y vs (sql_of h1))
    rw [List.getElem?_reverse hi, e1] at hx
    cases hx
    exact ⟨G', Step.refl, c, e2⟩
def zipD : List PyData → List PyData → List PyData
  | x :: xs, y :: ys => .tuple [x, y] :: zipD xs ys
  | _, _ => []
theorem zipD_get : ∀ {xs ys : List PyData} {i : Nat} {d : PyData}, (zipD xs ys)[i]? = some d → ∃ x y, xs[i]? = some x ∧ ys[i]? = some y ∧ d = .tuple [x, y]
  | [], _, _, _, h => by simp [zipD] at h
  | _ :: _, [], _, _, h => by simp [zipD] at h
  | x :: xs, y :: ys, 0, d, h => by
    simp [zipD] at h
    exact ⟨x, y, rfl, rfl, h.symm⟩
  | x :: xs, y :: ys, i + 1, d, h => by
    obtain ⟨a, b, h1, h2, h3⟩ := zipD_get (xs := xs) (ys := ys) (i := i) (by simpa [zipD] using h)
    exact ⟨a, b, by simpa using h1, by simpa using h2, h3⟩
theorem zipD_len : ∀ (xs ys : List PyData), (zipD xs ys).length = min xs.length ys.length
  | [], _ => by simp [zipD]
  | _ :: _, [] => by simp [zipD]
  | x :: xs, y :: ys => by
    show (zipD xs ys).length + 1 = min (xs.length + 1) (ys.length + 1)
    rw [zipD_len xs ys]; omega
/-- a new pair that a walk hands over -/
theorem pair_new {T : Addr} {u w : V} {x y : PyData} {H' : Hp} (c : Cells K G H As κ) (hT : H T = none) (hu : Rp K G u x) (hw : Rp K G w y) : ∃ G'', Step G H As G'' (upd H T (.tup [u, w])) As ∧ Cells K G'' (upd H T (.tup [u, w])) As κ ∧ Rp K G'' (.ref T) (.tuple [x, y]) := by
  have eG : Ex G (upd G T (.tup [u, w])) := Ex.new (c.ext.free hT)
  exact ⟨upd G T (.tup [u, w]), Step.laid c.ext hT, c.laid hT, .tup (sqt_of upd_same) (.cons (Rp.mono eG _ _ hu) (.cons (Rp.mono eG _ _ hw) .nil))⟩
theorem walk_zipL {r2 : R} {a b : Addr} {xs ys : List PyData} (i1 : It K G As (.ref a) r) (i2 : It K G As (.ref b) r2) : WalkOk K G As (Itz K a b) (zipD xs ys) fun κ' => val κ' r = some (.list xs) ∧ val κ' r2 = some (.list ys) := by
  intro G' H' As' κ' e p c ⟨h, h'⟩
  obtain ⟨_, vs, ev, h1, h2⟩ := (i1.mono e p).vw c h
  cases ev
  obtain ⟨_, ws, ev, h3, h4⟩ := (i2.mono e p).vw c h'
  cases ev
  have l1 := h2.len
  have l2 := h4.len
  refine ⟨fun i hi => ?_, ⟨vs, ws, sql_of h1, sql_of h3, ?_⟩, fun i v H'' x y hx => ?_⟩
  · rw [zipD_len] at hi
    have q1 : i < vs.length := by omega
    have q2 : i < ws.length := by omega
    exact ⟨vs, ws, _, _, sql_of h1, sql_of h3, List.getElem?_eq_getElem q1, List.getElem?_eq_getElem q2⟩
  · rw [zipD_len]; omega
  · obtain ⟨T, u, w, rfl, hT, rfl, f1, f2⟩ := y
    obtain ⟨d1, e1, r1⟩ := h2.getV (f1 vs (sql_of h1))
    obtain ⟨d2, e2, r2⟩ := h4.getV (f2 ws (sql_of h3))
    obtain ⟨x1, x2, g1, g2, rfl⟩ := zipD_get hx
    rw [e1] at g1; cases g1
    rw [e2] at g2; cases g2
    exact pair_new (H' := H') c hT r1 r2
theorem walk_zipT {r2 : R} {a b : Addr} {xs ys : List PyData} (i1 : It K G As (.ref a) r) (i2 : It K G As (.ref b) r2) : WalkOk K G As (RZ.ItzT K a b) (zipD xs ys) fun κ' => val κ' r = some (.tuple xs) ∧ val κ' r2 = some (.tuple ys) := by
  intro G' H' As' κ' e p c ⟨h, h'⟩
  obtain ⟨_, vs, ev, h1, h2⟩ := (i1.mono e p).vw c h |>.tup c.ext
  cases ev
  obtain ⟨_, ws, ev, h3, h4⟩ := (i2.mono e p).vw c h' |>.tup c.ext
  cases ev
  have l1 := h2.len
  have l2 := h4.len
  refine ⟨fun i hi => ?_, ⟨vs, ws, h1, h3, ?_⟩, fun i v H'' x y hx => ?_⟩
  · rw [zipD_len] at hi
    have q1 : i < vs.length := by omega
    have q2 : i < ws.length := by omega
    exact ⟨vs, ws, _, _, h1, h3, List.getElem?_eq_getElem q1, List.getElem?_eq_getElem q2⟩
  · rw [zipD_len]; omega
  · obtain ⟨T, u, w, rfl, hT, rfl, f1, f2⟩ := y
    obtain ⟨d1, e1, r1⟩ := h2.getV (f1 vs h1)
    obtain ⟨d2, e2, r2⟩ := h4.getV (f2 ws h3)
    obtain ⟨x1, x2, g1, g2, rfl⟩ := zipD_get hx
    rw [e1] at g1; cases g1
    rw [e2] at g2; cases g2
    exact pair_new (H' := H') c hT r1 r2
def enumD : Nat → List PyData → List PyData
  | _, [] => []
  | i, x :: xs => .tuple [.int i, x] :: enumD (i + 1) xs
theorem enumD_get : ∀ {xs : List PyData} {k i : Nat} {d : PyData}, (enumD k xs)[i]? = some d → ∃ x, xs[i]? = some x ∧ d = .tuple [.int ((k + i : Nat) : Int), x]
  | [], _, _, _, h => by simp [enumD] at h
  | x :: xs, k, 0, d, h => by
    simp [enumD] at h
    exact ⟨x, rfl, h.symm⟩
  | x :: xs, k, i + 1, d, h => by
    obtain ⟨a, h1, h2⟩ := enumD_get (xs := xs) (k := k + 1) (i := i) (by simpa [enumD] using h)
    refine ⟨a, by simpa using h1, ?_⟩
    rw [h2, show k + 1 + i = k + (i + 1) by omega]
theorem enumD_len : ∀ (k : Nat) (xs : List PyData), (enumD k xs).length = xs.length
  | _, [] => rfl
  | k, _ :: xs => congrArg (· + 1) (enumD_len (k + 1) xs)
theorem walk_enum {a : Addr} {xs : List PyData} (i1 : It K G As (.ref a) r) : WalkOk K G As (Ite K a) (enumD 0 xs) fun κ' => val κ' r = some (.list xs) := by
  intro G' H' As' κ' e p c h
  obtain ⟨_, vs, ev, h1, h2⟩ := (i1.mono e p).vw c h
  cases ev
  have l1 := h2.len
  refine ⟨fun i hi => ?_, ⟨vs, sql_of h1, by rw [enumD_len]; omega⟩, fun i v H'' x y hx => ?_⟩
  · rw [enumD_len] at hi
    have q1 : i < vs.length := by omega
    exact ⟨vs, _, sql_of h1, List.getElem?_eq_getElem q1⟩
  · obtain ⟨T, u, rfl, hT, rfl, f1⟩ := y
    obtain ⟨d1, e1, r1⟩ := h2.getV (f1 vs (sql_of h1))
    obtain ⟨x1, g1, rfl⟩ := enumD_get hx
    rw [e1] at g1; cases g1
    rw [Nat.zero_add]
    exact pair_new (H' := H') c hT (.int _) r1
end
section
variable {X : Cx} {tg l : Expr} {we : DTE} {pos p : Pos}
theorem di_seq (he : DE X l we) : DI X tg l (wSq we) := by
  obtain ⟨t, pt, he⟩ := he
  refine ⟨_, pi_seq pt, fun G H As σ ρ κ P R c p w k => ?_⟩
  refine he G H As σ ρ κ _ _ c p w fun v r G1 H1 As1 κ1 s1 c1 p1 i1 w1 => ?_
  obtain ⟨G1', s1', c1', p1', i1', _⟩ := settle s1 c1 p1 i1
  obtain ⟨x, ex, w2⟩ := w1.ex
  cases x with
  | list xs =>
    obtain ⟨a, vs, rfl, h1, h2⟩ := i1'.vw c1' ex
    exact .inl ⟨a, vs, rfl, sql_of h1, k _ xs _ G1' H1 As1 κ1 s1' c1' p1' (walk_list i1') ex w2⟩
  | tuple xs =>
    obtain ⟨a, vs, rfl, h1, h2⟩ := i1'.vw c1' ex |>.tup c1'.ext
    exact .inr (.inl ⟨a, vs, rfl, h1, k _ xs _ G1' H1 As1 κ1 s1' c1' p1' (walk_tuple i1') ex w2⟩)
  | str z =>
    have h := i1'.vw c1' ex
    cases h
    exact .inr (.inr ⟨z, rfl, k _ _ _ G1' H1 As1 κ1 s1' c1' p1' walk_str trivial w2⟩)
  | none => exact w2.elim
  | bool _ => exact w2.elim
  | int _ => exact w2.elim
  | dict _ => exact w2.elim
def wRng1 (wa : DTA) : DTI := fun ρ κ P => wa ρ κ fun rs κ1 => match rs with
  | [.d (.int n)] => -(2 ^ 62) ≤ n ∧ n < 2 ^ 62 ∧ P ((List.range n.toNat).map fun (i : Nat) => .int (0 + (i : Int))) (fun _ => True) κ1
  | _ => False
def wRng2 (wa : DTA) : DTI := fun ρ κ P => wa ρ κ fun rs κ1 => match rs with
  | [.d (.int m), .d (.int n)] => (-(2 ^ 62) ≤ m ∧ m < 2 ^ 62 ∧ -(2 ^ 62) ≤ n ∧ n < 2 ^ 62) ∧ P ((List.range (n - m).toNat).map fun (i : Nat) => .int (m + (i : Int))) (fun _ => True) κ1
  | _ => False
def wRev (wa : DTA) : DTI := fun ρ κ P => wa ρ κ fun rs κ1 => match rs with
  | [r] => Opt (val κ1 r) fun x => match x with
    | .list xs => P xs.reverse (fun κ' => val κ' r = some (.list xs)) κ1
    | _ => False
  | _ => False
def wEnum (wa : DTA) : DTI := fun ρ κ P => wa ρ κ fun rs κ1 => match rs with
  | [r] => Opt (val κ1 r) fun x => match x with
    | .list xs => P (enumD 0 xs) (fun κ' => val κ' r = some (.list xs)) κ1
    | .tuple xs => P (enumD 0 xs) (fun κ' => val κ' r = some (.tuple xs)) κ1
    | _ => False
  | _ => False
def wZip (wa : DTA) : DTI := fun ρ κ P => wa ρ κ fun rs κ1 => match rs with
  | [r, q] => Opt (val κ1 r) fun x => Opt (val κ1 q) fun y => match x, y with
    | .list xs, .list ys => P (zipD xs ys) (fun κ' => val κ' r = some (.list xs) ∧ val κ' q = some (.list ys)) κ1
    | .tuple xs, .tuple ys => P (zipD xs ys) (fun κ' => val κ' r = some (.tuple xs) ∧ val κ' q = some (.tuple ys)) κ1
    | _, _ => False
  | _ => False
variable {wr : DTA} {a b : Expr}
theorem di_range1 (hm : X.mg "range" = none) (ha : DA X [a] wr) (hg : Gl X "range" := by rfl) (hs : starEach [a] X.env = [(false, eval a X.env)] := by rfl) : DI X tg (.Call (.Name "range" p) [a] [] pos) (wRng1 wr) := by
  obtain ⟨t, pt, ha⟩ := ha
  refine ⟨_, pi_range1 hg hm pt hs, fun G H As σ ρ κ P R c p w k => ?_⟩
  refine ha G H As σ ρ κ _ _ c p w fun vs rs G1 H1 As1 κ1 s1 c1 p1 i1 l1 w1 => ?_
  split at w1
  · rename_i n
    obtain ⟨h1, h2, w1⟩ := w1
    match vs, i1 with
    | [_], .cons z .nil =>
      have z : Rp X.K G1 _ (.int n) := z
      cases z
      exact ⟨n, rfl, h1, h2, k _ _ _ G1 H1 As1 κ1 s1 c1 p1 walk_range trivial w1⟩
  · exact w1.elim
theorem di_range2 (hm : X.mg "range" = none) (ha : DA X [a, b] wr) (hg : Gl X "range" := by rfl) (hs : starEach [a, b] X.env = [(false, eval a X.env), (false, eval b X.env)] := by rfl) (hs2 : starEach [b] X.env = [(false, eval b X.env)] := by rfl) : DI X tg (.Call (.Name "range" p) [a, b] [] pos) (wRng2 wr) := by
  obtain ⟨t, pt, ha⟩ := ha
  refine ⟨_, pi_range2 hg hm pt hs hs2, fun G H As σ ρ κ P R c p w k => ?_⟩
  refine ha G H As σ ρ κ _ _ c p w fun vs rs G1 H1 As1 κ1 s1 c1 p1 i1 l1 w1 => ?_
  split at w1
  · rename_i m n
    obtain ⟨h1, w1⟩ := w1
    match vs, i1 with
    | [_, _], .cons z (.cons y .nil) =>
      have z : Rp X.K G1 _ (.int m) := z
      have y : Rp X.K G1 _ (.int n) := y
      cases z
      cases y
      exact ⟨m, n, rfl, h1, k _ _ _ G1 H1 As1 κ1 s1 c1 p1 walk_range trivial w1⟩
  · exact w1.elim
theorem di_rev (hm : X.mg "reversed" = none) (ha : DA X [a] wr) (hg : Gl X "reversed" := by rfl) (hs : starEach [a] X.env = [(false, eval a X.env)] := by rfl) : DI X tg (.Call (.Name "reversed" p) [a] [] pos) (wRev wr) := by
  obtain ⟨t, pt, ha⟩ := ha
  refine ⟨_, pi_reversed hg hm pt hs, fun G H As σ ρ κ P R c p w k => ?_⟩
  refine ha G H As σ ρ κ _ _ c p w fun vs rs G1 H1 As1 κ1 s1 c1 p1 i1 l1 w1 => ?_
  split at w1
  · rename_i r
    obtain ⟨x, ex, w2⟩ := w1.ex
    match vs, i1 with
    | [_], .cons z .nil =>
      cases x with
      | list xs =>
        obtain ⟨a, ws, rfl, h1, h2⟩ := z.vw c1 ex
        refine ⟨a, ws, rfl, sql_of h1, ?_⟩
        rw [h2.len]
        exact k _ _ _ G1 H1 As1 κ1 s1 c1 p1 (walk_rev z) ex w2
      | _ => exact w2.elim
  · exact w1.elim
theorem di_zip {elts : List Expr} {kk : Nat} {tpos : Pos} (hm : X.mg "zip" = none) (ha : DA X [a, b] wr) (hg : Gl X "zip" := by rfl) (hs : starEach [a, b] X.env = (false, eval a X.env) :: starEach [b] X.env := by rfl) (hpl : (backTo pos (starEach [b] X.env)).any (·.1) = false := by rfl) :
    DI X (.Tuple elts kk tpos) (.Call (.Name "zip" p) [a, b] [] pos) (wZip wr) := by
  obtain ⟨t, pt, ha⟩ := ha
  refine ⟨_, RZ.pi_zipA hg hm pt hs hpl, fun G H As σ ρ κ P R c p w k => ?_⟩
  refine ha G H As σ ρ κ _ _ c p w fun vs rs G1 H1 As1 κ1 s1 c1 p1 i1 l1 w1 => ?_
  split at w1
  · rename_i r q
    obtain ⟨x, ex, w2⟩ := w1.ex
    obtain ⟨y, ey, w2⟩ := w2.ex
    match vs, i1 with
    | [_, _], .cons z1 (.cons z2 .nil) =>
      split at w2
      · obtain ⟨a, ws, rfl, h1, h2⟩ := z1.vw c1 ex
        obtain ⟨b, us, rfl, h3, h4⟩ := z2.vw c1 ey
        exact ⟨a, b, ws, us, rfl, .inl ⟨sql_of h1, sql_of h3, k _ _ _ G1 H1 As1 κ1 s1 c1 p1 (walk_zipL z1 z2) ⟨ex, ey⟩ w2⟩⟩
      · obtain ⟨a, ws, rfl, h1, h2⟩ := z1.vw c1 ex |>.tup c1.ext
        obtain ⟨b, us, rfl, h3, h4⟩ := z2.vw c1 ey |>.tup c1.ext
        exact ⟨a, b, ws, us, rfl, .inr ⟨h1, h3, k _ _ _ G1 H1 As1 κ1 s1 c1 p1 (walk_zipT z1 z2) ⟨ex, ey⟩ w2⟩⟩
      · exact w2.elim
  · exact w1.elim
end

/-! ### for -/
def forL (ok : Kap → Prop) (g : DTG) (b : DTS) (E : DEnds) : List PyData → Rho → Kap → Prop
  | [], ρ, κ => E.nx ρ κ
  | x :: xs, ρ, κ => g (.d x) ρ κ fun ρ1 κ1 => b { nx := fun ρ2 κ2 => ok κ2 ∧ forL ok g b E xs ρ2 κ2, rt := E.rt, bk := E.nx, ct := fun ρ2 κ2 => ok κ2 ∧ forL ok g b E xs ρ2 κ2 } ρ1 κ1
def wFor (wi : DTI) (g : DTG) (b : DTS) : DTS := fun E ρ κ => wi ρ κ fun xs ok κ1 => forL ok g b E xs ρ κ1
def whileN (t : DTT) (b : DTS) (E : DEnds) : Nat → Rho → Kap → Prop
  | 0, _, _ => False
  | n + 1, ρ, κ => t ρ κ fun z κ1 => if z = true then b { nx := whileN t b E n, rt := E.rt, bk := E.nx, ct := whileN t b E n } ρ κ1 else E.nx ρ κ1
def wWhile (t : DTT) (b : DTS) : DTS := fun E ρ κ => ∃ n, whileN t b E n ρ κ
section
variable {X : Cx} {tg it c : Expr} {body : List Stmt} {wi : DTI} {g : DTG} {b : DTS} {js : List Nat} {pos : Pos} {wt : DTT}
theorem ds_for (hp : PassesOwn (model X.prog X.w) X.A X.env X.xe) (hc : X.calm = true) (hi : DI X tg it wi) (hg : DG X tg js g) (hb : DSs X body b) (hs : ∀ x, foldedSetIterable it X.env x = pure x := by intro _; rfl) : DS X (.For tg it body [] pos) (wFor wi g b) := by
  obtain ⟨ti, pi, hi⟩ := hi
  obtain ⟨tg', pg, hg⟩ := hg
  obtain ⟨tb, pb, hb⟩ := hb
  refine ⟨_, ps_for hp hc pi pg pb hs, fun G H As σ ρ κ E D cc p w r => ?_⟩
  refine hi G H As σ ρ κ _ _ cc p w fun J xs ok G1 H1 As1 κ1 s1 c1 p1 wk o1 w1 => ?_
  refine ⟨fun i m σ' H' => i + m = xs.length ∧ ∃ G' As' ρ' κ', Step G1 H1 As1 G' H' As' ∧ Cells X.K G' H' As' κ' ∧ Places X.K G' As' σ' ρ' ∧ ok κ' ∧ forL ok g b E (xs.drop i) ρ' κ',
    ⟨xs.length, by omega, G1, As1, ρ, κ1, Step.refl, c1, p1, o1, w1⟩, fun i m σ' H' hW => ?_⟩
  obtain ⟨em, G', As', ρ', κ', s', c', p', o', f⟩ := hW
  obtain ⟨wgo, wst, wyl⟩ := wk G' H' As' κ' s'.ex s'.pre c' o'
  cases m with
  | zero =>
    have ei : i = xs.length := by omega
    subst ei
    rw [List.drop_length] at f
    exact .inl ⟨wst, r.nx _ _ G' H' As' κ' (s1.trans s') c' p' f⟩
  | succ m =>
    have hi' : i < xs.length := by omega
    rw [List.drop_eq_getElem_cons hi'] at f
    refine .inr ⟨wgo i hi', fun σ2 H2 => ∃ G2 As2 ρ2 κ2, Step G1 H1 As1 G2 H2 As2 ∧ Cells X.K G2 H2 As2 κ2 ∧ Places X.K G2 As2 σ2 ρ2 ∧ ok κ2 ∧ forL ok g b E (xs.drop (i + 1)) ρ2 κ2,
      fun σ2 H2 ⟨G2, As2, ρ2, κ2, q⟩ => ⟨m, by omega, by omega, G2, As2, ρ2, κ2, q⟩, fun v H2 hy => ?_⟩
    obtain ⟨G2, s2, c2, r2⟩ := wyl i v H2 _ hy (List.getElem?_eq_getElem hi')
    refine hg G2 H2 As' σ' ρ' κ' v (.d xs[i]) _ _ c2 (p'.step s2) r2 f fun σ3 ρ3 G3 H3 As3 κ3 _ s3 c3 p3 w3 => ?_
    have st : Step G1 H1 As1 G3 H3 As3 := (s'.trans s2).trans s3
    refine hb G3 H3 As3 σ3 ρ3 κ3 _ _ c3 p3 w3 ⟨fun a b' c d e f' x y z q => ⟨c, e, b', f', st.trans x, y, z, q.1, q.2⟩, fun a b' c d e f' x y z q => r.nx a b' c d e f' ((s1.trans st).trans x) y z q, fun a b' c d e f' x y z q => ⟨c, e, b', f', st.trans x, y, z, q.1, q.2⟩, fun a b' c d e f' x y z q => r.rt a b' c d e f' ((s1.trans st).trans x) y (z.back (s1.trans st)) q⟩
theorem ds_while (hp : PassesOwn (model X.prog X.w) X.A X.env X.xe) (ht : DT X c wt) (hb : DSs X body b) : DS X (.While c body [] pos) (wWhile wt b) := by
  obtain ⟨tt, pt, ht⟩ := ht
  obtain ⟨tb, pb, hb⟩ := hb
  refine ⟨_, ps_while hp pt pb, fun G H As σ ρ κ E D cc p w r => ?_⟩
  obtain ⟨n, w⟩ := w
  refine ⟨fun m σ' H' => ∃ G' As' ρ' κ', Step G H As G' H' As' ∧ Cells X.K G' H' As' κ' ∧ Places X.K G' As' σ' ρ' ∧ whileN wt b E m ρ' κ', ⟨n, G, As, ρ, κ, Step.refl, cc, p, w⟩, fun m σ' H' hW => ?_⟩
  obtain ⟨G', As', ρ', κ', s', c', p', f⟩ := hW
  cases m with
  | zero => exact f.elim
  | succ m =>
    refine ht G' H' As' σ' ρ' κ' _ _ c' p' f fun z G1 H1 As1 κ1 s1 c1 p1 w1 => ?_
    cases z with
    | false =>
      rw [if_neg (by decide)] at w1 ⊢
      exact r.nx _ _ G1 H1 As1 κ1 (s'.trans s1) c1 p1 w1
    | true =>
      rw [if_pos rfl] at w1 ⊢
      have st : Step G H As G1 H1 As1 := s'.trans s1
      refine ⟨fun σ2 H2 => ∃ G2 As2 ρ2 κ2, Step G H As G2 H2 As2 ∧ Cells X.K G2 H2 As2 κ2 ∧ Places X.K G2 As2 σ2 ρ2 ∧ whileN wt b E m ρ2 κ2, fun σ2 H2 q => ⟨m, Nat.lt_succ_self m, q⟩, ?_⟩
      exact hb G1 H1 As1 σ' ρ' κ1 _ _ c1 p1 w1 ⟨fun a b' c d e f' x y z q => ⟨c, e, b', f', st.trans x, y, z, q⟩, fun a b' c d e f' x y z q => r.nx a b' c d e f' (st.trans x) y z q, fun a b' c d e f' x y z q => ⟨c, e, b', f', st.trans x, y, z, q⟩, fun a b' c d e f' x y z q => r.rt a b' c d e f' (st.trans x) y (z.back st) q⟩
end

/-! ### comprehensions -/
def wipeR (ρ : Rho) : List Nat → Rho
  | [] => ρ
  | v :: vs => (wipeR ρ vs).set v none
theorem wipeR_some {ρ : Rho} {i : Nat} {x : R} : ∀ {vs : List Nat}, (wipeR ρ vs)[i]? = some (some x) → ρ[i]? = some (some x) ∧ i ∉ vs
  | [], h => ⟨h, by simp⟩
  | v :: vs, h => by
    unfold wipeR at h
    by_cases hi : v = i
    · subst hi
      by_cases hv : v < (wipeR ρ vs).length
      · rw [List.getElem?_set_self hv] at h; cases h
      · rw [List.getElem?_eq_none (by rw [List.length_set]; omega)] at h; cases h
    · rw [List.getElem?_set_ne hi] at h
      obtain ⟨h1, h2⟩ := wipeR_some h
      exact ⟨h1, by simp only [List.mem_cons, not_or]; exact ⟨fun e => hi e.symm, h2⟩⟩
theorem wipeR_len (ρ : Rho) : ∀ vs : List Nat, (wipeR ρ vs).length = ρ.length
  | [] => rfl
  | v :: vs => by unfold wipeR; rw [List.length_set, wipeR_len ρ vs]
theorem Places.wipe {K : PySem.W.Frag} {G : Hp} {As : List Addr} {σ : L2.St} {ρ : Rho} (p : Places K G As σ ρ) (vs : List Nat) : Places K G As (wipe σ vs) (wipeR ρ vs) :=
  ⟨by rw [wipe_length, wipeR_len]; exact p.len, fun i r h => by
    obtain ⟨h1, h2⟩ := wipeR_some h
    obtain ⟨v, e, q⟩ := p.ok i r h1
    exact ⟨v, by rw [wipe_out h2]; exact e, q⟩⟩
def lcL (ok : Kap → Prop) (g : DTG) (t : DTT) (e : DTE) (ρw : Rho) (P : R → Kap → Prop) : List PyData → List PyData → Kap → Prop
  | [], acc, κ => P (.f acc) κ
  | x :: xs, acc, κ => g (.d x) ρw κ fun ρ1 κ1 => t ρ1 κ1 fun b κ2 => if b = true then e ρ1 κ2 fun r κ3 => Opt (dat κ3 r.st) fun q => acc.length < sizeLine ∧ ok q.2 ∧ lcL ok g t e ρw P xs (acc ++ [q.1]) q.2 else ok κ2 ∧ lcL ok g t e ρw P xs acc κ2
def wLc (wi : DTI) (g : DTG) (t : DTT) (e : DTE) (vs : List Nat) : DTE := fun ρ κ P => wi ρ κ fun xs ok κ1 => lcL ok g t e (wipeR ρ vs) P xs [] κ1
def wYes : DTT := fun _ κ P => P true κ
def DTs (X : Cx) (ifs : List Expr) (w : DTT) : Prop := ∃ t, PTs X ifs t ∧ ∀ (G H : Hp) (As : List Addr) (σ : L2.St) (ρ : Rho) (κ : Kap) (P : Bool → Kap → Prop) (Q : Bool → Hp → Prop), Cells X.K G H As κ → Places X.K G As σ ρ → w ρ κ P →
  (∀ b G' H' As' κ', Step G H As G' H' As' → Cells X.K G' H' As' κ' → Places X.K G' As' σ ρ → P b κ' → Q b H') → t σ H Q
section
variable {X : Cx}
theorem dts_nil : DTs X [] wYes := ⟨_, pts_nil, fun G H As σ ρ κ P Q c p w k => k true G H As κ Step.refl c p w⟩
theorem dts_one {c : Expr} {wt : DTT} (h : DT X c wt) : DTs X [c] wt := by
  obtain ⟨t, pt, h⟩ := h
  exact ⟨_, pts_one pt, h⟩
/-- where a block's parts are read: its context, whatever it is -/
structure BI where
  s : Shared
  H : Hp
  C : Addr
  cl : List (Str × Addr)
  fp : List Addr
abbrev BI.cx (i : BI) (X : Cx) (scope : Scope) : Cx := X.blk i.s i.H scope (compEnvC scope i.cl i.C X.env) i.fp
/-- one reading for all contexts -/
theorem uni_G {scope : Scope} {tg : Expr} {js : List Nat} {w : DTG} (h : ∀ i : BI, DG (i.cx X scope) tg js w) : ∃ g, (∀ i : BI, PG (i.cx X scope) tg g) ∧ ∀ (G H : Hp) (As : List Addr) (σ : L2.St) (ρ : Rho) (κ : Kap) (v : V) (r : R) (P : Rho → Kap → Prop) (Q : L2.St → Hp → Prop), Cells X.K G H As κ → Places X.K G As σ ρ → It X.K G As v r → w r ρ κ P →
    (∀ σ' ρ' G' H' As' κ', Wr js σ σ' → Step G H As G' H' As' → Cells X.K G' H' As' κ' → Places X.K G' As' σ' ρ' → P ρ' κ' → Q σ' H') → g v σ H Q := by
  obtain ⟨f, hf⟩ := Classical.skolem.mp h
  exact ⟨fun v σ H Q => ∀ i, f i v σ H Q, fun i => ⟨fun pins s σ H v u Q I r q => (hf i).1.run pins s σ H v u Q I r (q i)⟩, fun G H As σ ρ κ v r P Q c p i0 w k i => (hf i).2 G H As σ ρ κ v r P Q c p i0 w k⟩
theorem uni_T {scope : Scope} {ifs : List Expr} {w : DTT} (h : ∀ i : BI, DTs (i.cx X scope) ifs w) : ∃ t, (∀ i : BI, PTs (i.cx X scope) ifs t) ∧ ∀ (G H : Hp) (As : List Addr) (σ : L2.St) (ρ : Rho) (κ : Kap) (P : Bool → Kap → Prop) (Q : Bool → Hp → Prop), Cells X.K G H As κ → Places X.K G As σ ρ → w ρ κ P →
    (∀ b G' H' As' κ', Step G H As G' H' As' → Cells X.K G' H' As' κ' → Places X.K G' As' σ ρ → P b κ' → Q b H') → t σ H Q := by
  obtain ⟨f, hf⟩ := Classical.skolem.mp h
  exact ⟨fun σ H Q => ∀ i, f i σ H Q, fun i => ⟨fun pins s σ H Q I q => (hf i).1.run pins s σ H Q I (q i)⟩, fun G H As σ ρ κ P Q c p w k i => (hf i).2 G H As σ ρ κ P Q c p w k⟩
theorem uni_E {scope : Scope} {e : Expr} {w : DTE} (h : ∀ i : BI, DE (i.cx X scope) e w) : ∃ t, (∀ i : BI, PE (i.cx X scope) e t) ∧ ∀ (G H : Hp) (As : List Addr) (σ : L2.St) (ρ : Rho) (κ : Kap) (P : R → Kap → Prop) (Q : VK), Cells X.K G H As κ → Places X.K G As σ ρ → w ρ κ P →
    (∀ v r G' H' As' κ', Step G H As G' H' As' → Cells X.K G' H' As' κ' → Places X.K G' As' σ ρ → Rv X.K H G' H' As' v r → P r κ' → Q v H') → t σ H Q := by
  obtain ⟨f, hf⟩ := Classical.skolem.mp h
  exact ⟨fun σ H Q => ∀ i, f i σ H Q, fun i => ⟨fun pins s σ H Q I q => (hf i).1.run pins s σ H Q I (q i)⟩, fun G H As σ ρ κ P Q c p w k i => (hf i).2 G H As σ ρ κ P Q c p w k⟩
variable {elt tg iter : Expr} {ifs : List Expr} {scope : Scope} {own : List (Str × Nat)} {pos : Pos} {wi : DTI} {g : DTG} {wt : DTT} {we : DTE} {js : List Nat}
theorem lc_reads {ti : TI} {gg : TG} {tt : TT} {te : TE} {vs : List Nat} (hj : ∀ j, j ∈ js → j ∈ vs)
    (hi : ∀ (G H : Hp) (As : List Addr) (σ : L2.St) (ρ : Rho) (κ : Kap) (P : List PyData → (Kap → Prop) → Kap → Prop) (R : L2.It → Hp → Prop), Cells X.K G H As κ → Places X.K G As σ ρ → wi ρ κ P → (∀ J xs ok G' H' As' κ', Step G H As G' H' As' → Cells X.K G' H' As' κ' → Places X.K G' As' σ ρ → WalkOk X.K G' As' J xs ok → ok κ' → P xs ok κ' → R J H') → ti σ H R)
    (hg : ∀ (G H : Hp) (As : List Addr) (σ : L2.St) (ρ : Rho) (κ : Kap) (v : V) (r : R) (P : Rho → Kap → Prop) (Q : L2.St → Hp → Prop), Cells X.K G H As κ → Places X.K G As σ ρ → It X.K G As v r → g r ρ κ P → (∀ σ' ρ' G' H' As' κ', Wr js σ σ' → Step G H As G' H' As' → Cells X.K G' H' As' κ' → Places X.K G' As' σ' ρ' → P ρ' κ' → Q σ' H') → gg v σ H Q)
    (ht : ∀ (G H : Hp) (As : List Addr) (σ : L2.St) (ρ : Rho) (κ : Kap) (P : Bool → Kap → Prop) (Q : Bool → Hp → Prop), Cells X.K G H As κ → Places X.K G As σ ρ → wt ρ κ P → (∀ b G' H' As' κ', Step G H As G' H' As' → Cells X.K G' H' As' κ' → Places X.K G' As' σ ρ → P b κ' → Q b H') → tt σ H Q)
    (he : ∀ (G H : Hp) (As : List Addr) (σ : L2.St) (ρ : Rho) (κ : Kap) (P : R → Kap → Prop) (Q : VK), Cells X.K G H As κ → Places X.K G As σ ρ → we ρ κ P → (∀ v r G' H' As' κ', Step G H As G' H' As' → Cells X.K G' H' As' κ' → Places X.K G' As' σ ρ → Rv X.K H G' H' As' v r → P r κ' → Q v H') → te σ H Q)
    (G H : Hp) (As : List Addr) (σ : L2.St) (ρ : Rho) (κ : Kap) (P : R → Kap → Prop) (Q : VK) (c : Cells X.K G H As κ) (p : Places X.K G As σ ρ) (w : wLc wi g wt we vs ρ κ P)
    (k : ∀ v r G' H' As' κ', Step G H As G' H' As' → Cells X.K G' H' As' κ' → Places X.K G' As' σ ρ → Rv X.K H G' H' As' v r → P r κ' → Q v H') : tLc ti gg tt te vs σ H Q := by
  refine hi G H As σ ρ κ _ _ c p w fun J xs ok G1 H1 As1 κ1 s1 c1 p1 wk o1 w1 => fun D hD => ?_
  have gD1 : G1 D = none := c1.ext.free hD
  have nD1 : D ∉ As1 := c1.notin hD
  -- the list that is made stands at D, is known to nobody, and only the turns change it
  let W : Nat → Hp → Prop := fun i H' => ∃ G' As' κ' acc vs', Step G1 H1 As1 G' H' As' ∧ Cells X.K G' H' As' κ' ∧ G' D = none ∧ D ∉ As' ∧ H' D = some (.lst vs') ∧ RpA X.K G' vs' acc ∧ ok κ' ∧ lcL ok g wt we (wipeR ρ vs) P (xs.drop i) acc κ'
  -- a step keeps the list at D as it is
  have keep : ∀ {Ga Ha Asa Gb Hb Asb} {vs' : List V}, Step Ga Ha Asa Gb Hb Asb → Ga D = none → D ∉ Asa → Ha D = some (.lst vs') → Gb D = none ∧ D ∉ Asb ∧ Hb D = some (.lst vs') := fun s g0 n0 h0 => by
    refine ⟨?_, fun hm => ?_, s.fr D _ n0 h0⟩
    · rcases s.gn D g0 with z | z | z
      · exact z
      · rw [h0] at z; cases z
      · exact absurd z n0
    · rcases s.new D hm with z | z
      · exact n0 z
      · rw [h0] at z; cases z
  -- a turn's end: the item goes onto the list
  have grow : ∀ {G' H' As' κ' acc vs' v y i}, Step G1 H1 As1 G' H' As' → Cells X.K G' H' As' κ' → G' D = none → D ∉ As' → H' D = some (.lst vs') → RpA X.K G' vs' acc → Rp X.K G' v y → ok κ' → lcL ok g wt we (wipeR ρ vs) P (xs.drop i) (acc ++ [y]) κ' → W i (upd H' D (.lst (vs' ++ [v]))) := fun {G' H' As' κ' acc vs' v y i} s c g0 n0 h0 rp rv o f => by
    refine ⟨G', As', κ', acc ++ [y], vs' ++ [v], ⟨s.ex, s.pre, s.new, fun b u hb e => ?_, fun b e => ?_, s.gn⟩, ⟨c.ext.mut g0, c.len, c.nd, fun a ha => ?_, fun j x a e1 e2 => ?_⟩, g0, n0, upd_same, rp.app (.cons rv .nil), o, f⟩
    · by_cases q : b = D
      · subst q; rw [hD] at e; cases e
      · rw [upd_ne q]; exact s.fr b u hb e
    · by_cases q : b = D
      · subst q; rw [upd_same] at e; cases e
      · rw [upd_ne q] at e; exact s.dom b e
    · by_cases q : a = D
      · subst q; exact ⟨_, upd_same⟩
      · rw [upd_ne q]; exact c.al a ha
    · have z := c.ok j x a e1 e2
      cases x with
      | l ds =>
        obtain ⟨z1, ws, z2, z3⟩ := z
        have ne : a ≠ D := fun q => n0 (by rw [← q]; exact List.mem_of_getElem? e2)
        exact ⟨z1, ws, by rw [upd_ne ne]; exact z2, z3⟩
      | m ds =>
        obtain ⟨z1, ws, z2, z3⟩ := z
        have ne : a ≠ D := fun q => n0 (by rw [← q]; exact List.mem_of_getElem? e2)
        exact ⟨z1, ws, by rw [upd_ne ne]; exact z2, z3⟩
      | z x => exact z
      | k es => exact z
      | x u =>
        obtain ⟨z1, z2⟩ := z
        have ne : a ≠ D := fun q => n0 (by rw [← q]; exact List.mem_of_getElem? e2)
        exact ⟨z1, by rw [upd_ne ne]; exact z2⟩
  refine ⟨fun i m H' => i + m = xs.length ∧ W i H', ⟨xs.length, by omega, G1, As1, κ1, [], [], Step.fresh hD, c1.fresh hD, gD1, nD1, upd_same, .nil, o1, w1⟩, fun i m H' hW => ?_⟩
  obtain ⟨em, G', As', κ', acc, vs', s', c', g', n', h', rp, o', f⟩ := hW
  obtain ⟨wgo, wst, wyl⟩ := wk G' H' As' κ' s'.ex s'.pre c' o'
  cases m with
  | zero =>
    have ei : i = xs.length := by omega
    subst ei
    rw [List.drop_length] at f
    have st := s1.trans s'
    exact .inl ⟨wst, k _ (.f acc) G' H' As' κ' st c' (p.step st) ⟨D, vs', rfl, s1.dom D hD, g', n', h', rp⟩ f⟩
  | succ m =>
    have hi' : i < xs.length := by omega
    rw [List.drop_eq_getElem_cons hi'] at f
    refine .inr ⟨wgo i hi', W (i + 1), fun H2 q => ⟨m, by omega, by omega, q⟩, fun v H2 hy => ?_⟩
    obtain ⟨G2, s2, c2, r2⟩ := wyl i v H2 _ hy (List.getElem?_eq_getElem hi')
    obtain ⟨g2, n2, h2⟩ := keep s2 g' n' h'
    refine hg G2 H2 As' (wipe σ vs) (wipeR ρ vs) κ' v (.d xs[i]) _ _ c2 ((p.step ((s1.trans s').trans s2)).wipe vs) r2 f fun σ3 ρ3 G3 H3 As3 κ3 a3 s3 c3 p3 w3 => ⟨?_, ?_⟩
    · have hw : wipe (wipe σ vs) vs = wipe σ vs := by
        refine List.ext_getElem? fun j => ?_
        by_cases hj : j ∈ vs
        · rw [wipe_in hj, wipe_in hj, wipe_length]
        · rw [wipe_out hj]
      rw [← hw]
      have q := a3.wipe hj
      rw [q]
    · obtain ⟨g3, n3, h3⟩ := keep s3 g2 n2 h2
      refine ht G3 H3 As3 σ3 ρ3 κ3 _ _ c3 p3 w3 fun z G4 H4 As4 κ4 s4 c4 p4 w4 => ?_
      obtain ⟨g4, n4, h4⟩ := keep s4 g3 n3 h3
      have st4 : Step G1 H1 As1 G4 H4 As4 := ((s'.trans s2).trans s3).trans s4
      cases z with
      | false =>
        rw [if_neg (by decide)] at w4 ⊢
        exact ⟨G4, As4, κ4, acc, vs', st4, c4, g4, n4, h4, RpA.mono (((s2.trans s3).trans s4)).ex _ _ rp, w4.1, w4.2⟩
      | true =>
        rw [if_pos rfl] at w4 ⊢
        refine he G4 H4 As4 σ3 ρ3 κ4 _ _ c4 p4 w4 fun v5 r5 G5 H5 As5 κ5 s5 c5 p5 i5 w5 => ?_
        obtain ⟨G5', s5', c5', p5', i5', _⟩ := settle s5 c5 p5 i5
        obtain ⟨⟨y, κ6⟩, e6, hl, ho, w6⟩ := w5.ex
        obtain ⟨G6, s6, c6, r6⟩ := dat_ok c5' i5' e6
        have st6 := s5'.trans s6
        obtain ⟨g6, n6, h6⟩ := keep st6 g4 n4 h4
        have rp6 := RpA.mono ((((s2.trans s3).trans s4)).trans st6).ex _ _ rp
        refine ⟨vs', h6, by rw [rp6.len]; exact hl, ?_⟩
        exact grow (st4.trans st6) c6 g6 n6 h6 rp6 r6 ho w6
theorem de_lc (hc : X.calm = true) (hN : X.N.Nodup) (hi : DI X tg iter wi) (ok : BlkOk X.N X.env.scope scope own) (hg : ∀ i : BI, DG (i.cx X scope) tg js g) (ht : ∀ i : BI, DTs (i.cx X scope) ifs wt) (he : ∀ i : BI, DE (i.cx X scope) elt we)
    (hj : ∀ j, j ∈ js → j ∈ own.map (·.2) := by decide) (hs : ∀ x, foldedSetIterable iter X.env x = pure x := by intro _; rfl) : DE X (.ListComp elt [⟨tg, iter, ifs, 0⟩] scope pos) (wLc wi g wt we (own.map (·.2))) := by
  obtain ⟨ti, pi, hi⟩ := hi
  obtain ⟨gg, pg, hg⟩ := uni_G hg
  obtain ⟨tt, pt, ht⟩ := uni_T ht
  obtain ⟨te, pe, he⟩ := uni_E he
  exact ⟨_, pe_lc hc hN pi ok (fun s H C cl fp => pg ⟨s, H, C, cl, fp⟩) (fun s H C cl fp => pt ⟨s, H, C, cl, fp⟩) (fun s H C cl fp => pe ⟨s, H, C, cl, fp⟩) hs, lc_reads hj hi hg ht he⟩
/-- name = [..] -/
theorem ds_setLc (m : Bool) (i : Nat) {y : Str} {py spos : Pos} (hc : X.calm = true) (hN : X.N.Nodup) (hsw : swapsWith (.ListComp elt [⟨tg, iter, ifs, 0⟩] scope pos) (some (.Name y py)) spos.line X.env = pure true) (hi : DI X tg iter wi) (ok : BlkOk X.N X.env.scope scope own) (hg : ∀ i : BI, DG (i.cx X scope) tg js g) (ht : ∀ i : BI, DTs (i.cx X scope) ifs wt) (he : ∀ i : BI, DE (i.cx X scope) elt we)
    (hy : X.N[i]? = some y := by rfl) (hyl : X.env.scope.names.lookup y = some .local := by rfl) (hj : ∀ j, j ∈ js → j ∈ own.map (·.2) := by decide) (hs : ∀ x, foldedSetIterable iter X.env x = pure x := by intro _; rfl) :
    DS X (.Assign [.Name y py] (.ListComp elt [⟨tg, iter, ifs, 0⟩] scope pos) spos) (wSet m i (wLc wi g wt we (own.map (·.2)))) := by
  obtain ⟨ti, pi, hi⟩ := hi
  obtain ⟨gg, pg, hg⟩ := uni_G hg
  obtain ⟨tt, pt, ht⟩ := uni_T ht
  obtain ⟨te, pe, he⟩ := uni_E he
  refine ⟨_, ps_setLc hc hN hy hyl hsw pi ok (fun s H C cl fp => pg ⟨s, H, C, cl, fp⟩) (fun s H C cl fp => pt ⟨s, H, C, cl, fp⟩) (fun s H C cl fp => pe ⟨s, H, C, cl, fp⟩) hs, fun G H As σ ρ κ E D c p w r => ?_⟩
  refine lc_reads hj hi hg ht he G H As σ ρ κ _ _ c p w fun v q G1 H1 As1 κ1 s1 c1 p1 i1 w1 => ?_
  obtain ⟨G1', As1', s1', c1', i1', e1, e2⟩ := sto_ok m s1 c1 i1
  exact r.nx _ _ G1' H1 As1' _ s1' c1' ((p1.mono e1 e2).put i i1') w1
end

/-! ### lists changed in place -/
def wAppend (wo wa : DTE) : DTE := fun ρ κ P => wo ρ κ fun ro κ1 => (match ro with
  | .c k => (∃ zs, κ1[k]? = some (.l zs)) ∧ wa ρ κ1 fun r κ2 => Opt (dat κ2 r.st) fun q => match q.2[k]? with
    | some (.l xs) => xs.length < sizeLine ∧ P (.d .none) (q.2.set k (.l (xs ++ [q.1])))
    | _ => False
  | _ => False)
/-- o[i] = v -/
def wSub (wo wi : DTE) : DTG := fun r ρ κ P => Opt (dat κ r) fun q => wo ρ q.2 fun ro κ1 => match ro with
  | .c k => wi ρ κ1 fun ri κ2 => match ri, κ2[k]? with
    | .d (.int i), some (.l xs) => Opt (ixN xs.length i) fun j => P ρ (κ2.set k (.l (xs.set j q.1)))
    | _, _ => False
  | _ => False
section
variable {X : Cx} {o a i : Expr} {wo wa wi : DTE} {apos cpos pos : Pos}
theorem de_append (ho : DE X o wo) (ha : DE X a wa) (hbase : attributeBase o "append" X.env (eval o X.env) = eval o X.env := by rfl)
    (hfew : ((backTo cpos (starEach [a] X.env)).all (fun x => !x.1) && (backToKw cpos (keywordEach [] X.env)).all (fun x => x.1.isSome) && decide (([a] : List Expr).length + ([] : List Keyword).length + (if ([] : List Keyword).isEmpty then 0 else 1) < 30)) = true := by rfl)
    (hline : (apos.endLine == cpos.line) = true := by rfl) (hs : starEach [a] X.env = (false, eval a X.env) :: starEach [] X.env := by rfl) (hplain : (backTo cpos (starEach [] X.env)).any (·.1) = false := by rfl) :
    DE X (.Call (.Attribute o "append" apos) [a] [] cpos) (wAppend wo wa) := by
  obtain ⟨to, po, ho⟩ := ho
  obtain ⟨ta, pa, ha⟩ := ha
  refine ⟨_, pe_bm PySem.F.plainAttrs_list PySem.F.slot_list_append PySem.F.type_list_append mt_append po (pa_cons pa pa_nil hs) hbase hfew hline hs hplain, fun G H As σ ρ κ P Q c p w k => ?_⟩
  refine ho G H As σ ρ κ _ _ c p w fun v1 r1 G1 H1 As1 κ1 s1 c1 p1 i1 w1 => ?_
  cases r1 with
  | c kk =>
    obtain ⟨l, hl, rfl⟩ := i1
    obtain ⟨⟨zs, ez⟩, w1⟩ := w1
    obtain ⟨_, zv, z2, _⟩ := c1.ok kk _ l ez hl
    refine ⟨.inl ⟨rfl, zv, sql_of z2⟩, ?_⟩
    refine ha G1 H1 As1 σ ρ κ1 _ _ c1 p1 w1 fun v2 r2 G2 H2 As2 κ2 s2 c2 p2 i2 w2 => ?_
    obtain ⟨G2', s2', c2', p2', i2', _⟩ := settle s2 c2 p2 i2
    obtain ⟨⟨x, κ3⟩, e3, w3⟩ := w2.ex
    obtain ⟨G3, s3, c3, r3⟩ := dat_ok c2' i2' e3
    have st := s2'.trans s3
    obtain ⟨bs, eb⟩ := st.pre
    have hl3 : As2[kk]? = some l := by rw [eb, List.getElem?_append_left (List.getElem?_eq_some_iff.mp hl).1]; exact hl
    simp only at w3
    cases q : κ3[kk]? with
    | none => rw [q] at w3; exact w3.elim
    | some cc =>
      rw [q] at w3
      cases cc with
      | z y => exact w3.elim
      | m y => exact w3.elim
      | k y => exact w3.elim
      | x y => exact w3.elim
      | l xs =>
        obtain ⟨w4, w5⟩ := w3
        obtain ⟨g0, vs, hq, rp⟩ := c3.ok kk _ l q hl3
        refine ⟨l, vs, v2, rfl, rfl, hq, by rw [rp.len]; exact w4, ?_⟩
        have sw : Step G3 H2 As2 G3 (upd H2 l (.lst (vs ++ [v2]))) As2 := Step.write (List.mem_of_getElem? hl3) hq
        have sa := (s1.trans st).trans sw
        exact k .non (.d .none) G3 _ As2 _ sa (c3.write q hl3 (rp.app (.cons r3 .nil))) (p.step sa) .non w5
  | _ => exact w1.elim
theorem dg_sub (ho : DE X o wo) (hi : DE X i wi) (hx : ∀ v, assign (.Subscript o i pos) X.env v = (do
      let ov ← holding [v] (eval o X.env)
      let iv ← holding [v, ov] (eval i X.env)
      standAt pos
      holding [v, ov, iv] (setItem ov iv v)
      release [v, ov, iv] []) := by intro _; rfl) : DG X (.Subscript o i pos) [] (wSub wo wi) := by
  obtain ⟨to, po, ho⟩ := ho
  obtain ⟨ti, pi, hi⟩ := hi
  refine ⟨_, pg_sub po pi set_list hx, fun G H As σ ρ κ v r P Q c p i0 w k => ?_⟩
  obtain ⟨⟨x, κ0⟩, e0, w⟩ := w.ex
  obtain ⟨G0, s0, c0, r0⟩ := dat_ok c i0 e0
  refine ho G0 H As σ ρ κ0 _ _ c0 (p.step s0) w fun v1 r1 G1 H1 As1 κ1 s1 c1 p1 i1 w1 => ?_
  cases r1 with
  | c kk =>
    obtain ⟨l, hl, rfl⟩ := i1
    refine hi G1 H1 As1 σ ρ κ1 _ _ c1 p1 w1 fun v2 r2 G2 H2 As2 κ2 s2 c2 p2 i2 w2 => ?_
    split at w2
    · rename_i o1 o2 ii xs hk
      obtain ⟨j, ej, w3⟩ := w2.ex
      have i2 : Rp X.K G2 v2 (.int ii) := i2
      cases i2
      obtain ⟨bs, eb⟩ := s2.pre
      have hl2 : As2[kk]? = some l := by rw [eb, List.getElem?_append_left (List.getElem?_eq_some_iff.mp hl).1]; exact hl
      obtain ⟨g0, vs, hq, rp⟩ := c2.ok kk _ l hk hl2
      refine ⟨l, vs, ii, j, rfl, rfl, hq, by rw [rp.len]; exact ej, ?_⟩
      have sw : Step G2 H2 As2 G2 (upd H2 l (.lst (vs.set j v))) As2 := Step.write (List.mem_of_getElem? hl2) hq
      have sa := ((s0.trans s1).trans s2).trans sw
      exact k σ ρ G2 _ As2 _ Wr.refl sa (c2.write hk hl2 (rp.set (Rp.mono (s1.trans s2).ex _ _ r0) j)) (p.step sa) w3
    · exact w2.elim
  | _ => exact w1.elim
end

/-! ### a def's body -/
def outR (κ : Kap) (n : Nat) : R → Option R
  | .c k => if k < n then some (.c k) else match κ[k]? with
    | some (.l xs) => some (.f xs)
    | some (.z x) => some (.d x)
    | some (.m _) => none
    | some (.k es) => some (.h es)
    | some (.x _) => none
    | none => none
  | .b _ => none
  | r => some r
/-- a def's end: what its cell holds then, what it hands back -/
def endL (κ : Kap) (r : R) (Pd : R → List PyData → Prop) : Prop := match (κ[(0 : Nat)]? : Option Cell) with
  | some (.l bs) => Opt (outR κ 1 r) fun r' => Pd r' bs
  | _ => False
theorem endL_ex {κ : Kap} {r : R} {Pd : R → List PyData → Prop} (h : endL κ r Pd) : ∃ bs r', κ[(0 : Nat)]? = some (.l bs) ∧ outR κ 1 r = some r' ∧ Pd r' bs := by
  unfold endL at h
  split at h
  · rename_i bs e
    obtain ⟨r', e', q⟩ := h.ex
    exact ⟨bs, r', e, e', q⟩
  · exact h.elim
section
variable {P : Program} {w : World} {K : PySem.W.Frag} {mg : Str → Option Value} {base : Heap} {x qual : Str} {st : Stmt} {f : Addr} {fd : FuncData} {N ps : List Str} {k : Nat}
theorem out_rv {K : PySem.W.Frag} {G0 H0 G H : Hp} {As0 As : List Addr} {κ : Kap} {v : V} {r r' : R} {n : Nat} (hn : As0.length = n) (s : Step G0 H0 As0 G H As) (c : Cells K G H As κ) (h : Rv K H0 G H As v r) (e : outR κ n r = some r') : Rv K H0 G H As0 v r' := by
  obtain ⟨bs, eb⟩ := s.pre
  cases r with
  | d x => cases e; exact h
  | s ns => cases e; exact h
  | h ns => cases e; exact h
  | o u => cases e; exact h
  | b ks => cases e
  | f xs =>
    cases e
    obtain ⟨p, vs, ev, h0, g0, nin, q⟩ := h
    exact ⟨p, vs, ev, h0, g0, fun z => nin (by rw [eb]; exact List.mem_append_left _ z), q⟩
  | c j =>
    obtain ⟨a, ha, rfl⟩ := h
    unfold outR at e
    simp only at e
    split at e
    · rename_i hj
      cases e
      refine ⟨a, ?_, rfl⟩
      rw [eb, List.getElem?_append_left (by omega)] at ha
      exact ha
    · rename_i hj
      have hna : a ∉ As0 := fun hm => by
        have nd := c.nd
        rw [eb] at nd ha
        obtain ⟨i, hi, ei⟩ := List.getElem_of_mem hm
        have h1 : (As0 ++ bs)[i]? = some a := by rw [List.getElem?_append_left hi, List.getElem?_eq_getElem hi, ei]
        obtain ⟨l1, q1⟩ := List.getElem?_eq_some_iff.mp h1
        obtain ⟨l2, q2⟩ := List.getElem?_eq_some_iff.mp ha
        have := (List.getElem_inj nd).mp (q1.trans q2.symm)
        omega
      split at e
      · rename_i xs hk
        cases e
        obtain ⟨g0, vs, hq, rp⟩ := c.ok j _ a hk ha
        refine ⟨a, vs, rfl, ?_, g0, hna, hq, rp⟩
        rcases s.new a (List.mem_of_getElem? ha) with z | z
        · exact absurd z hna
        · exact z
      · rename_i x hk
        cases e
        exact c.ok j _ a hk ha
      · cases e
      · rename_i es hk
        cases e
        exact c.ok j _ a hk ha
      · cases e
      · cases e
theorem Step.short {G0 H0 G H : Hp} {As0 As : List Addr} (s : Step G0 H0 As0 G H As) : Step G0 H0 As0 G H As0 :=
  ⟨s.ex, ⟨[], by simp⟩, fun _ h => .inl h, s.fr, s.dom, s.gn⟩
/-- the slots at the entry -/
theorem places_start {K : PySem.W.Frag} {G : Hp} {As : List Addr} {vs : List V} {rs : List R} (h : Paired (It K G As) vs rs) (m : Nat) : Places K G As (vs.map some ++ List.replicate m none) (rs.map some ++ List.replicate m none) := by
  have hl := Paired.length h
  refine ⟨by rw [List.length_append, List.length_append, List.length_map, List.length_map, List.length_replicate, List.length_replicate, hl], fun i r e => ?_⟩
  by_cases hi : i < rs.length
  · rw [List.getElem?_append_left (by rw [List.length_map]; exact hi), List.getElem?_map, List.getElem?_eq_getElem hi] at e
    cases e
    have get : ∀ {vs : List V} {rs : List R} {i : Nat} (hi : i < rs.length), Paired (It K G As) vs rs → ∃ v, vs[i]? = some v ∧ It K G As v rs[i] := fun {vs} => by
      induction vs with
      | nil => intro rs i hi h; cases h; exact absurd hi (by simp)
      | cons v vs ih =>
        intro rs i hi h
        cases h with
        | cons r t =>
          cases i with
          | zero => exact ⟨v, rfl, r⟩
          | succ i => exact ih (i := i) (by simpa using hi) t
    obtain ⟨v, e1, e2⟩ := get hi h
    refine ⟨v, ?_, e2⟩
    rw [List.getElem?_append_left (by rw [List.length_map, hl]; exact hi), List.getElem?_map, e1]
    rfl
  · rw [List.getElem?_append_right (by rw [List.length_map]; omega), List.getElem?_replicate] at e
    split at e <;> cases e
theorem dfn {Φ : List R → (R → Prop) → Prop} (F : Fun K x qual st f fd) (S : FnScope N ps (defScope st))
    (hb : ∀ (cdv : Value) (A : Around) (outer : List Env) (s : Shared) (H : Hp) (E : XK), RoomG k (A.deeper (envOfC qual (defScope st) s.heap.objs.size f cdv)) →
      ∃ wd, DSs (cxOf CX0 P w K mg base N qual (defScope st) f cdv A outer s H E).nox (defBody st) wd ∧ ∀ rs Pd, Φ rs Pd → rs.length = ps.length → wd { nx := fun _ _ => Pd (.d .none), rt := fun r κ => Opt (outR κ 0 r) Pd } (rs.map some ++ List.replicate (N.length - ps.length) none) []) :
    FnG P w K mg base CX0 (k + 1) f fd ps (spD K ps.length Φ) := by
  refine Fun.okG F S (fun vs H Q E h => h.1) (fun cdv A outer s H vs Q E hr h => ?_)
  obtain ⟨hl, G, rs, Pd, ext, i0, hΦ, kk⟩ := h
  obtain ⟨wd, ⟨t, pt, ht⟩, hw⟩ := hb cdv A outer s H E hr
  have hl2 : rs.length = ps.length := (Paired.length i0).symm.trans hl
  refine ⟨t, pt, ?_⟩
  have c0 : Cells K G H [] [] := ⟨ext, rfl, by simp, fun a h => (List.not_mem_nil h).elim, fun j c a h => by simp at h⟩
  have p0 := places_start i0 (N.length - ps.length)
  unfold L2.start
  rw [hl]
  refine ht G H [] _ _ [] _ _ c0 p0 (hw rs Pd hΦ hl2) ⟨fun σ' ρ' G' H' As' κ' s' c' _ q => ?_, fun _ _ _ _ _ _ _ _ _ q => q.elim, fun _ _ _ _ _ _ _ _ _ q => q.elim, fun v r G' H' As' κ' s' c' rv q => ?_⟩
  · exact kk .non (.d .none) G' H' q c'.ext s'.short .non
  · obtain ⟨r', e, q⟩ := q.ex
    exact kk v r' G' H' q c'.ext s'.short (out_rv rfl s' c' rv e)
theorem dfnL {Φ : List PyData → List R → (R → List PyData → Prop) → Prop} {n : Nat} (F : Fun K x qual st f fd) (S : FnScope N ps (defScope st)) (hn : ps.length = n + 1)
    (hb : ∀ (cdv : Value) (A : Around) (outer : List Env) (s : Shared) (H : Hp) (E : XK), RoomG k (A.deeper (envOfC qual (defScope st) s.heap.objs.size f cdv)) →
      ∃ wd, DSs (cxOf CX0 P w K mg base N qual (defScope st) f cdv A outer s H E).nox (defBody st) wd ∧ ∀ bs rs Pd, Φ bs rs Pd → rs.length = n → wd { nx := fun _ κ => endL κ (.d .none) Pd, rt := fun r κ => endL κ r Pd } (some (.c 0) :: (rs.map some ++ List.replicate (N.length - ps.length) none)) [.l bs]) :
    FnG P w K mg base CX0 (k + 1) f fd ps (spL K ps.length Φ) := by
  refine Fun.okG F S (fun vs H Q E h => h.1) (fun cdv A outer s H vs Q E hr h => ?_)
  obtain ⟨hl, G, a, ws, bs, rs, Pd, rfl, c0, i0, hΦ, kk⟩ := h
  obtain ⟨wd, ⟨t, pt, ht⟩, hw⟩ := hb cdv A outer s H E hr
  have hl2 : rs.length = n := by
    have e1 := Paired.length i0
    rw [List.length_cons] at hl
    omega
  refine ⟨t, pt, ?_⟩
  have i1 : Paired (It K G [a]) (V.ref a :: ws) (R.c 0 :: rs) := .cons ⟨a, rfl, rfl⟩ (Paired.mapP i0 fun _ _ z => z.mono (Ex.refl G) ⟨[a], rfl⟩)
  have p0 := places_start i1 (N.length - ps.length)
  have one : ∀ {G' H' As' κ' bs'}, Step G H [a] G' H' As' → Cells K G' H' As' κ' → κ'[0]? = some (.l bs') → Cells K G' H' [a] [.l bs'] := fun s' c' e => by
    obtain ⟨zs, ez⟩ := s'.pre
    exact c'.one e (by rw [ez]; rfl)
  unfold L2.start
  rw [hl]
  refine ht G H [a] _ _ [.l bs] _ _ c0 p0 (hw bs rs Pd hΦ hl2) ⟨fun σ' ρ' G' H' As' κ' s' c' _ q => ?_, fun _ _ _ _ _ _ _ _ _ q => q.elim, fun _ _ _ _ _ _ _ _ _ q => q.elim, fun v r G' H' As' κ' s' c' rv q => ?_⟩
  · obtain ⟨bs', r', e, e', q⟩ := endL_ex q
    cases e'
    exact kk .non (.d .none) bs' G' H' q (one s' c' e) s'.short .non
  · obtain ⟨bs', r', e0, e, q⟩ := endL_ex q
    exact kk v r' bs' G' H' q (one s' c' e0) s'.short (out_rv rfl s' c' rv e)
end
end DL
/-! DLe: operators, comparisons, subscripts, slices, built-ins, over plain data. -/
namespace DL
open PySem PySem.Spec PyProof.Rows L2

section
variable {K : PySem.W.Frag} {G H : Hp} {v : V}
theorem vw_int {i : Int} (h : Vw K G H v (.int i)) : v = .int i := by
  have h : Rp K G v (.int i) := h
  cases h; rfl
theorem vw_str {z : Str} (h : Vw K G H v (.str z)) : v = .str z := by
  have h : Rp K G v (.str z) := h
  cases h; rfl
theorem vw_bool {b : Bool} (h : Vw K G H v (.bool b)) : v = .bl b := by
  have h : Rp K G v (.bool b) := h
  cases h; rfl
theorem vw_none (h : Vw K G H v .none) : v = .non := by
  have h : Rp K G v .none := h
  cases h; rfl
end

/-! ### operators -/
def addD : PyData → PyData → Option Out
  | .int i, .int j => some (.v (.int (i + j)))
  | .str x, .str y => if x.length + y.length ≤ sizeLine then some (.v (.str (x ++ y))) else none
  | .list xs, .list ys => if xs.length + ys.length ≤ sizeLine then some (.n (xs ++ ys)) else none
  | .tuple xs, .tuple ys => if xs.length + ys.length ≤ sizeLine then some (.t (xs ++ ys)) else none
  | _, _ => none
def rAddD (K : PySem.W.Frag) : R2 := fun x y H Q => (∃ i j, x = .int i ∧ y = .int j ∧ Q (.int (i + j)) H) ∨ (∃ i j, x = .str i ∧ y = .str j ∧ i.length + j.length ≤ sizeLine ∧ Q (.str (i ++ j)) H) ∨ rCat x y H Q ∨ rCatA K x y H Q
theorem op_addD {X : Cx} : OpR X (binaryOp .Add) (rAddD X.K) := by
  intro pins s σ H x y v u Q I rx ry h
  rcases h with h | h | h | h
  · exact op_add pins s σ H x y v u Q I rx ry h
  · exact op_add_str pins s σ H x y v u Q I rx ry h
  · exact op_cat pins s σ H x y v u Q I rx ry h
  · exact op_catA pins s σ H x y v u Q I rx ry h
theorem add_ok {K : PySem.W.Frag} : OpD K (rAddD K) addD := by
  intro G H v u x y o Q ext hx hy e k
  unfold addD at e
  split at e
  · cases e
    rw [vw_int hx, vw_int hy]
    exact .inl ⟨_, _, rfl, rfl, k _ (.int _)⟩
  · split at e
    · cases e
      rw [vw_str hx, vw_str hy]
      exact .inr (.inl ⟨_, _, rfl, rfl, by assumption, k _ (.str _)⟩)
    · cases e
  · split at e
    · cases e
      obtain ⟨a, vs, rfl, h1, h2⟩ := hx
      obtain ⟨b, ws, rfl, h3, h4⟩ := hy
      exact .inr (.inr (.inl ⟨a, b, vs, ws, rfl, rfl, h1, h3, by rw [h2.len, h4.len]; assumption, fun p hp => k p _ hp (h2.app h4)⟩))
    · cases e
  · split at e
    · cases e
      have hx' := hx
      have hy' := hy
      obtain ⟨a, vs, rfl, h1, h2⟩ := hx.tup ext
      obtain ⟨b, ws, rfl, h3, h4⟩ := hy.tup ext
      refine .inr (.inr (.inr ⟨a, b, vs, ws, rfl, rfl, h1, h3, by rw [h2.len, h4.len]; assumption, fun z => ?_, fun _ z => ?_, fun _ _ p hp => k.1 p _ hp (h2.app h4)⟩))
      · subst z
        cases h2
        exact k.2 _ hy'
      · subst z
        cases h4
        rw [List.append_nil] at k
        exact k.2 _ hx'
    · cases e
  · cases e

def intD (f : Int → Int → Option PyData) : PyData → PyData → Option Out
  | .int i, .int j => (f i j).map .v
  | _, _ => none
theorem int_ok {K : PySem.W.Frag} {r : R2} {f : Int → Int → Option PyData} (h : ∀ (i j : Int) (z : PyData) (H : Hp) (Q : VK), f i j = some z → (∀ w, (∀ G, Rp K G w z) → Q w H) → r (.int i) (.int j) H Q) : OpD K r (intD f) := by
  intro G H v u x y o Q ext hx hy e k
  unfold intD at e
  split at e
  · rename_i i j
    cases q : f i j with
    | none => rw [q] at e; cases e
    | some z =>
      rw [q] at e
      cases e
      rw [vw_int hx, vw_int hy]
      exact h i j z H Q q fun w hw => k w (hw G)
  · cases e
def subD := intD fun i j => some (.int (i - j))
theorem sub_ok {K : PySem.W.Frag} : OpD K (rI0 fun i j => .int (i - j)) subD := int_ok fun i j z H Q e k => by
  cases e; exact ⟨i, j, rfl, rfl, k _ fun _ => .int _⟩
open Classical in
noncomputable def modD := intD fun i j => if 0 < j then some (.int (i % j)) else none
theorem mod_ok {K : PySem.W.Frag} : OpD K (rI (fun _ j => 0 < j) fun i j => .int (i % j)) modD := int_ok fun i j z H Q e k => by
  split at e
  · cases e; exact ⟨i, j, rfl, rfl, by assumption, k _ fun _ => .int _⟩
  · cases e
open Classical in
noncomputable def fdivD := intD fun i j => if 0 < j ∧ j < 1073741824 then some (.int (i / j)) else none
theorem fdiv_ok {K : PySem.W.Frag} : OpD K (rI CDiv fun i j => .int (i / j)) fdivD := int_ok fun i j z H Q e k => by
  split at e
  · cases e; exact ⟨i, j, rfl, rfl, by assumption, k _ fun _ => .int _⟩
  · cases e
open Classical in
noncomputable def powD := intD fun i j => if 0 ≤ j ∧ j ≤ 1000000 ∧ i.natAbs < 2 ^ 64 then some (.int (i ^ j.toNat)) else none
theorem pow_ok {K : PySem.W.Frag} : OpD K (rI CPow fun i j => .int (i ^ j.toNat)) powD := int_ok fun i j z H Q e k => by
  split at e
  · cases e; exact ⟨i, j, rfl, rfl, by assumption, k _ fun _ => .int _⟩
  · cases e
open Classical in
/-- ints, and a list so many times -/
noncomputable def mulD : PyData → PyData → Option Out
  | .int i, .int j => if CMul i j then some (.v (.int (i * j))) else none
  | .list xs, .int k => @ite _ (-(2 ^ 63) ≤ k ∧ k < 2 ^ 63 ∧ xs.length * k.toNat ≤ sizeLine) (propDecidable _) (some (.n (List.replicate k.toNat xs).flatten)) none
  | _, _ => none
def rMulD : R2 := fun x y H Q => rI CMul (fun i j => .int (i * j)) x y H Q ∨ rRep x y H Q
theorem op_mulD {X : Cx} : OpR X (binaryOp .Mult) rMulD := by
  intro pins s σ H x y v u Q I rx ry h
  rcases h with h | h
  · exact op_mul pins s σ H x y v u Q I rx ry h
  · exact op_rep pins s σ H x y v u Q I rx ry h
theorem RpA.rep {K : PySem.W.Frag} {H : Hp} {vs : List V} {ds : List PyData} (h : RpA K H vs ds) : ∀ n : Nat, RpA K H (List.replicate n vs).flatten (List.replicate n ds).flatten
  | 0 => .nil
  | n + 1 => by
    rw [List.replicate_succ, List.replicate_succ, List.flatten_cons, List.flatten_cons]
    exact h.app (RpA.rep h n)
theorem mul_ok {K : PySem.W.Frag} : OpD K rMulD mulD := by
  intro G H v u x y o Q ext hx hy e k
  unfold mulD at e
  split at e
  · split at e
    · cases e
      rw [vw_int hx, vw_int hy]
      exact .inl ⟨_, _, rfl, rfl, by assumption, k _ (.int _)⟩
    · cases e
  · split at e
    · rename_i hc
      cases e
      obtain ⟨a, vs, rfl, h1, h2⟩ := hx
      rw [vw_int hy]
      refine .inr ⟨a, _, vs, rfl, rfl, h1, hc.1, hc.2.1, by rw [h2.len]; exact hc.2.2, fun p hp => k p _ hp ?_⟩
      exact h2.rep _
    · cases e
  · cases e
def negD : PyData → Option Out
  | .int i => some (.v (.int (-i)))
  | _ => none
theorem neg_ok {K : PySem.W.Frag} : UnD K (rU fun i => .int (-i)) negD := by
  intro G H v x o Q ext hx e k
  unfold negD at e
  split at e
  · cases e
    rw [vw_int hx]
    exact ⟨_, rfl, k _ (.int _)⟩
  · cases e

/-! ### comparisons -/
def eqD (neg : Bool) (x y : PyData) : Option Out := match x, y with
  | .str a, .str b => some (.v (.bool (if neg then !decide (a = b) else decide (a = b))))
  | x, y => if SeqAt.shaped x = true ∧ SeqAt.shaped y = true then some (.v (.bool (if neg then !PyData.eqv x y else PyData.eqv x y))) else none
def rEqS (K : PySem.W.Frag) : R2 := fun x y H Q => rEqD K x y H Q ∨ rEq x y H Q
def rNeS (K : PySem.W.Frag) : R2 := fun x y H Q => rNeD K x y H Q ∨ rNe x y H Q
theorem op_eqS {X : Cx} (hu : X.A.units + 64 < cLine) : OpR X (compareOp .Eq) (rEqS X.K) := fun pins s σ H x y v u Q I rx ry h => h.elim (op_eqD hu pins s σ H x y v u Q I rx ry) (op_eq pins s σ H x y v u Q I rx ry)
theorem op_neS {X : Cx} (hu : X.A.units + 64 < cLine) : OpR X (compareOp .NotEq) (rNeS X.K) := fun pins s σ H x y v u Q I rx ry h => h.elim (op_neD hu pins s σ H x y v u Q I rx ry) (op_ne pins s σ H x y v u Q I rx ry)
theorem eq_ok {K : PySem.W.Frag} : OpD K (rEqS K) (eqD false) := by
  intro G H v u x y o Q ext hx hy e k
  unfold eqD at e
  split at e
  · cases e
    rw [vw_str hx, vw_str hy]
    refine .inr ⟨rfl, ?_⟩
    have := k _ (.bl _)
    simpa using this
  · split at e
    · rename_i hs
      cases e
      exact .inl ⟨_, _, Rp.dp _ _ (hx.rp ext), Rp.dp _ _ (hy.rp ext), hs.1, hs.2, k _ (.bl _)⟩
    · cases e
theorem ne_ok {K : PySem.W.Frag} : OpD K (rNeS K) (eqD true) := by
  intro G H v u x y o Q ext hx hy e k
  unfold eqD at e
  split at e
  · cases e
    rw [vw_str hx, vw_str hy]
    refine .inr ⟨rfl, ?_⟩
    have := k _ (.bl _)
    simpa using this
  · split at e
    · rename_i hs
      cases e
      exact .inl ⟨_, _, Rp.dp _ _ (hx.rp ext), Rp.dp _ _ (hy.rp ext), hs.1, hs.2, k _ (.bl _)⟩
    · cases e
/-- <, <=, >, >= of ints and of texts -/
def ordD (fi : Int → Int → Bool) (fs : List Nat → List Nat → Bool) : PyData → PyData → Option Out
  | .int i, .int j => some (.v (.bool (fi i j)))
  | .str x, .str y => some (.v (.bool (fs x.cps.toList y.cps.toList)))
  | _, _ => none
def rOrdD (fi : Int → Int → Bool) (fs : List Nat → List Nat → Bool) : R2 := fun x y H Q => (∃ i j, x = .int i ∧ y = .int j ∧ Q (.bl (fi i j)) H) ∨ ∃ i j, x = .str i ∧ y = .str j ∧ Q (.bl (fs i.cps.toList j.cps.toList)) H
theorem ord_ok {K : PySem.W.Frag} {fi : Int → Int → Bool} {fs : List Nat → List Nat → Bool} : OpD K (rOrdD fi fs) (ordD fi fs) := by
  intro G H v u x y o Q ext hx hy e k
  unfold ordD at e
  split at e
  · cases e
    rw [vw_int hx, vw_int hy]
    exact .inl ⟨_, _, rfl, rfl, k _ (.bl _)⟩
  · cases e
    rw [vw_str hx, vw_str hy]
    exact .inr ⟨_, _, rfl, rfl, k _ (.bl _)⟩
  · cases e
def ltI (i j : Int) : Bool := decide (i < j)
def leI (i j : Int) : Bool := decide (i ≤ j)
def gtI (i j : Int) : Bool := decide (j < i)
def geI (i j : Int) : Bool := decide (j ≤ i)
def ltS (i j : List Nat) : Bool := decide (i < j)
section
variable {X : Cx}
theorem op_ltD : OpR X (compareOp .Lt) (rOrdD ltI ltS) := by
  intro pins s σ H x y v u Q I rx ry h
  rcases h with h | h
  · exact op_lt pins s σ H x y v u Q I rx ry h
  · exact op_lt_str pins s σ H x y v u Q I rx ry h
theorem op_leD : OpR X (compareOp .LtE) (rOrdD leI fun _ _ => false) ∨ True := .inr trivial
end
/-- <=, >, >= of ints -/
def ciD (f : Int → Int → Bool) := intD fun i j => some (.bool (f i j))
theorem ci_ok {K : PySem.W.Frag} {f : Int → Int → Bool} : OpD K (rI0 fun i j => .bl (f i j)) (ciD f) := int_ok fun i j z H Q e k => by
  cases e; exact ⟨i, j, rfl, rfl, k _ fun _ => .bl _⟩
section
variable {X : Cx}
theorem op_leI : OpR X (compareOp .LtE) (rI0 fun i j => .bl (leI i j)) := op_le
theorem op_gtI : OpR X (compareOp .Gt) (rI0 fun i j => .bl (gtI i j)) := op_gt
theorem op_geI : OpR X (compareOp .GtE) (rI0 fun i j => .bl (geI i j)) := op_ge
end
/-- is None, is not None -/
def isND (neg : Bool) : PyData → PyData → Option Out
  | x, .none => some (.v (.bool (match x with
    | .none => !neg
    | _ => neg)))
  | .bool a, .bool b => some (.v (.bool (if neg then !decide (a = b) else decide (a = b))))
  | _, _ => none
def rIsS (neg : Bool) : R2 := fun x y H Q => (y = .non ∧ Q (.bl (if neg then !decide (x = .non) else decide (x = .non))) H) ∨ ∃ a b, x = .bl a ∧ y = .bl b ∧ Q (.bl (if neg then !decide (a = b) else decide (a = b))) H
theorem isN_ok {K : PySem.W.Frag} {neg : Bool} : OpD K (rIsS neg) (isND neg) := by
  intro G H v u x y o Q ext hx hy e k
  unfold isND at e
  split at e
  · cases e
    refine .inl ⟨vw_none hy, ?_⟩
    have nr : ∀ {a : Addr}, decide (V.ref a = V.non) = false := fun {a} => decide_eq_false fun q => nomatch q
    cases x with
    | none =>
      rw [vw_none hx]
      cases neg
      · exact k _ (.bl _)
      · exact k _ (.bl _)
    | bool b => rw [vw_bool hx]; cases neg <;> exact k _ (.bl _)
    | int i => rw [vw_int hx]; cases neg <;> exact k _ (.bl _)
    | str z => rw [vw_str hx]; cases neg <;> exact k _ (.bl _)
    | list xs =>
      obtain ⟨a, vs, rfl, _⟩ := hx
      rw [nr]
      cases neg <;> exact k _ (.bl _)
    | tuple xs =>
      obtain ⟨a, vs, rfl, _⟩ := hx.tup ext
      rw [nr]
      cases neg <;> exact k _ (.bl _)
    | dict xs =>
      have hx : Rp K G v (.dict xs) := hx
      cases hx
  · cases e
    exact .inr ⟨_, _, vw_bool hx, vw_bool hy, k _ (.bl _)⟩
  · cases e
section
variable {X : Cx}
theorem op_isND : OpR X (compareOp .Is) (rIsS false) := fun pins s σ H x y v u Q I rx ry h => h.elim (op_isN pins s σ H x y v u Q I rx ry) (op_is_bl pins s σ H x y v u Q I rx ry)
theorem op_notND : OpR X (compareOp .IsNot) (rIsS true) := fun pins s σ H x y v u Q I rx ry h => h.elim (op_notN pins s σ H x y v u Q I rx ry) (op_isnot_bl pins s σ H x y v u Q I rx ry)
end
/-- x in a list of data, in a tuple of flat data, in a text -/
def flatD : PyData → Bool
  | .none => true
  | .bool _ => true
  | .int _ => true
  | .str _ => true
  | _ => false
def inD (neg : Bool) : PyData → PyData → Option Out
  | x, .list ys => if SeqAt.shaped x = true ∧ SeqAt.shaped (.list ys) = true then some (.v (.bool (if neg then !ys.any fun z => PyData.eqv z x else ys.any fun z => PyData.eqv z x))) else none
  | x, .tuple ys => if flatD x = true ∧ ys.all flatD = true then some (.v (.bool (if neg then !ys.any fun z => PyData.eqv z x else ys.any fun z => PyData.eqv z x))) else none
  | .str i, .str j => some (.v (.bool (if neg then !(!(Builtin.Str.occurrences j i 0 j.length 1).isEmpty) else !(Builtin.Str.occurrences j i 0 j.length 1).isEmpty)))
  | _, _ => none
def rInA (K : PySem.W.Frag) (neg : Bool) : R2 := fun x y H Q => (∃ d ds, Dp K H x d ∧ Dp K H y (.list ds) ∧ SeqAt.shaped d = true ∧ SeqAt.shaped (.list ds) = true ∧ Q (.bl (if neg then !ds.any fun z => PyData.eqv z d else ds.any fun z => PyData.eqv z d)) H) ∨ rIn K neg x y H Q ∨
  ∃ i j, x = .str i ∧ y = .str j ∧ Q (.bl (if neg then !(!(Builtin.Str.occurrences j i 0 j.length 1).isEmpty) else !(Builtin.Str.occurrences j i 0 j.length 1).isEmpty)) H
section
variable {X : Cx}
theorem op_inA (hu : X.A.units + 65 < cLine) : OpR X (compareOp .In) (rInA X.K false) := by
  intro pins s σ H x y v u Q I rx ry h
  rcases h with h | h | h
  · exact op_inD hu pins s σ H x y v u Q I rx ry h
  · exact op_in_seq pins s σ H x y v u Q I rx ry h
  · exact op_in_str pins s σ H x y v u Q I rx ry h
theorem op_notInA (hu : X.A.units + 65 < cLine) : OpR X (compareOp .NotIn) (rInA X.K true) := by
  intro pins s σ H x y v u Q I rx ry h
  rcases h with h | h | h
  · exact op_notInD hu pins s σ H x y v u Q I rx ry h
  · exact op_notIn_seq pins s σ H x y v u Q I rx ry h
  · exact op_notIn_str pins s σ H x y v u Q I rx ry h
end
theorem flat_V {K : PySem.W.Frag} {G : Hp} {v : V} {x : PyData} (h : Rp K G v x) (f : flatD x = true) : flatV v = true := by
  cases h <;> first | rfl | cases f
theorem flat_eq {K : PySem.W.Frag} {G : Hp} {v u : V} {x y : PyData} (h : Rp K G v x) (f : flatD x = true) (h' : Rp K G u y) (f' : flatD y = true) : eqV v u = PyData.eqv x y := by
  cases h <;> first | (cases f; done) | (cases h' <;> first | (cases f'; done) | (simp [eqV, PyData.eqv]))
theorem flat_any {K : PySem.W.Frag} {G : Hp} {u : V} {y : PyData} (h' : Rp K G u y) (f' : flatD y = true) : ∀ {vs : List V} {ds : List PyData}, RpA K G vs ds → ds.all flatD = true → (vs.all flatV = true ∧ inV u vs = ds.any fun z => PyData.eqv z y)
  | _, _, .nil, _ => ⟨rfl, rfl⟩
  | _, _, .cons r t, f => by
    rw [List.all_cons, Bool.and_eq_true] at f
    obtain ⟨h1, h2⟩ := flat_any h' f' t f.2
    refine ⟨by rw [List.all_cons, flat_V r f.1, h1]; rfl, ?_⟩
    unfold inV at h2 ⊢
    rw [List.any_cons, List.any_cons, flat_eq r f.1 h' f', h2]
theorem in_ok {K : PySem.W.Frag} {neg : Bool} : OpD K (rInA K neg) (inD neg) := by
  intro G H v u x y o Q ext hx hy e k
  unfold inD at e
  split at e
  · split at e
    · rename_i hs
      cases e
      exact .inl ⟨_, _, Rp.dp _ _ (hx.rp ext), Rp.dp _ _ (hy.rp ext), hs.1, hs.2, k _ (.bl _)⟩
    · cases e
  · rename_i ys
    split at e
    · rename_i hs
      cases e
      obtain ⟨a, vs, rfl, h1, h2⟩ := hy.tup ext
      have hx' : Rp K G v x := by
        cases x <;> first | exact hx | exact absurd hs.1 (by simp [flatD])
      obtain ⟨q1, q2⟩ := flat_any hx' hs.1 h2 hs.2
      refine .inr (.inl ⟨a, vs, rfl, .inr h1, flat_V hx' hs.1, q1, ?_⟩)
      rw [q2]
      exact k _ (.bl _)
    · cases e
  · cases e
    rw [vw_str hx, vw_str hy]
    exact .inr (.inr ⟨_, _, rfl, rfl, k _ (.bl _)⟩)
  · cases e

/-! ### subscripts -/
def ixD : PyData → PyData → Option Out
  | .list xs, .int i => (atI xs i).map .v
  | .tuple xs, .int i => (atI xs i).map .v
  | .str z, .int i => if z.length ≤ sizeLine then (atI z.cps.toList i).map fun c => .v (.str ⟨#[c]⟩) else none
  | _, _ => none
theorem RpA.at {K : PySem.W.Frag} {G : Hp} {vs : List V} {ds : List PyData} {i : Int} {x : PyData} (h : RpA K G vs ds) (e : atI ds i = some x) : ∃ v, atI vs i = some v ∧ Rp K G v x := by
  unfold atI at e ⊢
  rw [h.len]
  cases q : ixN ds.length i with
  | none => rw [q] at e; cases e
  | some j =>
    rw [q] at e
    exact h.get e
theorem ix_ok {K : PySem.W.Frag} : OpD K (rIx K) ixD := by
  intro G H v u x y o Q ext hx hy e k
  unfold ixD at e
  split at e
  · rename_i xs i
    cases q : atI xs i with
    | none => rw [q] at e; cases e
    | some z =>
      rw [q] at e
      cases e
      obtain ⟨a, vs, rfl, h1, h2⟩ := hx
      obtain ⟨w, e1, e2⟩ := h2.at q
      rw [vw_int hy]
      exact .inl ⟨a, vs, i, w, rfl, rfl, sql_of h1, e1, k w e2⟩
  · rename_i xs i
    cases q : atI xs i with
    | none => rw [q] at e; cases e
    | some z =>
      rw [q] at e
      cases e
      obtain ⟨a, vs, rfl, h1, h2⟩ := hx.tup ext
      obtain ⟨w, e1, e2⟩ := h2.at q
      rw [vw_int hy]
      exact .inr (.inl ⟨a, vs, i, w, rfl, rfl, h1, e1, k w e2⟩)
  · rename_i z i
    split at e
    · cases q : atI z.cps.toList i with
      | none => rw [q] at e; cases e
      | some c =>
        rw [q] at e
        cases e
        rw [vw_str hx, vw_int hy]
        exact .inr (.inr ⟨z, i, c, rfl, rfl, by assumption, q, k _ (.str _)⟩)
    · cases e
  · cases e
/-- the script at a place -/
def wScr (wa wb : DTE) : DTE := fun ρ κ P => wa ρ κ fun r κ1 => match r with
  | .s ns => wb ρ κ1 fun q κ2 => match q with
    | .d (.int i) => Opt (atI ns i) fun n => P (.d (.int n)) κ2
    | _ => False
  | _ => False
/-! slices -/
def cut {α : Type} (xs : List α) (lo hi : Option Int) : List α := (xs.drop (HT.sIx xs.length 0 lo)).take (HT.sIx xs.length xs.length hi - HT.sIx xs.length 0 lo)
theorem RpA.cut {K : PySem.W.Frag} {G : Hp} {vs : List V} {ds : List PyData} (h : RpA K G vs ds) (lo hi : Option Int) : RpA K G (cutV vs lo hi) (cut ds lo hi) := by
  unfold cutV DL.cut
  rw [h.len]
  exact (h.drop _).take _
def slD : PyData → Option Int → Option Int → Option Out
  | .list xs, lo, hi => some (.n (cut xs lo hi))
  | .tuple xs, lo, hi => some (.t (cut xs lo hi))
  | .str z, lo, hi => if z.length ≤ sizeLine then some (.v (.str (cutS z lo hi))) else none
  | _, _, _ => none
def rSlD (K : PySem.W.Frag) : V → Option Int → Option Int → Hp → VK → Prop := fun x lo hi H Q => rSlL K x lo hi H Q ∨ rSlA K x lo hi H Q ∨ rSlS x lo hi H Q
theorem sl_any {X : Cx} : SlR X (rSlD X.K) := by
  intro pins s σ H x v vl vu lo hi sl Q I rx hs pl pu h
  rcases h with h | h | h
  · exact sl_list pins s σ H x v vl vu lo hi sl Q I rx hs pl pu h
  · exact sl_tupA pins s σ H x v vl vu lo hi sl Q I rx hs pl pu h
  · exact sl_str pins s σ H x v vl vu lo hi sl Q I rx hs pl pu h
theorem cut_all {xs : List PyData} {lo hi : Option Int} (h : HT.sIx xs.length 0 lo = 0 ∧ HT.sIx xs.length xs.length hi = xs.length) : cut xs lo hi = xs := by
  unfold cut
  rw [h.1, h.2]
  simp
abbrev DTO := Rho → Kap → (Option Int → Kap → Prop) → Prop
def DO (X : Cx) (e : Option Expr) (w : DTO) : Prop := ∃ t, PO X e t ∧ ∀ (G H : Hp) (As : List Addr) (σ : L2.St) (ρ : Rho) (κ : Kap) (P : Option Int → Kap → Prop) (Q : Option Int → Hp → Prop), Cells X.K G H As κ → Places X.K G As σ ρ → w ρ κ P →
  (∀ o G' H' As' κ', Step G H As G' H' As' → Cells X.K G' H' As' κ' → Places X.K G' As' σ ρ → P o κ' → Q o H') → t σ H Q
def wNoP : DTO := fun _ κ P => P none κ
def wP (we : DTE) : DTO := fun ρ κ P => we ρ κ fun r κ1 => match r with
  | .d (.int i) => P (some i) κ1
  | _ => False
def wSl (we : DTE) (wl wh : DTO) : DTE := fun ρ κ P => we ρ κ fun r κ1 => wl ρ κ1 fun lo κ2 => wh ρ κ2 fun hi κ3 => Opt (val κ3 r.st) fun x => Opt (slD x lo hi) fun o => P o.r κ3
section
variable {X : Cx} {e : Expr} {lo hi : Option Expr} {we : DTE} {wl wh : DTO} {pos p2 : Pos}
theorem do_none : DO X none wNoP := ⟨_, po_none, fun G H As σ ρ κ P Q c p w k => k none G H As κ Step.refl c p w⟩
theorem do_some (he : DE X e we) : DO X (some e) (wP we) := by
  obtain ⟨t, pt, he⟩ := he
  refine ⟨_, po_some pt, fun G H As σ ρ κ P Q c p w k => ?_⟩
  refine he G H As σ ρ κ _ _ c p w fun v r G1 H1 As1 κ1 s1 c1 p1 i1 w1 => ?_
  cases r with
  | d x =>
    cases x with
    | int i =>
      have i1 : Rp X.K G1 v (.int i) := i1
      cases i1
      exact ⟨i, rfl, k _ G1 H1 As1 κ1 s1 c1 p1 w1⟩
    | _ => exact w1.elim
  | _ => exact w1.elim
theorem de_sl (he : DE X e we) (hl : DO X lo wl) (hh : DO X hi wh) : DE X (.Subscript e (.Slice lo hi none p2) pos) (wSl we wl wh) := by
  obtain ⟨t, pt, he⟩ := he
  obtain ⟨tl, pl, hl⟩ := hl
  obtain ⟨th, ph, hh⟩ := hh
  refine ⟨_, pe_slice sl_any pt pl ph, fun G H As σ ρ κ P Q c p w k => ?_⟩
  refine he G H As σ ρ κ _ _ c p w fun v r G1 H1 As1 κ1 s1 c1 p1 i1 w1 => ?_
  obtain ⟨G1', s1', c1', p1', i1', _⟩ := settle s1 c1 p1 i1
  refine hl G1' H1 As1 σ ρ κ1 _ _ c1' p1' w1 fun o2 G2 H2 As2 κ2 s2 c2 p2 w2 => ?_
  refine hh G2 H2 As2 σ ρ κ2 _ _ c2 p2 w2 fun o3 G3 H3 As3 κ3 s3 c3 p3 w3 => ?_
  obtain ⟨x, ex, w4⟩ := w3.ex
  obtain ⟨o, eo, w5⟩ := w4.ex
  have st := (s1'.trans s2).trans s3
  have vw := ((s2.trans s3).it i1').vw c3 ex
  have ok := out_ok (P := P) st c3 p3 o w5 k
  unfold slD at eo
  split at eo
  · cases eo
    obtain ⟨a, vs, rfl, h1, h2⟩ := vw
    exact .inl ⟨a, vs, rfl, sql_of h1, fun q hq => ok q _ hq (h2.cut _ _)⟩
  · cases eo
    have vw' := vw
    obtain ⟨a, vs, rfl, h1, h2⟩ := vw.tup c3.ext
    refine .inr (.inl ⟨a, vs, rfl, h1, fun z => ?_, fun _ q hq => ok.1 q _ hq (h2.cut _ _)⟩)
    rw [h2.len] at z
    rw [cut_all z] at ok
    exact ok.2 _ vw'
  · split at eo
    · cases eo
      rw [vw_str vw]
      exact .inr (.inr ⟨_, rfl, by assumption, ok _ (.str _)⟩)
    · cases eo
  · cases eo
end
end DL
/-! DLf: built-ins by name, isinstance, methods of texts and lists, sorted, the script, over plain data. -/
namespace DL
open PySem PySem.Spec PyProof.Rows L2

section
variable {K : PySem.W.Frag}
theorem one_of {G H : Hp} {vs : List V} {x : PyData} (h : Paired (Vw K G H) vs [x]) : ∃ v, vs = [v] ∧ Vw K G H v x := by
  cases h with
  | cons r t => cases t; exact ⟨_, rfl, r⟩
theorem two_of {G H : Hp} {vs : List V} {x y : PyData} (h : Paired (Vw K G H) vs [x, y]) : ∃ v u, vs = [v, u] ∧ Vw K G H v x ∧ Vw K G H u y := by
  cases h with
  | cons r t =>
    cases t with
    | cons r2 t => cases t; exact ⟨_, _, rfl, r, r2⟩
/-! ### built-ins by name -/
def lenD : List PyData → Option Out
  | [.str z] => if z.length ≤ sizeLine then some (.v (.int z.length)) else none
  | [.list xs] => some (.v (.int xs.length))
  | [.tuple xs] => some (.v (.int xs.length))
  | _ => none
theorem len_ok : CallD K (fun xs H Q => ∃ x n, xs = [x] ∧ LenV K x H n ∧ Q (.int n) H) lenD := by
  intro G H vs xs o Q ext h0 e k
  unfold lenD at e
  split at e
  · split at e
    · cases e
      obtain ⟨v, rfl, h⟩ := one_of h0
      rw [vw_str h]
      exact ⟨_, _, rfl, ⟨by assumption, rfl⟩, k _ (.int _)⟩
    · cases e
  · cases e
    obtain ⟨v, rfl, h⟩ := one_of h0
    obtain ⟨a, ws, rfl, h1, h2⟩ := h
    refine ⟨_, _, rfl, .inl ⟨ws, sql_of h1, rfl⟩, ?_⟩
    rw [h2.len]
    exact k _ (.int _)
  · cases e
    obtain ⟨v, rfl, h⟩ := one_of h0
    obtain ⟨a, ws, rfl, h1, h2⟩ := h.tup ext
    refine ⟨_, _, rfl, .inr ⟨ws, h1, rfl⟩, ?_⟩
    rw [h2.len]
    exact k _ (.int _)
  · cases e
def absD : List PyData → Option Out
  | [.int i] => some (.v (.int (if i < 0 then -i else i)))
  | _ => none
theorem abs_ok : CallD K (fun xs H Q => ∃ i, xs = [.int i] ∧ Q (.int (if i < 0 then -i else i)) H) absD := by
  intro G H vs xs o Q ext h0 e k
  unfold absD at e
  split at e
  · cases e
    obtain ⟨v, rfl, h⟩ := one_of h0
    rw [vw_int h]
    exact ⟨_, rfl, k _ (.int _)⟩
  · cases e
def intC : List PyData → Option Out
  | [.int i] => some (.v (.int i))
  | [.bool b] => some (.v (.int (if b then 1 else 0)))
  | _ => none
theorem intC_ok : CallD K (fun xs H Q => (∃ i, xs = [.int i] ∧ Q (.int i) H) ∨ ∃ k, xs = [.bl k] ∧ Q (.int (if k then 1 else 0)) H) intC := by
  intro G H vs xs o Q ext h0 e k
  unfold intC at e
  split at e
  · cases e
    obtain ⟨v, rfl, h⟩ := one_of h0
    rw [vw_int h]
    exact .inl ⟨_, rfl, k _ (.int _)⟩
  · cases e
    obtain ⟨v, rfl, h⟩ := one_of h0
    rw [vw_bool h]
    exact .inr ⟨_, rfl, k _ (.int _)⟩
  · cases e
def max2D : List PyData → Option Out
  | [.int i, .int j] => some (.v (.int (if j > i then j else i)))
  | _ => none
theorem max2_ok : CallD K (fun xs H Q => ∃ i j, xs = [.int i, .int j] ∧ Q (.int (if j > i then j else i)) H) max2D := by
  intro G H vs xs o Q ext h0 e k
  unfold max2D at e
  split at e
  · cases e
    obtain ⟨v, u, rfl, h1, h2⟩ := two_of h0
    rw [vw_int h1, vw_int h2]
    exact ⟨_, _, rfl, k _ (.int _)⟩
  · cases e
def min2D : List PyData → Option Out
  | [.int i, .int j] => some (.v (.int (if j < i then j else i)))
  | _ => none
theorem min2_ok : CallD K (fun xs H Q => ∃ i j, xs = [.int i, .int j] ∧ Q (.int (if j < i then j else i)) H) min2D := by
  intro G H vs xs o Q ext h0 e k
  unfold min2D at e
  split at e
  · cases e
    obtain ⟨v, u, rfl, h1, h2⟩ := two_of h0
    rw [vw_int h1, vw_int h2]
    exact ⟨_, _, rfl, k _ (.int _)⟩
  · cases e
def listC : List PyData → Option Out
  | [.list xs] => some (.n xs)
  | [.tuple xs] => some (.n xs)
  | _ => none
theorem listC_ok : CallD K (fun xs H Q => ∃ p ys, xs = [.ref p] ∧ (SqL K H p ys ∨ SqT K H p ys) ∧ ∀ l, H l = none → Q (.ref l) (upd H l (.lst ys))) listC := by
  intro G H vs xs o Q ext h0 e k
  unfold listC at e
  split at e
  · cases e
    obtain ⟨v, rfl, h⟩ := one_of h0
    obtain ⟨a, ws, rfl, h1, h2⟩ := h
    exact ⟨_, _, rfl, .inl (sql_of h1), fun l hl => k l _ hl h2⟩
  · cases e
    obtain ⟨v, rfl, h⟩ := one_of h0
    obtain ⟨a, ws, rfl, h1, h2⟩ := h.tup ext
    exact ⟨_, _, rfl, .inr h1, fun l hl => k l _ hl h2⟩
  · cases e
def tupC : List PyData → Option Out
  | [.list xs] => some (.t xs)
  | [.tuple xs] => some (.t xs)
  | _ => none
theorem tupC_ok : CallD K (fun xs H Q => ∃ p ys, xs = [.ref p] ∧ ((SqL K H p ys ∧ ∀ l, H l = none → Q (.ref l) (upd H l (.tup ys))) ∨ (SqT K H p ys ∧ Q (.ref p) H))) tupC := by
  intro G H vs xs o Q ext h0 e k
  unfold tupC at e
  split at e
  · cases e
    obtain ⟨v, rfl, h⟩ := one_of h0
    obtain ⟨a, ws, rfl, h1, h2⟩ := h
    exact ⟨_, _, rfl, .inl ⟨sql_of h1, fun l hl => k.1 l _ hl h2⟩⟩
  · cases e
    obtain ⟨v, rfl, h⟩ := one_of h0
    have h' := h
    obtain ⟨a, ws, rfl, h1, h2⟩ := h.tup ext
    exact ⟨_, _, rfl, .inr ⟨h1, k.2 _ h'⟩⟩
  · cases e
def bools : List PyData → Option (List Bool)
  | [] => some []
  | .bool b :: xs => (bools xs).map (b :: ·)
  | _ => none
theorem bools_map : ∀ bs : List Bool, bools (bs.map .bool) = some bs
  | [] => rfl
  | b :: bs => by
    show (bools (bs.map .bool)).map (b :: ·) = _
    rw [bools_map bs]; rfl
theorem bools_ok {G : Hp} : ∀ {ds : List PyData} {vs : List V} {bs : List Bool}, bools ds = some bs → RpA K G vs ds → vs = bs.map V.bl
  | [], _, _, e, h => by
    cases e; cases h; rfl
  | d :: ds, _, bs, e, h => by
    cases h with
    | cons h1 h2 =>
      cases d with
      | bool b =>
        unfold bools at e
        cases q : bools ds with
        | none => rw [q] at e; cases e
        | some cs =>
          rw [q] at e
          cases e
          cases h1
          rw [bools_ok q h2]
          rfl
      | _ => cases e
def allC (f : List Bool → Bool) : List PyData → Option Out
  | [.list xs] => (bools xs).map fun bs => .v (.bool (f bs))
  | _ => none
theorem allC_ok {f : List Bool → Bool} : CallD K (fun vs H Q => ∃ (a : Addr) (bs : List Bool), vs = [V.ref a] ∧ SqL K H a (bs.map V.bl) ∧ Q (.bl (f bs)) H) (allC f) := by
  intro G H vs xs o Q ext h0 e k
  unfold allC at e
  split at e
  · rename_i xs
    cases q : bools xs with
    | none => rw [q] at e; cases e
    | some bs =>
      rw [q] at e
      cases e
      obtain ⟨v, rfl, h⟩ := one_of h0
      obtain ⟨a, ws, rfl, h1, h2⟩ := h
      rw [bools_ok q h2] at h1
      exact ⟨a, bs, rfl, sql_of h1, k _ (.bl _)⟩
  · cases e
end

/-! ### sorted -/
def dLe (x y : PyData) : Bool := !PySem.W.dataLt y x
def SortOk (xs : List PyData) : Prop := PySem.W.AllAlike xs ∧ PySem.W.Sortable xs ∧ (∀ x ∈ xs, x.depth ≤ 64) ∧ xs.length ≤ sizeLine
open Classical in
noncomputable def sortC : List PyData → Option Out
  | [.list xs] => if SortOk xs then some (.n (xs.mergeSort dLe)) else none
  | [.tuple xs] => none
  | _ => none
def rSortD (K : PySem.W.Frag) : List V → Hp → VK → Prop := fun vs H Q => ∃ (a : Addr) (ps : List (V × PyData)), vs = [V.ref a] ∧ SqL K H a (ps.map (·.1)) ∧ (∀ p ∈ ps, Rp K H p.1 p.2) ∧ SortOk (ps.map (·.2)) ∧
  ∀ (qs : List (V × PyData)) (p : Addr), qs = ps.mergeSort (fun x y => dLe x.2 y.2) → H p = none → Q (.ref p) (upd H p (.lst (qs.map (·.1))))
theorem each_of {R : Value → V × PyData → Prop} : ∀ {ps : List (V × PyData)} {us : List Value}, Vals (ps.map (·.1)) us → (∀ p ∈ ps, ∀ u, RelV p.1 u → R u p) → PySem.W.EachIs R us ps
  | [], _, .nil, _ => .nil
  | p :: ps, _, .cons r t, h => .cons (h p (List.mem_cons_self ..) _ r) (each_of t fun q hq => h q (List.mem_cons_of_mem _ hq))
theorem of_each : ∀ {us : List Value} {ps : List (V × PyData)}, PySem.W.EachIs (fun u p => RelV p.1 u) us ps → Vals (ps.map (·.1)) us
  | _, _, .nil => .nil
  | _, _, .cons r t => .cons r (of_each t)
theorem cr_sortD {X : Cx} (hu : X.A.units + 80 < cLine) : CallR X (.builtin "sorted") (rSortD X.K) := by
  intro pins s σ H vs us Q I r h
  obtain ⟨a, ps, rfl, hs, hp, ⟨hal, hk, hd, hl⟩, q⟩ := h
  obtain ⟨its, rv, hL, hz⟩ := I.list hs
  rw [Vals.ref1 r]
  refine PySem.W.sorted_data (enc := fun p : V × PyData => p.2) hL.isList (each_of rv fun p _ u r => r) (each_of rv fun p hm u r => Dp.reads I _ _ _ (Rp.dp _ _ (hp p hm)) r) hal hk (by rw [List.length_map] at hl; exact hl) (fun b hb => ?_) fun out h1 h2 => ?_
  · have := hd b.2 (List.mem_map.mpr ⟨b, hb, rfl⟩)
    omega
  · obtain ⟨ep, he⟩ := PyProof.Rows.sortedAll_at s.heap its (List.toArray out)
    have rv2 := of_each h2
    have e0 : ps.mergeSort (PySem.W.dataLe false fun p : V × PyData => p.2) = ps.mergeSort (fun x y => dLe x.2 y.2) := rfl
    rw [e0] at rv2
    have hlen : ((ps.mergeSort (fun x y => dLe x.2 y.2)).map (·.1)).length ≤ sizeLine := by
      rw [List.length_map, List.length_mergeSort]
      rw [List.length_map] at hl
      exact hl
    exact ⟨.ref _, upd H (s.heap.objs.size + 1) (.lst ((ps.mergeSort (fun x y => dLe x.2 y.2)).map (·.1))), I.laid (t' := s.toks) (fun _ _ => PyProof.Rows.sortedAll_old) (Nat.le_succ _) ⟨hlen, (List.toArray out).toList, ep, rv2, he⟩, rfl, q _ _ rfl (I.hok.fresh (Nat.le_succ _))⟩
theorem pairs_of {K : PySem.W.Frag} {G : Hp} : ∀ {vs : List V} {ds : List PyData}, RpA K G vs ds → ∃ ps : List (V × PyData), ps.map (·.1) = vs ∧ ps.map (·.2) = ds ∧ ∀ p ∈ ps, Rp K G p.1 p.2
  | _, _, .nil => ⟨[], rfl, rfl, fun _ h => by cases h⟩
  | v :: vs, d :: ds, .cons r t => by
    obtain ⟨ps, h1, h2, h3⟩ := pairs_of t
    refine ⟨(v, d) :: ps, by rw [List.map_cons, h1], by rw [List.map_cons, h2], fun p hp => ?_⟩
    rcases List.mem_cons.mp hp with rfl | hp
    · exact r
    · exact h3 p hp
theorem rpa_of {K : PySem.W.Frag} {G : Hp} : ∀ {ps : List (V × PyData)}, (∀ p ∈ ps, Rp K G p.1 p.2) → RpA K G (ps.map (·.1)) (ps.map (·.2))
  | [], _ => .nil
  | p :: ps, h => .cons (h p (List.mem_cons_self ..)) (rpa_of fun q hq => h q (List.mem_cons_of_mem _ hq))
theorem sortC_ok {K : PySem.W.Frag} : CallD K (rSortD K) sortC := by
  intro G H vs xs o Q ext h0 e k
  unfold sortC at e
  split at e
  · split at e
    · rename_i xs hs
      cases e
      obtain ⟨v, rfl, h⟩ := one_of h0
      obtain ⟨a, ws, rfl, h1, h2⟩ := h
      obtain ⟨ps, e1, e2, h3⟩ := pairs_of h2
      refine ⟨a, ps, rfl, by rw [e1]; exact sql_of h1, fun p hp => Rp.mono ext _ _ (h3 p hp), by rw [e2]; exact hs, fun qs p eq hp => k p _ hp ?_⟩
      have m : (ps.mergeSort fun x y => dLe x.2 y.2).map (·.2) = xs.mergeSort dLe := by
        rw [← e2]
        exact List.map_mergeSort fun _ _ _ _ => rfl
      rw [← m, ← eq]
      refine rpa_of fun p hp => h3 p ?_
      rw [eq] at hp
      exact (List.mergeSort_perm _ _).mem_iff.mp hp
    · cases e
  · cases e
  · cases e

/-! ### isinstance -/
def tyN : PyData → String
  | .none => "NoneType"
  | .bool _ => "bool"
  | .int _ => "int"
  | .str _ => "str"
  | .list _ => "list"
  | .tuple _ => "tuple"
  | .dict _ => "dict"
inductive Ty where
  | int | bool | str | list | tuple
def Ty.n : Ty → String
  | .int => "int"
  | .bool => "bool"
  | .str => "str"
  | .list => "list"
  | .tuple => "tuple"
def isi : PyData → Ty → Bool
  | .bool _, .bool => true
  | .bool _, .int => true
  | .int _, .int => true
  | .str _, .str => true
  | .list _, .list => true
  | .tuple _, .tuple => true
  | _, _ => false
def tyAlls : List String := ["NoneType", "bool", "int", "str", "list", "tuple"]
theorem kit_all : ∀ T : Ty, kitB "NoneType" T.n = some false ∧ kitB "bool" T.n = some (isi (.bool true) T) ∧ kitB "int" T.n = some (isi (.int 0) T) ∧ kitB "str" T.n = some (isi (.str "") T) ∧ kitB "list" T.n = some (isi (.list []) T) ∧ kitB "tuple" T.n = some (isi (.tuple []) T) := by
  intro T
  cases T <;> decide +kernel
theorem kit_is {x : PyData} {T : Ty} (h : ∀ ds, x ≠ .dict ds) : kitB (tyN x) T.n = some (isi x T) := by
  obtain ⟨h1, h2, h3, h4, h5, h6⟩ := kit_all T
  cases x with
  | none => exact h1.trans (by cases T <;> rfl)
  | bool b => exact h2.trans (by cases T <;> rfl)
  | int i => exact h3.trans (by cases T <;> rfl)
  | str z => exact h4.trans (by cases T <;> rfl)
  | list xs => exact h5.trans (by cases T <;> rfl)
  | tuple xs => exact h6.trans (by cases T <;> rfl)
  | dict ds => exact absurd rfl (h ds)
theorem ty_of {K : PySem.W.Frag} {G H : Hp} {v : V} {x : PyData} (ext : Ex G H) (h : Vw K G H v x) : TyX K H v (.type (tyN x)) ∧ ∀ ds, x ≠ .dict ds := by
  cases x with
  | none => rw [vw_none h]; exact ⟨.base .non, fun _ z => nomatch z⟩
  | bool b => rw [vw_bool h]; exact ⟨.base (.bl b), fun _ z => nomatch z⟩
  | int i => rw [vw_int h]; exact ⟨.base (.int i), fun _ z => nomatch z⟩
  | str z => rw [vw_str h]; exact ⟨.base (.str z), fun _ z => nomatch z⟩
  | list xs =>
    obtain ⟨a, vs, rfl, h1, _⟩ := h
    exact ⟨.base (.lst h1), fun _ z => nomatch z⟩
  | tuple xs =>
    obtain ⟨a, vs, rfl, h1, _⟩ := h.tup ext
    refine ⟨?_, fun _ z => nomatch z⟩
    rcases h1 with (h1 | ⟨o, h1⟩) | ⟨o, _, _, e, c, _⟩
    · exact .base (.tup h1)
    · exact .fTuple h1
    · exact .kTuple e c
  | dict xs =>
    have h : Rp K G v (.dict xs) := h
    cases h
def wIsi (T : Ty) (wa : DTE) : DTE := fun ρ κ P => wa ρ κ fun r κ1 => Opt (val κ1 r.st) fun x => P (.d (.bool (isi x T))) κ1
def wIsi2 (T U : Ty) (wa : DTE) : DTE := fun ρ κ P => wa ρ κ fun r κ1 => Opt (val κ1 r.st) fun x => P (.d (.bool (isi x T || isi x U))) κ1
section
variable {X : Cx} {e : Expr} {wa : DTE} {p p2 p3 p4 pos : Pos} {tn un : Str} {kk : Nat}
theorem de_isi (T : Ty) (hm : X.mg "isinstance" = none) (ht : X.mg tn = none) (ha : DE X e wa) (htv : bootBuiltins tn = some (.type T.n) := by decide +kernel) (hg : Gl X "isinstance" := by rfl) (hgt : Gl X tn := by rfl) (hnt : tn ≠ "__name__" := by decide) (hdt : (tn == ("__debug__" : Str)) = false := by decide)
    (hs : starEach [e, .Name tn p2] X.env = (false, eval e X.env) :: starEach [.Name tn p2] X.env := by rfl) (hs2 : starEach [.Name tn p2] X.env = (false, eval (.Name tn p2) X.env) :: starEach [] X.env := by rfl) (hpl : (backTo pos (starEach [.Name tn p2] X.env)).any (·.1) = false := by rfl) :
    DE X (.Call (.Name "isinstance" p) [e, .Name tn p2] [] pos) (wIsi T wa) := by
  obtain ⟨t, pt, ha⟩ := ha
  refine ⟨_, pe_callB call_isi hg hm (by decide +kernel) (pa_cons pt (pa_cons (pe_bltn (v := .ty T.n) hgt ht htv rfl hnt hdt) pa_nil hs2) hs) (by decide) (by decide) hs hpl, fun G H As σ ρ κ P Q c pl w k => ?_⟩
  refine ha G H As σ ρ κ _ _ c pl w fun v r G1 H1 As1 κ1 s1 c1 p1 i1 w1 => ?_
  obtain ⟨G1', s1', c1', p1', i1', _⟩ := settle s1 c1 p1 i1
  obtain ⟨x, ex, w2⟩ := w1.ex
  obtain ⟨h1, h2⟩ := ty_of c1'.ext (i1'.vw c1' ex)
  exact ⟨v, .ty T.n, _, _, isi x T, rfl, .ty _, h1, kit_ty (kit_is h2), k _ (.d (.bool _)) G1' H1 As1 κ1 s1' c1' p1' (.bl _) w2⟩
theorem de_isi2 (T U : Ty) (hm : X.mg "isinstance" = none) (ht : X.mg tn = none) (hu : X.mg un = none) (ha : DE X e wa) (htv : bootBuiltins tn = some (.type T.n) := by decide +kernel) (huv : bootBuiltins un = some (.type U.n) := by decide +kernel) (hg : Gl X "isinstance" := by rfl) (hgt : Gl X tn := by rfl) (hgu : Gl X un := by rfl)
    (hnt : tn ≠ "__name__" := by decide) (hdt : (tn == ("__debug__" : Str)) = false := by decide) (hnu : un ≠ "__name__" := by decide) (hdu : (un == ("__debug__" : Str)) = false := by decide)
    (hs : starEach [e, .Tuple [.Name tn p2, .Name un p3] kk p4] X.env = (false, eval e X.env) :: starEach [.Tuple [.Name tn p2, .Name un p3] kk p4] X.env := by rfl) (hs2 : starEach [.Tuple [.Name tn p2, .Name un p3] kk p4] X.env = (false, eval (.Tuple [.Name tn p2, .Name un p3] kk p4) X.env) :: starEach [] X.env := by rfl)
    (hs3 : starEach [.Name tn p2, .Name un p3] X.env = (false, eval (.Name tn p2) X.env) :: starEach [.Name un p3] X.env := by rfl) (hs4 : starEach [.Name un p3] X.env = (false, eval (.Name un p3) X.env) :: starEach [] X.env := by rfl)
    (hpl : (backTo pos (starEach [.Tuple [.Name tn p2, .Name un p3] kk p4] X.env)).any (·.1) = false := by rfl) :
    DE X (.Call (.Name "isinstance" p) [e, .Tuple [.Name tn p2, .Name un p3] kk p4] [] pos) (wIsi2 T U wa) := by
  obtain ⟨t, pt, ha⟩ := ha
  refine ⟨_, pe_callB call_isiT hg hm (by decide +kernel) (pa_cons pt (pa_cons (pe_tup (pa_cons (pe_bltn (v := .ty T.n) hgt ht htv rfl hnt hdt) (pa_cons (pe_bltn (v := .ty U.n) hgu hu huv rfl hnu hdu) pa_nil hs4) hs3)) pa_nil hs2) hs) (by decide) (by decide) hs hpl, fun G H As σ ρ κ P Q c pl w k => ?_⟩
  refine ha G H As σ ρ κ _ _ c pl w fun v r G1 H1 As1 κ1 s1 c1 p1 i1 w1 => ?_
  obtain ⟨G1', s1', c1', p1', i1', _⟩ := settle s1 c1 p1 i1
  obtain ⟨x, ex, w2⟩ := w1.ex
  refine ⟨by show 2 ≤ sizeLine; decide, fun q hq => ?_⟩
  have e2 : Ex H1 (upd H1 q (.tup [.ty T.n, .ty U.n])) := Ex.new hq
  obtain ⟨h1, h2⟩ := ty_of (c1'.ext.trans e2) (show Vw X.K G1' (upd H1 q (.tup [.ty T.n, .ty U.n])) v x from by
    have vw := i1'.vw c1' ex
    cases x with
    | list xs =>
      obtain ⟨a, vs, rfl, h1, h2⟩ := vw
      exact ⟨a, vs, rfl, e2 _ _ h1, h2⟩
    | none => exact vw
    | bool _ => exact vw
    | int _ => exact vw
    | str _ => exact vw
    | tuple _ => exact vw
    | dict _ => exact vw)
  refine ⟨v, q, [.ty T.n, .ty U.n], _, [.type T.n, .type U.n], isi x T || isi x U, rfl, upd_same, .cons (.ty _) (.cons (.ty _) .nil), h1, ?_, ?_⟩
  · refine kitAny_cons (kit_ty (kit_is h2)) (fun e => ?_) (fun e => by rw [e]; rfl)
    rw [e, Bool.false_or]
    refine kitAny_cons (kit_ty (kit_is h2)) (fun e => ?_) (fun e => e)
    rw [e]; exact kitAny_nil
  · have st : Step G H As G1' (upd H1 q (.tup [.ty T.n, .ty U.n])) As1 := s1'.trans (Step.fresh hq)
    exact k _ (.d (.bool _)) G1' _ As1 κ1 st (c1'.fresh hq) p1' (.bl _) w2
end

/-! ### methods -/
def tyOk (T : String) : PyData → Prop
  | .str _ => T = "str"
  | .list _ => T = "list"
  | _ => False
def MtD (K : PySem.W.Frag) (r : V → List V → Hp → VK → Prop) (g : PyData → List PyData → Option Out) : Prop := ∀ (G H : Hp) (v : V) (vs : List V) (x : PyData) (xs : List PyData) (o : Out) (Q : VK), Ex G H → Vw K G H v x → Paired (Vw K G H) vs xs → g x xs = some o → OutK K G H Q o → r v vs H Q
def wBM (T : String) (g : PyData → List PyData → Option Out) (wo : DTE) (wa : DTA) : DTE := fun ρ κ P => wo ρ κ fun r κ1 => Opt (val κ1 r.st) fun x0 => tyOk T x0 ∧ wa ρ κ1 fun rs κ2 => Opt (val κ2 r.st) fun x => Opt (vals κ2 rs) fun xs => Opt (g x xs) fun o => P o.r κ2
theorem tyV_of {K : PySem.W.Frag} {G H : Hp} {v : V} {x : PyData} {T : String} (h : Vw K G H v x) (t : tyOk T x) : tyV K T v H := by
  cases x with
  | str z => rw [vw_str h]; exact t
  | list xs =>
    obtain ⟨a, vs, rfl, h1, _⟩ := h
    exact .inl ⟨t, vs, sql_of h1⟩
  | _ => exact t.elim
section
variable {X : Cx} {o e : Expr} {es : List Expr} {wo : DTE} {wr : DTA} {apos cpos : Pos} {T id : String} {name : Str}
theorem de_bm {r : V → List V → Hp → VK → Prop} {g : PyData → List PyData → Option Out} (pa : PlainAttrs T) (slot : Slot T name id) (hty : typeOf (.builtin id) = pure (.type "method_descriptor")) (hm : MtR X id r) (hg : MtD X.K r g) (ho : DE X o wo) (ha : DA X (e :: es) wr)
    (hbase : attributeBase o name X.env (eval o X.env) = eval o X.env := by rfl)
    (hfew : ((backTo cpos (starEach (e :: es) X.env)).all (fun x => !x.1) && (backToKw cpos (keywordEach [] X.env)).all (fun x => x.1.isSome) && decide ((e :: es).length + ([] : List Keyword).length + (if ([] : List Keyword).isEmpty then 0 else 1) < 30)) = true := by rfl)
    (hline : (apos.endLine == cpos.line) = true := by rfl) (hs : starEach (e :: es) X.env = (false, eval e X.env) :: starEach es X.env := by rfl) (hplain : (backTo cpos (starEach es X.env)).any (·.1) = false := by rfl) :
    DE X (.Call (.Attribute o name apos) (e :: es) [] cpos) (wBM T g wo wr) := by
  obtain ⟨to, po, ho⟩ := ho
  obtain ⟨t, pt, ha⟩ := ha
  refine ⟨_, pe_bm pa slot hty hm po pt hbase hfew hline hs hplain, fun G H As σ ρ κ P Q c p w k => ?_⟩
  refine ho G H As σ ρ κ _ _ c p w fun v1 r1 G1 H1 As1 κ1 s1 c1 p1 i1 w1 => ?_
  obtain ⟨G1', s1', c1', p1', i1', _⟩ := settle s1 c1 p1 i1
  obtain ⟨x0, ex0, tok, w1⟩ := w1.ex
  refine ⟨tyV_of (i1'.vw c1' ex0) tok, ?_⟩
  refine ha G1' H1 As1 σ ρ κ1 _ _ c1' p1' w1 fun vs rs G2 H2 As2 κ2 s2 c2 p2 i2 _ w2 => ?_
  obtain ⟨x, ex, w2⟩ := w2.ex
  obtain ⟨xs, exs, w2⟩ := w2.ex
  obtain ⟨oo, eo, w2⟩ := w2.ex
  exact hg G2 H2 v1 vs x xs oo Q c2.ext ((s2.it i1').vw c2 ex) (vals_ok c2 i2 exs) eo (out_ok (s1'.trans s2) c2 p2 oo w2 k)
end
def strL : List PyData → Option (List Str)
  | [] => some []
  | .str z :: xs => (strL xs).map (z :: ·)
  | _ => none
theorem strs_map : ∀ zs : List Str, strL (zs.map .str) = some zs
  | [] => rfl
  | z :: zs => by
    show (strL (zs.map .str)).map (z :: ·) = _
    rw [strs_map zs]; rfl
theorem strs_ok {K : PySem.W.Frag} {G : Hp} : ∀ {ds : List PyData} {vs : List V} {bs : List Str}, strL ds = some bs → RpA K G vs ds → vs = bs.map V.str
  | [], _, _, e, h => by
    cases e; cases h; rfl
  | d :: ds, _, bs, e, h => by
    cases h with
    | cons h1 h2 =>
      cases d with
      | str b =>
        unfold strL at e
        cases q : strL ds with
        | none => rw [q] at e; cases e
        | some cs =>
          rw [q] at e
          cases e
          cases h1
          rw [strs_ok q h2]
          rfl
      | _ => cases e
def joinC : PyData → List PyData → Option Out
  | .str a, [.list xs] => match strL xs with
    | some ys => if (ys.map (·.length)).sum + ys.length * a.length ≤ 16777216 then some (.v (.str (Txt.join a ys))) else none
    | none => none
  | .str a, [.tuple xs] => match strL xs with
    | some ys => if (ys.map (·.length)).sum + ys.length * a.length ≤ 16777216 then some (.v (.str (Txt.join a ys))) else none
    | none => none
  | _, _ => none
theorem joinC_ok {K : PySem.W.Frag} : MtD K (fun x xs H Q => ∃ a p, ∃ ys : List Str, x = .str a ∧ xs = [.ref p] ∧ (SqL K H p (ys.map V.str) ∨ SqT K H p (ys.map V.str)) ∧ (ys.map (·.length)).sum + ys.length * a.length ≤ 16777216 ∧ Q (.str (Txt.join a ys)) H) joinC := by
  intro G H v vs x xs o Q ext hx h0 e k
  unfold joinC at e
  split at e
  · split at e
    · rename_i ys q
      split at e
      · cases e
        obtain ⟨u, rfl, h⟩ := one_of h0
        obtain ⟨a, ws, rfl, h1, h2⟩ := h
        rw [strs_ok q h2] at h1
        exact ⟨_, a, ys, vw_str hx, rfl, .inl (sql_of h1), by assumption, k _ (.str _)⟩
      · cases e
    · cases e
  · split at e
    · rename_i ys q
      split at e
      · cases e
        obtain ⟨u, rfl, h⟩ := one_of h0
        obtain ⟨a, ws, rfl, h1, h2⟩ := h.tup ext
        rw [strs_ok q h2] at h1
        exact ⟨_, a, ys, vw_str hx, rfl, .inr h1, by assumption, k _ (.str _)⟩
      · cases e
    · cases e
  · cases e

/-! ### the script -/
section
variable {X : Cx} {a b e : Expr} {wa wb : DTE} {p pos : Pos}
theorem de_scr (ha : DE X a wa) (hb : DE X b wb) (hs : PlainIx b) : DE X (.Subscript a b pos) (wScr wa wb) := by
  obtain ⟨ta, pa, ha⟩ := ha
  obtain ⟨tb, pb, hb⟩ := hb
  refine ⟨_, pe_ix ix_list pa pb hs, fun G H As σ ρ κ P Q c p w k => ?_⟩
  refine ha G H As σ ρ κ _ _ c p w fun v1 r1 G1 H1 As1 κ1 s1 c1 p1 i1 w1 => ?_
  cases r1 with
  | s ns =>
    refine hb G1 H1 As1 σ ρ κ1 _ _ c1 p1 w1 fun v2 r2 G2 H2 As2 κ2 s2 c2 p2 i2 w2 => ?_
    have i1' : It X.K G1 As1 v1 (.s ns) := i1
    obtain ⟨l, rfl, hl⟩ := s2.it i1'
    cases r2 with
    | d y =>
      cases y with
      | int i =>
        obtain ⟨n, en, w3⟩ := w2.ex
        have i2 : Rp X.K G2 v2 (.int i) := i2
        cases i2
        refine ⟨l, _, i, .int n, rfl, rfl, ex_sl c2.ext hl, ?_, k _ (.d (.int n)) G2 H2 As2 κ2 (s1.trans s2) c2 p2 (.int _) w3⟩
        unfold atI at en ⊢
        rw [List.length_map]
        cases q : ixN ns.length i with
        | none => rw [q] at en; cases en
        | some j =>
          rw [q] at en
          show (ns.map V.int)[j]? = some (V.int n)
          rw [List.getElem?_map, show ns[j]? = some n from en]
          rfl
      | _ => exact w2.elim
    | _ => exact w2.elim
  | _ => exact w1.elim
/-- len(script) -/
def wLenS (wa : DTE) : DTE := fun ρ κ P => wa ρ κ fun r κ1 => match r with
  | .s ns => P (.d (.int ns.length)) κ1
  | _ => False
theorem de_lenS (hm : X.mg "len" = none) (ha : DE X e wa) (hg : Gl X "len" := by rfl) (hs : starEach [e] X.env = (false, eval e X.env) :: starEach [] X.env := by rfl) (hpl : (backTo pos (starEach [] X.env)).any (·.1) = false := by rfl) : DE X (.Call (.Name "len" p) [e] [] pos) (wLenS wa) := by
  obtain ⟨t, pt, ha⟩ := ha
  refine ⟨_, pe_callB call_len_seq hg hm (by decide +kernel) (pa_cons pt pa_nil hs) (by decide) (by decide) hs hpl, fun G H As σ ρ κ P Q c p w k => ?_⟩
  refine ha G H As σ ρ κ _ _ c p w fun v1 r1 G1 H1 As1 κ1 s1 c1 p1 i1 w1 => ?_
  cases r1 with
  | s ns =>
    obtain ⟨l, rfl, hl⟩ := i1
    refine ⟨l, _, rfl, .inl (ex_sl c1.ext hl), ?_⟩
    rw [List.length_map]
    exact k _ (.d (.int ns.length)) G1 H1 As1 κ1 s1 c1 p1 (.int _) w1
  | _ => exact w1.elim
end
end DL
/-! DLg: a star among targets. -/
namespace DL
open PySem PySem.Spec PyProof.Rows L2
section
variable {prog : Program} {w : World} {A : Around} {E : Value → Shared → Prop} {s : Shared}
/-- what a star takes of a tuple: the items ahead, a new list, the items behind -/
theorem star_tup {l : Addr} {items : Array Value} {n i : Nat} {Q : List Value → Shared → Prop} (hl : IsTup s.heap l items) (hh : A.handled = none) (hi : i < n) (hn : n ≤ items.size + 1) (hz : items.size ≤ 16384)
    (h : ∀ (h' : Heap) (tk : Nat), (∀ b o, s.heap.get? b = some o → h'.get? b = some o) → Q (items.toList.take i ++ [.ref h'.objs.size] ++ (items.toList.drop i).drop (items.size + 1 - n)) { s with heap := h'.push { cls := .type "list", data := .seq ((items.toList.drop i).take (items.size + 1 - n)).toArray }, toks := tk }) :
    wpAny (model prog w) A (unpackItems (.ref l) n (some i)) Q E s := by
  have ne : l ≠ s.heap.objs.size := by obtain ⟨o, ho, _⟩ := hl; exact Nat.ne_of_lt (Heap.lt_size ho)
  unfold unpackItems
  refine wpAny_bind ?_
  unfold notIterableAtAll
  refine wpAny_bind (wpAny_specialOf hl.typeIs slot_tuple_iter.lookup (wpAny_pure ?_))
  simp only [Bool.false_eq_true, if_false]
  refine wpAny_bind (wpAny_holding (iter_tuple hl ?_))
  refine wpAny_bind (wpAny_holding (draw_tuple ne i 0 _ _ ⟨_, Heap.get?_push_size _ rfl, rfl, rfl⟩ (hl.push _) (by omega) fun h1 it1 st1 => ?_))
  have hl1 : IsTup h1 l items := (hl.push _).extBut st1.extBut ne
  rw [Nat.zero_add] at it1
  obtain ⟨oi, hoi, _⟩ := id it1
  obtain ⟨ol, hol, _⟩ := id hl1
  rw [List.drop_zero]
  have e1 : (items.toList.take i).length = i := by rw [List.length_take, Array.length_toList]; omega
  rw [if_neg (by rw [e1]; omega)]
  refine wpAny_bind (wpAny_holding (PySem.W.kun_collect (s := { s with heap := h1 }) (T := "tuple_iterator") (.inr (.inr (.inr rfl))) (Walks.tuple (A := A.in1) hh s.heap.objs.size l ne items) (fun j u st => st.1.typeIs) (k := i) (by omega) ⟨it1, hl1⟩ (Heap.lt_size hoi) (Heap.lt_size hol) (fun h2 tk hk => ?_) (by rw [sizeLine_eq]; omega)))
  have e2 : (items.toList.drop i).length = items.size - i := by rw [List.length_drop, Array.length_toList]
  have e3 : (items.toList.drop i).length - (n - 1 - i) = items.size + 1 - n := by rw [e2]; omega
  show wpAny _ _ (if (items.toList.drop i).length < n - 1 - i then _ else _) _ _ _
  rw [if_neg (by rw [e2]; omega)]
  show wpAny _ _ (newList ((items.toList.drop i).take ((items.toList.drop i).length - (n - 1 - i))) >>= fun d => pure (items.toList.take i ++ [d] ++ (items.toList.drop i).drop ((items.toList.drop i).length - (n - 1 - i)))) _ _ _
  rw [e3]
  refine wpAny_bind (wpAny_newList (wpAny_pure ?_) ?_)
  · exact h h2 tk fun b o e => hk b o (Nat.ne_of_lt (Heap.lt_size e)) (st1.extBut b o (Nat.ne_of_lt (Heap.lt_size e)) (Heap.get?_push_of_some _ e))
  · rw [List.length_take, e2, sizeLine_eq]; omega
end
section
variable {X : Cx} {pos spos : Pos} {e : Expr} {es : List Expr} {js is : List Nat} {wg : DTG} {gs : List PyData → Rho → Kap → (Rho → Kap → Prop) → Prop}
/-- (a, .., *b, .., c) = a tuple; the star at i -/
def gStar (K : PySem.W.Frag) (n i : Nat) (t : TGs) : TG := fun v σ H Q => ∃ a xs, v = .ref a ∧ SqT K H a xs ∧ i < n ∧ n ≤ xs.length + 1 ∧ xs.length ≤ 16384 ∧ ∀ D, H D = none → t (xs.take i ++ [.ref D] ++ (xs.drop i).drop (xs.length + 1 - n)) σ (upd H D (.lst ((xs.drop i).take (xs.length + 1 - n)))) Q
theorem pg_star {k n i : Nat} {t : TGs} (hc : X.calm = true) (h : PGs X es t) (hn : (assignEach es X.env).length = n := by rfl) (hst : (assignEach es X.env).findIdx? (·.1) = some i := by rfl) : PG X (.Tuple es k pos) (gStar X.K n i t) := by
  refine ⟨fun pins s σ H v u Q I r hw => ?_⟩
  obtain ⟨a, xs, e1, hq, hi, hl, hz, hw⟩ := hw
  subst e1
  cases r
  obtain ⟨its, rv, ht, _⟩ := I.tuple hq
  have el : its.toArray.size = xs.length := by rw [List.size_toArray]; exact rv.length.symm
  rw [PyProof.Rows.assign_Tuple]
  refine wpAny_bind (wpAny_standAt ?_)
  unfold unpack
  rw [hn, hst]
  refine wpAny_bind (wpAny_holding (star_tup ht (I.ok.hd hc) hi (by rw [el]; exact hl) (by rw [el]; exact hz) fun h' tk hk => ?_))
  have I1 : Inv X pins σ H { s with heap := h' } := I.kept (t' := s.toks) hk
  have hf : H h'.objs.size = none := I1.hok.fresh (Nat.le_refl _)
  rw [el]
  have rm : Vals ((xs.drop i).take (xs.length + 1 - n)) ((its.toArray.toList.drop i).take (xs.length + 1 - n)) := by
    simpa using (rv.drop i).take (xs.length + 1 - n)
  have I2 : Inv X pins σ (upd H h'.objs.size (.lst ((xs.drop i).take (xs.length + 1 - n)))) { s with heap := h'.push { cls := .type "list", data := .seq ((its.toArray.toList.drop i).take (xs.length + 1 - n)).toArray }, toks := tk } := by
    refine I1.laid (t' := tk) (fun b o e => Heap.get?_push_of_some _ e) (Nat.le_refl _) ⟨?_, _, 0, rm, Heap.get?_push_size _ rfl⟩
    rw [List.length_take, List.length_drop, sizeLine_eq]; omega
  refine h.run pins _ σ _ _ _ Q I2 ?_ (hw _ hf)
  have r1 : Vals (xs.take i) (its.toArray.toList.take i) := by simpa using rv.take i
  have r3 : Vals ((xs.drop i).drop (xs.length + 1 - n)) ((its.toArray.toList.drop i).drop (xs.length + 1 - n)) := by simpa using (rv.drop i).drop (xs.length + 1 - n)
  have r2 : Vals [V.ref h'.objs.size] [Value.ref h'.objs.size] := .cons (show RelV (V.ref h'.objs.size) (Value.ref h'.objs.size) from rfl) .nil
  exact (r1.append r2).append r3
theorem pgs_star {t : TG} {u : TGs} (h1 : PG X e t) (h2 : PGs X es u) (hs : (assignEach (.Starred e spos :: es) X.env).map (·.2) = assign e X.env :: (assignEach es X.env).map (·.2) := by rfl) : PGs X (.Starred e spos :: es) (gCons t u) := by
  refine ⟨fun pins s σ H vs us Q I r h => ?_⟩
  obtain ⟨v, vr, e1, h⟩ := h
  subst e1
  cases r with
  | cons r rr =>
    rw [hs]
    refine assignInOrder_cons (thn (h1.run pins s σ H _ _ _ I r h) fun _ s1 ⟨σ1, H1, I1, q1⟩ => ?_)
    exact h2.run pins s1 σ1 H1 _ _ Q I1 rr q1
def wStar (n i : Nat) (gs : List PyData → Rho → Kap → (Rho → Kap → Prop) → Prop) : DTG := fun r ρ κ P => match r with
  | .d (.tuple xs) => i < n ∧ n ≤ xs.length + 1 ∧ xs.length ≤ 16384 ∧ gs (xs.take i ++ [.list ((xs.drop i).take (xs.length + 1 - n))] ++ (xs.drop i).drop (xs.length + 1 - n)) ρ κ P
  | _ => False
theorem dgs_star (h1 : DG X e js wg) (h2 : DGs X es is gs) (hs : (assignEach (.Starred e spos :: es) X.env).map (·.2) = assign e X.env :: (assignEach es X.env).map (·.2) := by rfl) : DGs X (.Starred e spos :: es) (js ++ is) (wgCons wg gs) := by
  obtain ⟨g, pg, h1⟩ := h1
  obtain ⟨u, pu, h2⟩ := h2
  refine ⟨_, pgs_star pg pu hs, fun G H As σ ρ κ vs xs P Q c p h w k => ?_⟩
  cases h with
  | nil => exact w.elim
  | cons r1 r2 =>
    refine ⟨_, _, rfl, ?_⟩
    refine h1 G H As σ ρ κ _ (.d _) _ _ c p r1 w fun σ1 ρ1 G1 H1 As1 κ1 a1 s1 c1 p1 w1 => ?_
    refine h2 G1 H1 As1 σ1 ρ1 κ1 _ _ _ _ c1 p1 (RpA.mono s1.ex _ _ r2) w1 fun σ2 ρ2 G2 H2 As2 κ2 a2 s2 c2 p2 w2 => ?_
    exact k σ2 ρ2 G2 H2 As2 κ2 (a1.trans a2) (s1.trans s2) c2 p2 w2
theorem dg_star {k n i : Nat} (hc : X.calm = true) (h : DGs X es js gs) (hn : (assignEach es X.env).length = n := by rfl) (hst : (assignEach es X.env).findIdx? (·.1) = some i := by rfl) : DG X (.Tuple es k pos) js (wStar n i gs) := by
  obtain ⟨g, pg, h⟩ := h
  refine ⟨_, pg_star hc pg hn hst, fun G H As σ ρ κ v r P Q c p i0 w k => ?_⟩
  unfold wStar at w
  split at w
  · rename_i xs
    obtain ⟨h1, h2, h3, w⟩ := w
    have i0 : Rp X.K G v (.tuple xs) := i0
    cases i0 with
    | tup q1 q2 =>
      have el := q2.len
      rename_i vs
      refine ⟨_, vs, rfl, ex_st c.ext q1, h1, by rw [el]; exact h2, by rw [el]; exact h3, fun D hD => ?_⟩
      rw [el]
      have st : Step G H As (upd G D (.lst ((vs.drop i).take (xs.length + 1 - n)))) (upd H D (.lst ((vs.drop i).take (xs.length + 1 - n)))) As := Step.laid c.ext hD
      have eG := st.ex
      refine h _ _ As σ ρ κ _ _ P Q (c.laid hD) (p.step st) ?_ w fun σ2 ρ2 G2 H2 As2 κ2 a2 s2 => k σ2 ρ2 G2 H2 As2 κ2 a2 (st.trans s2)
      have m := (q2.drop i).take (xs.length + 1 - n)
      exact ((RpA.mono eG _ _ (q2.take i)).app (.cons (.lst upd_same (RpA.mono eG _ _ m)) .nil)).app (RpA.mono eG _ _ ((q2.drop i).drop (xs.length + 1 - n)))
  · exact w.elim
end
end DL
/-! DLh: further statements over plain data. -/
namespace DL
open PySem PySem.Spec PyProof.Rows L2
section
variable {X : Cx} {pos : Pos} {e a b : Expr} {wr : DTA} {we : DTE}
/-- a, b = e1, e2 by a tuple (a name is a cell) -/
theorem ds_tt (i j : Nat) {x y : Str} {px py pt : Pos} {kt k2 : Nat} {pt2 : Pos} (hc : X.calm = true) (hN : X.N.Nodup) (ha : DA X [a, b] wr) (hi : X.N[i]? = some x := by rfl) (hj : X.N[j]? = some y := by rfl)
    (hx : Loc X.env.scope x := by first | exact Or.inl rfl | exact Or.inr rfl) (hy : Loc X.env.scope y := by first | exact Or.inl rfl | exact Or.inr rfl)
    (hf : X.fn x = true ∨ X.env.scope.names.lookup x = some .local := by first | exact .inl rfl | exact .inr rfl) (hf' : X.fn y = true ∨ X.env.scope.names.lookup y = some .local := by first | exact .inl rfl | exact .inr rfl)
    (hs : swapsWithSole [.Tuple [.Name x px, .Name y py] kt pt] (.Tuple [a, b] k2 pt2) pos.line X.env = pure false := by rfl) (hw : swappedStores [.Tuple [.Name x px, .Name y py] kt pt] (.Tuple [a, b] k2 pt2) X.env = pure none := by rfl) :
    DS X (.Assign [.Tuple [.Name x px, .Name y py] kt pt] (.Tuple [a, b] k2 pt2) pos) (wPar i j wr) := by
  obtain ⟨t, ptt, ha⟩ := ha
  refine ⟨_, ps_asg (pe_tup ptt) (pg_tup (n := 2) hc (pgs_cons (pg_name hN hi hx hf) (pgs_cons (pg_name hN hj hy hf') pgs_nil))) hs hw, fun G H As σ ρ κ E D c p w r => ?_⟩
  refine ha G H As σ ρ κ _ _ c p w fun vs rs G1 H1 As1 κ1 s1 c1 p1 i1 l1 w1 => ?_
  match rs, vs, i1, w1 with
  | [q1, q2], _, .cons (a := v1) h1 (.cons (a := v2) h2 .nil), w1 =>
    refine ⟨by show 2 ≤ sizeLine; decide, fun q hq => ?_⟩
    refine ⟨q, [v1, v2], rfl, sqt_of upd_same, rfl, v1, [v2], rfl, v2, [], rfl, rfl, ?_⟩
    have st : Step G1 H1 As1 G1 (upd H1 q (.tup [v1, v2])) As1 := Step.fresh hq
    exact r.nx _ _ G1 _ As1 κ1 (s1.trans st) (c1.fresh hq) ((p1.put i h1).put j h2) w1
  | [], _, _, w1 => exact w1.elim
  | [_], _, _, w1 => exact w1.elim
  | _ :: _ :: _ :: _, _, _, w1 => exact w1.elim
/-- x op= e, ints -/
def wAug (i : Nat) (f : Int → Int → Int) (we : DTE) : DTS := fun E ρ κ => match ρ[i]? with
  | some (some (.d (.int a))) => we ρ κ fun r κ1 => match r with
    | .d (.int b) => E.nx (ρ.set i (some (.d (.int (f a b))))) κ1
    | _ => False
  | _ => False
theorem ds_aug (i : Nat) {x : Str} {op : Operator} {f : Int → Int → Int} {pos' : Pos} (hN : X.N.Nodup) (ho : PIp X op (ipI f)) (he : DE X e we) (hi : X.N[i]? = some x := by rfl) (hx : Loc X.env.scope x := by first | exact Or.inl rfl | exact Or.inr rfl)
    (hf : X.fn x = true ∨ X.env.scope.names.lookup x = some .local := by first | exact .inl rfl | exact .inr rfl) : DS X (.AugAssign (.Name x pos') op e pos) (wAug i f we) := by
  obtain ⟨t, pt, he⟩ := he
  refine ⟨_, ps_aug hN hi hx pt ho hf, fun G H As σ ρ κ E D c p w r => ?_⟩
  unfold wAug at w
  split at w
  · rename_i a ha
    obtain ⟨v, h1, h2⟩ := p.ok i _ ha
    have h2 : Rp X.K G v (.int a) := h2
    cases h2
    refine ⟨_, h1, ?_⟩
    refine he G H As σ ρ κ _ _ c p w fun v q G1 H1 As1 κ1 s1 c1 p1 i1 w1 => ?_
    cases q with
    | d y =>
      cases y with
      | int b =>
        have i1 : Rp X.K G1 v (.int b) := i1
        cases i1
        exact ⟨a, b, rfl, rfl, r.nx _ _ G1 H1 As1 κ1 s1 c1 (p1.put i (r := .d (.int (f a b))) (.int _)) w1⟩
      | _ => exact w1.elim
    | _ => exact w1.elim
  · exact w.elim
/-- a module's constant -/
theorem de_glob {x : Str} {v : V} {u : Value} {d : PyData} {pos : Pos} (hm : X.mg x = some u) (r : RelV v u) (hx : ∀ G : Hp, Rp X.K G v d) (hg : Gl X x := by rfl) (hd : (x == ("__debug__" : Str)) = false := by decide) : DE X (.Name x pos) (wC d) := de_c (pe_glob hg hm r hd) hx
theorem de_globI {x : Str} {i : Int} {t : Tok} {pos : Pos} (hm : X.mg x = some (.int i t)) (hg : Gl X x := by rfl) (hd : (x == ("__debug__" : Str)) = false := by decide) : DE X (.Name x pos) (wC (.int i)) := de_glob (v := .int i) hm ⟨t, rfl⟩ (fun _ => .int i) hg hd
theorem de_globS {x z : Str} {t : Tok} {pos : Pos} (hm : X.mg x = some (.str z t)) (hg : Gl X x := by rfl) (hd : (x == ("__debug__" : Str)) = false := by decide) : DE X (.Name x pos) (wC (.str z)) := de_glob (v := .str z) hm ⟨t, rfl⟩ (fun _ => .str z) hg hd
end
theorem room65 {k : Nat} {A : Around} (r : RoomG k A) : A.units + 65 < cLine := by have := r.toRoom.un; omega
theorem room80 {k : Nat} {A : Around} (r : RoomG k A) : A.units + 80 < cLine := by have := r.toRoom.un; omega
end DL
/-! DLet: enumerate(xs), xs a list or a tuple. -/
namespace DL
open PySem PySem.Spec PyProof.Rows L2

theorem meets_enum1 {v : Value} {o : Obj} {H : Heap → Prop} (B : Begins v o H) : Meets (Builtin.«enumerate.__new__» ⟨[.type "enumerate", v], []⟩) (fun _ R s => H s.heap ∧
      R (.ok (.ret (.ref (s.heap.push o).objs.size))) { s with heap := (s.heap.push o).push { cls := .type "enumerate", data := .fields #[.none, .bool false, .ref s.heap.objs.size, rawInt 0, .none, .none] } }) :=
  .of_wp fun prog w A R s h => by
    obtain ⟨hp, g, d, tk, os⟩ := s
    obtain ⟨h1, h⟩ := h
    have hsub := sub_enumerate
    have q1 : ∀ {A' : Around} {E : Value → Shared → Prop} {Q : Value → Shared → Prop}, Q (.ref hp.objs.size) ⟨hp.push o, g, d, tk, os⟩ → wpAny (model prog w) A' (pyIter v) Q E ⟨hp, g, d, tk, os⟩ := fun q => B.iter prog w _ _ ⟨hp, g, d, tk, os⟩ _ h1 q
    wp_walk using q1
    refine wpAny_stack_any fun st => wpAny_pure ?_
    split
    · rename_i c _ _ _ _ _
      cases (c == Value.type "enumerate")
      · wp_walk using q1
        exact ⟨_, rfl, h⟩
      · wp_walk using q1
        exact ⟨_, rfl, h⟩
    · wp_walk using q1
      exact ⟨_, rfl, h⟩
section
variable {prog : Program} {w : World} {A : Around} {E : Value → Shared → Prop} {s : Shared}
theorem call_enum1 {v : Value} {o : Obj} {H : Heap → Prop} {Q : Value → Shared → Prop} (B : Begins v o H) (h1 : H s.heap)
    (h : ∀ h', IsEnum h' (s.heap.objs.size + 1) s.heap.objs.size 0 .none → h'.get? s.heap.objs.size = some o → h'.objs.size = s.heap.objs.size + 2 → (∀ b u, s.heap.get? b = some u → h'.get? b = some u) → Q (.ref (s.heap.objs.size + 1)) { s with heap := h' }) :
    wpAny (model prog w) A (call (.type "enumerate") [v]) Q E s := by
  refine callType_new F.called_enumerate (by decide) (F.typeCall_enumerate_1 _) (F.newCall_enumerate_1 _) (fun obj => F.args_object_init_2 obj _) F.entry_enumerate_new (meets_enum1 B) ⟨h1, ?_⟩
  have hz : (s.heap.push o).objs.size = s.heap.objs.size + 1 := Heap.size_push ..
  show _ ∧ _
  rw [hz]
  have he : IsEnum ((s.heap.push o).push { cls := .type "enumerate", data := .fields #[.none, .bool false, .ref s.heap.objs.size, rawInt 0, .none, .none] }) (s.heap.objs.size + 1) s.heap.objs.size 0 .none := by
    have := Heap.get?_push_size (s.heap.push o) (o := { cls := .type "enumerate", data := .fields #[.none, .bool false, .ref s.heap.objs.size, rawInt 0, .none, .none] }) rfl
    rw [hz] at this
    exact this
  exact ⟨⟨_, he, rfl⟩, h _ he (Heap.get?_push_of_some _ (Heap.get?_push_size _ B.free)) (by rw [Heap.size_push, hz]) fun b u x => Heap.get?_push_of_some _ (Heap.get?_push_of_some _ x)⟩
end
/-- the tuple at a, each item in a new pair -/
def IteT (K : PySem.W.Frag) (a : Addr) : L2.It :=
  ⟨fun i H => ∃ (xs : List V) (x : V), SqT K H a xs ∧ xs[i]? = some x, fun i H v H' => ∃ T x, v = .ref T ∧ H T = none ∧ H' = upd H T (.tup [.int (i : Nat), x]) ∧ ∀ xs, SqT K H a xs → xs[i]? = some x, fun i H => ∃ xs : List V, SqT K H a xs ∧ xs.length = i⟩
theorem turn_enumT {P : Program} {w : World} {K : PySem.W.Frag} {elts : List Expr} {kk : Nat} {tpos : Pos} (a e it : Addr) :
    Turn P w K (.Tuple elts kk tpos) (IteT K a) [e, it] e (fun i h => (∃ old, IsEnum h e it ((i : Nat) : Int) old) ∧ h.IsTupleIter it a i ∧ e ≠ it ∧ a ≠ it ∧ a ≠ e) where
  mem := by simp
  obj := fun i h st b hb => by
    obtain ⟨⟨old, he⟩, ⟨o, ho, hc, hd⟩, _⟩ := st
    rcases List.mem_cons.mp hb with z | z
    · rw [z]; exact ⟨_, he, fun v q => nomatch q⟩
    · rw [List.mem_singleton.mp z]; exact ⟨o, ho, fun v q => by rw [hd] at q; cases q⟩
  keep := fun i h h' st k => by
    obtain ⟨⟨old, he⟩, hi, hne⟩ := st
    exact ⟨⟨old, k e (by simp) _ he⟩, hi.at fun o q => k it (by simp) o q, hne⟩
  item := by
    intro X hP hw hK hc i pins s σ H E I hf st hg
    subst hP hw hK
    obtain ⟨⟨old, he⟩, hit, hne, nai, nae⟩ := st
    obtain ⟨xs, x, hq, hx⟩ := hg
    obtain ⟨its, rv, p, hz⟩ := I.tuple hq
    obtain ⟨u, hu, ru⟩ := rv.get hx
    have hel : e < s.heap.objs.size := Heap.lt_size he
    have hil : it < s.heap.objs.size := by obtain ⟨_, q, _⟩ := hit; exact Heap.lt_size q
    have hi' : i < its.toArray.size := by
      have := (List.getElem?_eq_some_iff.mp hu).1
      simpa using this
    refine wpAny_pyNext_enum_itemD (Draws.tuple (A := X.A.in1) (I.ok.hd hc) it a nai its.toArray) he ⟨hit, p⟩ hi' hne (by simp [hne, Ne.symm nae]) fun x' h' tk hx' ho hit' hT hsz hk => ?_
    have ex : x' = u := by
      have h1 : its.toArray[i]? = some x' := hx'
      have h2 : its.toArray[i]? = some u := by simpa using hu
      rw [h1] at h2
      exact Option.some.inj h2
    subst ex
    refine ⟨_, rfl, wpAny_letOwnedTupleGo_enum (s := { s with heap := h', toks := tk + 1 }) ho fun h'' he' sb => ?_⟩
    have hT2 : h''.get? s.heap.objs.size = some { cls := .type "tuple", data := .seq #[.int i tk, x'] } := (sb.2 _ (Nat.ne_of_gt hel)).trans hT
    have new : ObjOk X.prog X.w (upd H s.heap.objs.size (.tup [.int (i : Nat), x])) h'' s.heap.objs.size (.tup [.int (i : Nat), x]) :=
      ⟨by show 2 ≤ sizeLine; decide, [.int i tk, x'], .cons ⟨_, rfl⟩ (.cons ru .nil), ⟨_, hT2, rfl, _, rfl⟩⟩
    have I1 : Inv X pins σ (upd H s.heap.objs.size (.tup [.int (i : Nat), x])) { s with heap := h'', toks := tk + 1 } :=
      I.turnedNew (ch := [e, it]) (fun b o hb q => (sb.2 b (fun z => hb (by simp [z]))).trans (hk b o (fun z => hb (by simp [z])) (fun z => hb (by simp [z])) q)) hf (Nat.le_refl _) new
    refine ⟨.ref s.heap.objs.size, _, I1, rfl, ⟨_, x, rfl, I.hok.fresh (Nat.le_refl _), rfl, fun ys hy => ?_⟩, ⟨⟨x', ?_⟩, hit'.1.at fun o q => (sb.2 it (Ne.symm hne)).trans q, hne, nai, nae⟩, fun b hb => ?_⟩
    · obtain ⟨jts, rv2, p2, _⟩ := I.tuple hy
      rw [I.tuple_inj hy hq]; exact hx
    · have e1 : ((i + 1 : Nat) : Int) = (i : Int) + 1 := by omega
      rw [e1]; exact he'
    · have hb' : b < s.heap.objs.size := by
        rcases List.mem_cons.mp hb with z | z
        · rw [z]; exact hel
        · rw [List.mem_singleton.mp z]; exact hil
      rw [upd_ne (Nat.ne_of_lt hb')]
      exact (hf b hb).1
  done := by
    intro X hP hw hK hc i pins s σ H E I hf st hg
    subst hP hw hK
    obtain ⟨⟨old, he⟩, hit, hne, nai, nae⟩ := st
    obtain ⟨xs, hq, hx⟩ := hg
    obtain ⟨its, rv, p, hz⟩ := I.tuple hq
    obtain ⟨f0, f1, f2, f3, f4, f5⟩ := hf it (by simp)
    have hl := rv.length
    have ei : i = its.toArray.size := by rw [List.size_toArray]; omega
    subst ei
    exact wpAny_pyNext_enum_endD (Draws.tuple (A := X.A.in1) (I.ok.hd hc) it a nai its.toArray) he ⟨hit, p⟩ fun h' eb => ⟨rfl, I.turned (t' := s.toks) (fun b o hb q => eb b o hb q) f0 f1 f3 f4 f5⟩
  self := fun A i s Q E st h => by
    obtain ⟨⟨_, he⟩, _⟩ := st
    exact wpAny_pyIter_enum he h

def iEnumA (K : PySem.W.Frag) (ta : TA) : TI := fun σ H R => ta σ H fun vs H1 => ∃ a xs, vs = [.ref a] ∧ ((SqL K H1 a xs ∧ R (Ite K a) H1) ∨ (SqT K H1 a xs ∧ R (IteT K a) H1))
theorem pi_enumA {X : Cx} {e : Expr} {ta : TA} {p pos tpos : Pos} {elts : List Expr} {kk : Nat} (hg : Gl X "enumerate") (hm : X.mg "enumerate" = none) (ha : PA X [e] ta) (hs : starEach [e] X.env = [(false, eval e X.env)] := by rfl) :
    PI X (.Tuple elts kk tpos) (.Call (.Name "enumerate" p) [e] [] pos) (iEnumA X.K ta) := by
  refine ⟨fun pins s σ H R I h => ?_⟩
  refine Call_ (ld_blt I hg hm boot_enumerate (PyProof.Rows.callWith_type1 (thn (ha.run pos pins s σ H _ I h) fun us s1 ⟨vs, H1, I1, r1, a, xs, ex, q1⟩ => ?_) hs rfl))
  subst ex
  rw [Vals.ref1 r1]
  have two : ∀ {b : Addr}, b ∈ [s1.heap.objs.size + 1, s1.heap.objs.size] → s1.heap.objs.size ≤ b := fun {b} hb => by
    rcases List.mem_cons.mp hb with z | z
    · rw [z]; exact Nat.le_add_right _ _
    · rw [List.mem_singleton.mp z]; exact Nat.le_refl _
  rcases q1 with ⟨hq, q⟩ | ⟨hq, q⟩
  · obtain ⟨its, rv, p', hz⟩ := I1.list hq
    refine call_enumerate_list p'.isList fun h' he hit hsz hk => wpAny_pyIter_enum he ?_
    have I2 : Inv X pins σ H1 { s1 with heap := h' } := I1.kept (t' := s1.toks) hk
    exact ⟨s1.heap.objs.size + 1, [s1.heap.objs.size + 1, s1.heap.objs.size], _, _, H1, rfl, I2, turn_enum a (s1.heap.objs.size + 1) s1.heap.objs.size, ⟨⟨.none, he⟩, hit, Nat.succ_ne_self _⟩, fun b hb => I1.fpOk (two hb) (I1.hok.fresh (two hb)), q⟩
  · obtain ⟨its, rv, p', hz⟩ := I1.tuple hq
    have ha : a < s1.heap.objs.size := by obtain ⟨o, e, _⟩ := p'; exact Heap.lt_size e
    refine call_enum1 (begins_tuple a its.toArray) p' fun h' he hit hsz hk => wpAny_pyIter_enum he ?_
    have I2 : Inv X pins σ H1 { s1 with heap := h' } := I1.kept (t' := s1.toks) hk
    exact ⟨s1.heap.objs.size + 1, [s1.heap.objs.size + 1, s1.heap.objs.size], _, _, H1, rfl, I2, turn_enumT a (s1.heap.objs.size + 1) s1.heap.objs.size, ⟨⟨.none, he⟩, ⟨_, hit, rfl, rfl⟩, Nat.succ_ne_self _, Nat.ne_of_lt ha, Nat.ne_of_lt (Nat.lt_succ_of_lt ha)⟩, fun b hb => I1.fpOk (two hb) (I1.hok.fresh (two hb)), q⟩
section
variable {K : PySem.W.Frag} {G H G' H' : Hp} {As As' : List Addr} {κ : Kap} {v : V} {r : R}
theorem walk_enumT {a : Addr} {xs : List PyData} (i1 : It K G As (.ref a) r) : WalkOk K G As (IteT K a) (enumD 0 xs) fun κ' => val κ' r = some (.tuple xs) := by
  intro G' H' As' κ' e p c h
  obtain ⟨_, vs, ev, h1, h2⟩ := (i1.mono e p).vw c h |>.tup c.ext
  cases ev
  have l1 := h2.len
  refine ⟨fun i hi => ?_, ⟨vs, h1, by rw [enumD_len]; omega⟩, fun i v H'' x y hx => ?_⟩
  · rw [enumD_len] at hi
    have q1 : i < vs.length := by omega
    exact ⟨vs, _, h1, List.getElem?_eq_getElem q1⟩
  · obtain ⟨T, u, rfl, hT, rfl, f1⟩ := y
    obtain ⟨d1, e1, r1⟩ := h2.getV (f1 vs h1)
    obtain ⟨x1, g1, rfl⟩ := enumD_get hx
    rw [e1] at g1; cases g1
    rw [Nat.zero_add]
    exact pair_new (H' := H') c hT (.int _) r1
end
section
variable {X : Cx} {a : Expr} {wr : DTA} {pos p : Pos}
theorem di_enum {elts : List Expr} {kk : Nat} {tpos : Pos} (hm : X.mg "enumerate" = none) (ha : DA X [a] wr) (hg : Gl X "enumerate" := by rfl) (hs : starEach [a] X.env = [(false, eval a X.env)] := by rfl) : DI X (.Tuple elts kk tpos) (.Call (.Name "enumerate" p) [a] [] pos) (wEnum wr) := by
  obtain ⟨t, pt, ha⟩ := ha
  refine ⟨_, pi_enumA hg hm pt hs, fun G H As σ ρ κ P R c p w k => ?_⟩
  refine ha G H As σ ρ κ _ _ c p w fun vs rs G1 H1 As1 κ1 s1 c1 p1 i1 l1 w1 => ?_
  split at w1
  · rename_i r
    obtain ⟨x, ex, w2⟩ := w1.ex
    match vs, i1 with
    | [_], .cons z .nil =>
      cases x with
      | list xs =>
        obtain ⟨a, ws, rfl, h1, h2⟩ := z.vw c1 ex
        exact ⟨a, ws, rfl, .inl ⟨sql_of h1, k _ _ _ G1 H1 As1 κ1 s1 c1 p1 (walk_enum z) ex w2⟩⟩
      | tuple xs =>
        obtain ⟨a, ws, rfl, h1, h2⟩ := z.vw c1 ex |>.tup c1.ext
        exact ⟨a, ws, rfl, .inr ⟨h1, k _ _ _ G1 H1 As1 κ1 s1 c1 p1 (walk_enumT z) ex w2⟩⟩
      | _ => exact w2.elim
  · exact w1.elim
end
end DL
/-! DLi: a text's own defs called by place and by name, xs[::-1]. -/
namespace DL
open PySem PySem.Spec PyProof.Rows L2
/-- a def of the text that may be called by its name -/
structure Cal (P : Program) (w : World) (K : PySem.W.Frag) (mg : Str → Option Value) (base : Heap) (x : Str) (k : Nat) (ps : List Str) (sp : Sp) : Prop where
  ex : ∃ (f : Addr) (fd : FuncData), FnG P w K mg base CX0 k f fd ps sp ∧ mg x = some (.ref f) ∧ PySem.W.keepIn K (.ref f) = true ∧ Binds K fd ps []
theorem Cal.mono {P : Program} {w : World} {K : PySem.W.Frag} {mg : Str → Option Value} {base : Heap} {x : Str} {k j : Nat} {ps : List Str} {sp : Sp} (C : Cal P w K mg base x j ps sp) (h : j ≤ k) : Cal P w K mg base x k ps sp := by
  obtain ⟨f, fd, F, a, b, c⟩ := C.ex
  exact ⟨f, fd, F.mono h, a, b, c⟩
/-- what a list has at these places -/
def pick {α : Type} (p : List Nat) (xs : List α) : List α := p.filterMap fun i => xs[i]?
structure CalK (P : Program) (w : World) (K : PySem.W.Frag) (mg : Str → Option Value) (base : Heap) (x : Str) (k : Nat) (ps : List Str) (n : Nat) (ks : List Str) (p : List Nat) (sp : Sp) : Prop where
  ex : ∃ (f : Addr) (fd : FuncData), FnG P w K mg base CX0 k f fd ps sp ∧ mg x = some (.ref f) ∧ PySem.W.keepIn K (.ref f) = true ∧ KBn K fd ps n ks (fun us ws => pick p (us ++ ws)) (fun us ws => pick p (us ++ ws))
theorem CalK.mono {P : Program} {w : World} {K : PySem.W.Frag} {mg : Str → Option Value} {base : Heap} {x : Str} {k j : Nat} {ps : List Str} {n : Nat} {ks : List Str} {p : List Nat} {sp : Sp} (C : CalK P w K mg base x j ps n ks p sp) (h : j ≤ k) : CalK P w K mg base x k ps n ks p sp := by
  obtain ⟨f, fd, F, a, b, c⟩ := C.ex
  exact ⟨f, fd, F.mono h, a, b, c⟩
theorem Paired.pick {α β : Type} {R : α → β → Prop} {xs : List α} {ys : List β} (h : Paired R xs ys) : ∀ p : List Nat, Paired R (DL.pick p xs) (DL.pick p ys)
  | [] => .nil
  | i :: p => by
    have ih := Paired.pick h p
    have get : ∀ {xs : List α} {ys : List β} (i : Nat), Paired R xs ys → (xs[i]? = none ∧ ys[i]? = none) ∨ ∃ x y, xs[i]? = some x ∧ ys[i]? = some y ∧ R x y := fun {xs} => by
      induction xs with
      | nil => intro ys i h; cases h; exact .inl ⟨rfl, rfl⟩
      | cons x xs ih =>
        intro ys i h
        cases h with
        | cons r t =>
          cases i with
          | zero => exact .inr ⟨_, _, rfl, rfl, r⟩
          | succ i => simpa using ih i t
    unfold DL.pick at ih ⊢
    rcases get i h with ⟨e1, e2⟩ | ⟨x, y, e1, e2, r⟩
    · rw [List.filterMap_cons_none e1, List.filterMap_cons_none e2]; exact ih
    · rw [List.filterMap_cons_some e1, List.filterMap_cons_some e2]; exact .cons r ih
theorem Paired.app {α β : Type} {R : α → β → Prop} : ∀ {xs xs' : List α} {ys ys' : List β}, Paired R xs ys → Paired R xs' ys' → Paired R (xs ++ xs') (ys ++ ys')
  | _, _, _, _, .nil, q => q
  | _, _, _, _, .cons r t, q => .cons r (Paired.app t q)
theorem Fun.kbn {K : PySem.W.Frag} {x qual : Str} {st : Stmt} {f : Addr} {fd : FuncData} {ps : List Str} (F : Fun K x qual st f fd) (n : Nat) (ks : List Str) (p : List Nat)
    (h : ∀ (kV doc pm : Value) (an : Option Addr) (cdv ct : Value) (us ws : List Value), us.length = n → ws.length = ks.length → bindArgs (PySem.W.fnOf x qual (defArgs st) (defBody st) (defScope st) .none kV doc pm an cdv ct) ⟨us, ks.zip ws⟩ = pure (ps.zip (pick p (us ++ ws)))) :
    KBn K fd ps n ks (fun us ws => pick p (us ++ ws)) (fun us ws => pick p (us ++ ws)) := by
  obtain ⟨oc, od, kV, doc, pm, an, cdv, ct, osl, rfl, lk, hcd⟩ := F.ex
  exact ⟨fun s us ws _ h1 h2 => .of_eq (h kV doc pm an cdv ct us ws h1 h2), fun r1 r2 => Paired.pick (r1.append r2) p⟩
/-- names of built-ins that the text leaves as they are -/
structure Bi (mg : Str → Option Value) : Prop where
  len_ : mg "len" = none
  range_ : mg "range" = none
  zip_ : mg "zip" = none
  enumerate_ : mg "enumerate" = none
  reversed_ : mg "reversed" = none
  sorted_ : mg "sorted" = none
  list_ : mg "list" = none
  tuple_ : mg "tuple" = none
  int_ : mg "int" = none
  abs_ : mg "abs" = none
  min_ : mg "min" = none
  max_ : mg "max" = none
  all_ : mg "all" = none
  any_ : mg "any" = none
  isinstance_ : mg "isinstance" = none
  set_ : mg "set" = none
  dict_ : mg "dict" = none
  str_ : mg "str" = none
  repr_ : mg "repr" = none
  sum_ : mg "sum" = none
  bool_ : mg "bool" = none
section
variable {X : Cx} {k j n : Nat} {ps : List Str} {x : Str} {p pos : Pos} {e : Expr} {es : List Expr} {wr : DTA}
theorem de_callC {Φ : List R → (R → Prop) → Prop} (C : Cal X.prog X.w X.K X.mg X.base x k ps (spD X.K n Φ)) (hr : RoomG k X.A) (hn : n = (e :: es).length) (ha : DA X (e :: es) wr) (hg : Gl X x := by rfl) (hdb : (x == ("__debug__" : Str)) = false := by decide)
    (he : starEach (e :: es) X.env = (false, eval e X.env) :: starEach es X.env := by rfl) (hpl : (backTo pos (starEach es X.env)).any (·.1) = false := by rfl) : DE X (.Call (.Name x p) (e :: es) [] pos) (wCall Φ wr) := by
  obtain ⟨f, fd, F, hm, hk, hb⟩ := C.ex
  exact de_call F hr hm hk hb pass0 hn ha hg hdb he hpl
theorem de_callC_L {Φ : List PyData → List R → (R → List PyData → Prop) → Prop} (C : Cal X.prog X.w X.K X.mg X.base x k ps (spL X.K n Φ)) (hr : RoomG k X.A) (hn : n = (e :: es).length) (ha : DA X (e :: es) wr) (hg : Gl X x := by rfl) (hdb : (x == ("__debug__" : Str)) = false := by decide)
    (he : starEach (e :: es) X.env = (false, eval e X.env) :: starEach es X.env := by rfl) (hpl : (backTo pos (starEach es X.env)).any (·.1) = false := by rfl) : DE X (.Call (.Name x p) (e :: es) [] pos) (wCallL Φ wr) := by
  obtain ⟨f, fd, F, hm, hk, hb⟩ := C.ex
  exact de_callL F hr hm hk hb pass0 hn ha hg hdb he hpl

/-! ### by names -/
def DK (X : Cx) (kws : List Keyword) (w : DTA) : Prop := ∃ t, PK X kws t ∧ ∀ (G H : Hp) (As : List Addr) (σ : L2.St) (ρ : Rho) (κ : Kap) (P : List R → Kap → Prop) (Q : List V → Hp → Prop), Cells X.K G H As κ → Places X.K G As σ ρ → w ρ κ P →
  (∀ vs rs G' H' As' κ', Step G H As G' H' As' → Cells X.K G' H' As' κ' → Places X.K G' As' σ ρ → Paired (It X.K G' As') vs rs → rs.length = kws.length → P rs κ' → Q vs H') → t σ H Q
theorem dk_nil : DK X [] wNil := ⟨_, pk_nil, fun G H As σ ρ κ P Q c p w k => k [] [] G H As κ Step.refl c p .nil rfl w⟩
theorem dk_cons {wa : DTE} {kws : List Keyword} {nm : Option Str} {kpos : Pos} (ha : DE X e wa) (hr : DK X kws wr) : DK X (⟨nm, e, kpos⟩ :: kws) (wCons wa wr) := by
  obtain ⟨ta, pa, ha⟩ := ha
  obtain ⟨tr, pr, hr⟩ := hr
  refine ⟨_, pk_cons pa pr, fun G H As σ ρ κ P Q c p w k => ?_⟩
  refine ha G H As σ ρ κ _ _ c p w fun v1 r1 G1 H1 As1 κ1 s1 c1 p1 i1 w1 => ?_
  obtain ⟨G1', s1', c1', p1', i1', _⟩ := settle s1 c1 p1 i1
  refine hr G1' H1 As1 σ ρ κ1 _ _ c1' p1' w1 fun vs rs G2 H2 As2 κ2 s2 c2 p2 i2 l2 w2 => ?_
  exact k _ _ G2 H2 As2 κ2 (s1'.trans s2) c2 p2 (.cons (s2.it i1') i2) (congrArg (· + 1) l2) w2
def wCallK (Φ : List R → (R → Prop) → Prop) (q : List Nat) (wa wk : DTA) : DTE := fun ρ κ P => wa ρ κ fun rs κ1 => wk ρ κ1 fun ks κ2 => Opt (args κ2 (rs ++ ks)) fun z => Φ (pick q z.1) fun r => P r z.2
theorem args_len : ∀ {rs : List R} {κ κ' : Kap} {xs : List R}, args κ rs = some (xs, κ') → xs.length = rs.length
  | [], _, _, _, e => by cases e; rfl
  | r :: rs, κ, _, xs, e => by
    unfold args at e
    cases q : arg κ r with
    | none => rw [q] at e; cases e
    | some z =>
      obtain ⟨y, κ1⟩ := z
      rw [q] at e
      simp only at e
      cases q2 : args κ1 rs with
      | none => rw [q2] at e; cases e
      | some z2 =>
        obtain ⟨ys, κ2⟩ := z2
        rw [q2] at e
        cases e
        exact congrArg (· + 1) (args_len q2)
theorem kw_reads {Φ : List R → (R → Prop) → Prop} {q : List Nat} {t tk : TA} {wa wk : DTA} {n m l : Nat}
    (h : ∀ (G H : Hp) (As : List Addr) (σ : L2.St) (ρ : Rho) (κ : Kap) (P : List R → Kap → Prop) (Q : List V → Hp → Prop), Cells X.K G H As κ → Places X.K G As σ ρ → wa ρ κ P → (∀ vs rs G' H' As' κ', Step G H As G' H' As' → Cells X.K G' H' As' κ' → Places X.K G' As' σ ρ → Paired (It X.K G' As') vs rs → rs.length = n → P rs κ' → Q vs H') → t σ H Q)
    (hk : ∀ (G H : Hp) (As : List Addr) (σ : L2.St) (ρ : Rho) (κ : Kap) (P : List R → Kap → Prop) (Q : List V → Hp → Prop), Cells X.K G H As κ → Places X.K G As σ ρ → wk ρ κ P → (∀ vs rs G' H' As' κ', Step G H As G' H' As' → Cells X.K G' H' As' κ' → Places X.K G' As' σ ρ → Paired (It X.K G' As') vs rs → rs.length = m → P rs κ' → Q vs H') → tk σ H Q)
    (hq : ∀ {α : Type} (xs : List α), xs.length = n + m → (pick q xs).length = l)
    (G H : Hp) (As : List Addr) (σ : L2.St) (ρ : Rho) (κ : Kap) (P : R → Kap → Prop) (Q : VK) (E : XK) (c : Cells X.K G H As κ) (pl : Places X.K G As σ ρ) (w : wCallK Φ q wa wk ρ κ P)
    (kk : ∀ v r G' H' As' κ', Step G H As G' H' As' → Cells X.K G' H' As' κ' → Places X.K G' As' σ ρ → Rv X.K H G' H' As' v r → P r κ' → Q v H') : tCallN n m (spD X.K l Φ) (fun us ws => pick q (us ++ ws)) E t tk σ H Q := by
  refine h G H As σ ρ κ _ _ c pl w fun vs rs G1 H1 As1 κ1 s1 c1 p1 i1 l1 w1 => ?_
  refine hk G1 H1 As1 σ ρ κ1 _ _ c1 p1 w1 fun ws ks G2 H2 As2 κ2 s2 c2 p2 i2 l2 w2 => ?_
  obtain ⟨⟨xs, κ3⟩, ea, w3⟩ := w2.ex
  have e1 : vs.length = n := (Paired.length i1).trans l1
  have e2 : ws.length = m := (Paired.length i2).trans l2
  obtain ⟨G3, s3, c3, i3⟩ := args_ok c2 (Paired.app (Paired.mapP i1 fun _ _ z => s2.it z) i2) ea
  refine ⟨e1, e2, hq _ (by rw [List.length_append, e1, e2]), G3, _, _, c3.ext, Paired.pick i3 q, w3, fun v r G' H' hP hE s4 rv => ?_⟩
  have st0 : Step G H As G3 H2 As2 := (s1.trans s2).trans s3
  have st : Step G H As G' H' As2 := st0.trans s4.wide
  exact kk v r G' H' As2 κ3 st (c3.call s4 hE) (pl.step st) ((rv.wide c3).back st0) hP
/-- f(e, .., k = v, ..) -/
theorem de_callK {Φ : List R → (R → Prop) → Prop} {ks : List Str} {q : List Nat} {kws : List Keyword} {wk : DTA} {l : Nat} (C : CalK X.prog X.w X.K X.mg X.base x k ps n ks q (spD X.K l Φ)) (hr : RoomG k X.A) (hn : n = (e :: es).length) (hm : ks.length = kws.length) (ha : DA X (e :: es) wr) (hkw : DK X kws wk)
    (hq : ∀ {α : Type} (xs : List α), xs.length = n + ks.length → (pick q xs).length = l)
    (hall : (backToKw pos (keywordEach kws X.env)).all (·.1.isSome) = true := by rfl) (hks : (backToKw pos (keywordEach kws X.env)).filterMap (·.1) = ks := by rfl) (hg : Gl X x := by rfl) (hdb : (x == ("__debug__" : Str)) = false := by decide)
    (he : starEach (e :: es) X.env = (false, eval e X.env) :: starEach es X.env := by rfl) (hpl : ((backTo pos (starEach (e :: es) X.env)).any (·.1) || (backToKw pos (keywordEach kws X.env)).any (·.1.isNone)) = false := by rfl) :
    DE X (.Call (.Name x p) (e :: es) kws pos) (wCallK Φ q wr wk) := by
  obtain ⟨f, fd, F, hmg, hk, hb⟩ := C.ex
  obtain ⟨t, pt, h⟩ := ha
  obtain ⟨tk, ptk, hk2⟩ := hkw
  refine ⟨_, pe_callNG F hr hg hmg hk hb pass0 pt ptk hall hks hdb he hpl, fun G H As σ ρ κ P Q c pl w kk => ?_⟩
  exact kw_reads (by rw [hn]; exact h) (by rw [hm]; exact hk2) hq G H As σ ρ κ P Q _ c pl w kk
/-- f(k = v, ..) -/
theorem de_callK0 {Φ : List R → (R → Prop) → Prop} {ks : List Str} {q : List Nat} {kws : List Keyword} {wk : DTA} {l : Nat} (C : CalK X.prog X.w X.K X.mg X.base x k ps 0 ks q (spD X.K l Φ)) (hr : RoomG k X.A) (hm : ks.length = kws.length) (hkw : DK X kws wk)
    (hq : ∀ {α : Type} (xs : List α), xs.length = 0 + ks.length → (pick q xs).length = l)
    (hall : (backToKw pos (keywordEach kws X.env)).all (·.1.isSome) = true := by rfl) (hks : (backToKw pos (keywordEach kws X.env)).filterMap (·.1) = ks := by rfl) (hg : Gl X x := by rfl) (hdb : (x == ("__debug__" : Str)) = false := by decide)
    (hpl : ((backTo pos (starEach [] X.env)).any (·.1) || (backToKw pos (keywordEach kws X.env)).any (·.1.isNone)) = false := by rfl) :
    DE X (.Call (.Name x p) [] kws pos) (wCallK Φ q wNil wk) := by
  obtain ⟨f, fd, F, hmg, hk, hb⟩ := C.ex
  obtain ⟨tk, ptk, hk2⟩ := hkw
  refine ⟨_, pe_callN0G F hr hg hmg hk hb pass0 ptk hall hks hdb hpl, fun G H As σ ρ κ P Q c pl w kk => ?_⟩
  refine kw_reads (n := 0) (t := tNil) ?_ (by rw [hm]; exact hk2) hq G H As σ ρ κ P Q _ c pl w kk
  exact fun G H As σ ρ κ P Q c p w k => k [] [] G H As κ Step.refl c p .nil rfl w
/-! xs[::-1] -/
def wRevS (wa : DTE) : DTE := fun ρ κ P => wa ρ κ fun r κ1 => Opt (val κ1 r.st) fun y => match y with
  | .list xs => P (.f xs.reverse) κ1
  | _ => False
theorem de_revS {wa : DTE} {kk : Nat} {p1 p2 p3 : Pos} (ha : DE X e wa) : DE X (.Subscript e (.Slice none none (some (.UnaryOp .USub (.Constant (.int 1) kk p1) p2)) p3) pos) (wRevS wa) := by
  obtain ⟨t, pt, ha⟩ := ha
  refine ⟨_, pe_revL pt, fun G H As σ ρ κ P Q c p w k => ?_⟩
  refine ha G H As σ ρ κ _ _ c p w fun v r G1 H1 As1 κ1 s1 c1 p1 i1 w1 => ?_
  obtain ⟨G1', s1', c1', p1', i1', _⟩ := settle s1 c1 p1 i1
  obtain ⟨y, ey, w2⟩ := w1.ex
  cases y with
  | list xs =>
    obtain ⟨a, vs, rfl, h1, h2⟩ := i1'.vw c1' ey
    exact ⟨a, vs, rfl, sql_of h1, fun q hq => out_ok (P := P) s1' c1' p1' (.n xs.reverse) w2 k q _ hq h2.rev⟩
  | _ => exact w2.elim
end
end DL
/-! DLs: the readings opened one by one, for simp. -/
namespace DL
open PySem PySem.Spec PyProof.Rows L2
section
variable {E : DEnds} {ρ : Rho} {κ : Kap} {P : R → Kap → Prop} {wa wb we : DTE} {wr : DTA} {wt wu : DTT} {g : DTG} {a b : DTS}
@[simp] theorem st_d (x : PyData) : (R.d x).st = .d x := rfl
@[simp] theorem st_c (k : Nat) : (R.c k).st = .c k := rfl
@[simp] theorem st_f (xs : List PyData) : (R.f xs).st = .d (.list xs) := rfl
@[simp] theorem st_s (ns : List Int) : (R.s ns).st = .s ns := rfl
@[simp] theorem val_d (x : PyData) : val κ (.d x) = some x := rfl
@[simp] theorem val_f (xs : List PyData) : val κ (.f xs) = some (.list xs) := rfl
theorem val_c {k : Nat} {xs : List PyData} (h : κ[k]? = some (.l xs)) : val κ (.c k) = some (.list xs) := by unfold val; simp only [h]
@[simp] theorem val_c0 (xs : List PyData) (κ : Kap) : val (.l xs :: κ) (.c 0) = some (.list xs) := rfl
@[simp] theorem val_c1 (c : Cell) (xs : List PyData) (κ : Kap) : val (c :: .l xs :: κ) (.c 1) = some (.list xs) := rfl
@[simp] theorem dat_d (x : PyData) : dat κ (.d x) = some (x, κ) := rfl
@[simp] theorem dat_f (xs : List PyData) : dat κ (.f xs) = some (.list xs, κ) := rfl
@[simp] theorem arg_d (x : PyData) : arg κ (.d x) = some (.d x, κ) := rfl
@[simp] theorem arg_s (ns : List Int) : arg κ (.s ns) = some (.s ns, κ) := rfl
@[simp] theorem dats_nil : dats κ [] = some ([], κ) := rfl
@[simp] theorem dats_d (x : PyData) (rs : List R) : dats κ (.d x :: rs) = (match dats κ rs with
  | some (xs, κ1) => some (x :: xs, κ1)
  | none => none) := rfl
@[simp] theorem args_nil : args κ [] = some ([], κ) := rfl
@[simp] theorem args_d (x : PyData) (rs : List R) : args κ (.d x :: rs) = (match args κ rs with
  | some (xs, κ1) => some (.d x :: xs, κ1)
  | none => none) := rfl
@[simp] theorem args_s (ns : List Int) (rs : List R) : args κ (.s ns :: rs) = (match args κ rs with
  | some (xs, κ1) => some (.s ns :: xs, κ1)
  | none => none) := rfl
@[simp] theorem vals_nil : vals κ [] = some [] := rfl
@[simp] theorem vals_cons (r : R) (rs : List R) : vals κ (r :: rs) = (match val κ r, vals κ rs with
  | some x, some xs => some (x :: xs)
  | _, _ => none) := rfl
@[simp] theorem Opt_some {α : Type} (x : α) (k : α → Prop) : Opt (some x) k = k x := rfl
@[simp] theorem Opt_none {α : Type} (k : α → Prop) : Opt none k = False := rfl
@[simp] theorem s_var (i : Nat) : wVar i ρ κ P = (match ρ[i]? with
  | some (some r) => P r κ
  | _ => False) := rfl
@[simp] theorem s_c (x : PyData) : wC x ρ κ P = P (.d x) κ := rfl
@[simp] theorem s_bin (f : PyData → PyData → Option Out) : wBin f wa wb ρ κ P = wa ρ κ fun r1 κ1 => wb ρ κ1 fun r2 κ2 => Opt (val κ2 r1.st) fun x => Opt (val κ2 r2.st) fun y => Opt (f x y) fun o => P o.r κ2 := rfl
@[simp] theorem s_un (f : PyData → Option Out) : wUn f wa ρ κ P = wa ρ κ fun r1 κ1 => Opt (val κ1 r1.st) fun x => Opt (f x) fun o => P o.r κ1 := rfl
@[simp] theorem s_cb (f : List PyData → Option Out) : wCB f wr ρ κ P = wr ρ κ fun rs κ1 => Opt (vals κ1 rs) fun xs => Opt (f xs) fun o => P o.r κ1 := rfl
@[simp] theorem s_nil (P : List R → Kap → Prop) : wNil ρ κ P = P [] κ := rfl
@[simp] theorem s_cons (P : List R → Kap → Prop) : wCons wa wr ρ κ P = wa ρ κ fun r κ1 => wr ρ κ1 fun rs κ2 => P (r.st :: rs) κ2 := rfl
@[simp] theorem s_consM (m : Bool) (P : List R → Kap → Prop) : wConsM m wa wr ρ κ P = wa ρ κ fun r κ1 => wr ρ (sto m r κ1).2 fun rs κ2 => P ((sto m r κ1).1 :: rs) κ2 := rfl
@[simp] theorem s_tup : wTup wr ρ κ P = wr ρ κ fun rs κ1 => Opt (dats κ1 rs) fun q => q.1.length ≤ sizeLine ∧ P (.d (.tuple q.1)) q.2 := rfl
@[simp] theorem s_lst : wLst wr ρ κ P = wr ρ κ fun rs κ1 => Opt (dats κ1 rs) fun q => q.1.length ≤ sizeLine ∧ P (.f q.1) q.2 := rfl
@[simp] theorem s_call (Φ : List R → (R → Prop) → Prop) : wCall Φ wr ρ κ P = wr ρ κ fun rs κ1 => Opt (args κ1 rs) fun q => Φ q.1 fun r => P r q.2 := rfl
@[simp] theorem s_callL (Φ : List PyData → List R → (R → List PyData → Prop) → Prop) : wCallL Φ wr ρ κ P = wr ρ κ fun rs κ1 => Opt (lend κ1 rs) fun q => Φ q.2.1 q.2.2.1 fun r bs => P (r.lab q.1) (q.2.2.2.set q.1 (.l bs)) := rfl
@[simp] theorem s_callK (Φ : List R → (R → Prop) → Prop) (q : List Nat) (wk : DTA) : wCallK Φ q wr wk ρ κ P = wr ρ κ fun rs κ1 => wk ρ κ1 fun ks κ2 => Opt (args κ2 (rs ++ ks)) fun z => Φ (pick q z.1) fun r => P r z.2 := rfl
@[simp] theorem lab_d (k : Nat) (x : PyData) : (R.d x).lab k = .d x := rfl
@[simp] theorem lab_f (k : Nat) (x : List PyData) : (R.f x).lab k = .f x := rfl
@[simp] theorem lend_c (k : Nat) (rs : List R) : lend κ (.c k :: rs) = (match args κ rs with
  | some (xs, κ1) => match κ1[k]? with
    | some (.l bs) => some (k, bs, xs, κ1)
    | _ => none
  | none => none) := rfl
@[simp] theorem s_tru (P : Bool → Kap → Prop) : wTru wa ρ κ P = wa ρ κ fun r κ1 => Opt (val κ1 r.st) fun x => Opt (truth x) fun b => P b κ1 := rfl
@[simp] theorem s_B (P : Bool → Kap → Prop) : wB wa ρ κ P = wa ρ κ fun r κ1 => match r with
  | .d (.bool b) => P b κ1
  | _ => False := rfl
@[simp] theorem s_not (P : Bool → Kap → Prop) : wNot wt ρ κ P = wt ρ κ fun b κ1 => P (!b) κ1 := rfl
@[simp] theorem s_and (P : Bool → Kap → Prop) : wAnd wt wu ρ κ P = wt ρ κ fun b κ1 => if b = true then wu ρ κ1 P else P false κ1 := rfl
@[simp] theorem s_or (P : Bool → Kap → Prop) : wOr wt wu ρ κ P = wt ρ κ fun b κ1 => if b = true then P true κ1 else wu ρ κ1 P := rfl
@[simp] theorem s_andV : wAndV wa wb ρ κ P = wa ρ κ fun r κ1 => match r with
  | .d (.bool z) => if z = true then wb ρ κ1 P else P (.d (.bool false)) κ1
  | _ => False := rfl
@[simp] theorem s_orV : wOrV wa wb ρ κ P = wa ρ κ fun r κ1 => match r with
  | .d (.bool z) => if z = true then P (.d (.bool true)) κ1 else wb ρ κ1 P
  | _ => False := rfl
@[simp] theorem s_notV : wNotV wa ρ κ P = wa ρ κ fun r κ1 => match r with
  | .d (.bool z) => P (.d (.bool (!z))) κ1
  | _ => False := rfl
@[simp] theorem s_ifx : wIf wt wa wb ρ κ P = wt ρ κ fun z κ1 => if z = true then wa ρ κ1 P else wb ρ κ1 P := rfl
@[simp] theorem s_name (i : Nat) (r : R) (P : Rho → Kap → Prop) : wName i r ρ κ P = P (ρ.set i (some r)) κ := rfl
@[simp] theorem s_tupG (n : Nat) (gs : List PyData → Rho → Kap → (Rho → Kap → Prop) → Prop) (xs : List PyData) (P : Rho → Kap → Prop) : wTupG n gs (.d (.tuple xs)) ρ κ P = (xs.length = n ∧ gs xs ρ κ P) := rfl
@[simp] theorem s_gcons (gs : List PyData → Rho → Kap → (Rho → Kap → Prop) → Prop) (x : PyData) (xs : List PyData) (P : Rho → Kap → Prop) : wgCons g gs (x :: xs) ρ κ P = g (.d x) ρ κ fun ρ1 κ1 => gs xs ρ1 κ1 P := rfl
@[simp] theorem s_gnil (P : Rho → Kap → Prop) : wgNil [] ρ κ P = P ρ κ := rfl
@[simp] theorem s_star (n i : Nat) (gs : List PyData → Rho → Kap → (Rho → Kap → Prop) → Prop) (xs : List PyData) (P : Rho → Kap → Prop) : wStar n i gs (.d (.tuple xs)) ρ κ P = (i < n ∧ n ≤ xs.length + 1 ∧ xs.length ≤ 16384 ∧ gs (xs.take i ++ [.list ((xs.drop i).take (xs.length + 1 - n))] ++ (xs.drop i).drop (xs.length + 1 - n)) ρ κ P) := rfl
@[simp] theorem s_next : wNext E ρ κ = E.nx ρ κ := rfl
@[simp] theorem s_seq : wSeq a b E ρ κ = a { E with nx := b E } ρ κ := rfl
@[simp] theorem s_asg : wAsg we g E ρ κ = we ρ κ fun r κ1 => g r.st ρ κ1 E.nx := rfl
@[simp] theorem s_set (m : Bool) (i : Nat) : wSet m i we E ρ κ = we ρ κ fun r κ1 => E.nx (ρ.set i (some (sto m r κ1).1)) (sto m r κ1).2 := rfl
@[simp] theorem sto_t (xs : List PyData) : sto true (.f xs) κ = (.c κ.length, κ ++ [.l xs]) := rfl
@[simp] theorem sto_f (r : R) : sto false r κ = (r.st, κ) := by cases r <;> rfl
@[simp] theorem sto_d (m : Bool) (x : PyData) : sto m (.d x) κ = (.d x, κ) := by cases m <;> rfl
@[simp] theorem sto_c (m : Bool) (k : Nat) : sto m (.c k) κ = (.c k, κ) := by cases m <;> rfl
@[simp] theorem s_par (i j : Nat) : wPar i j wr E ρ κ = wr ρ κ fun rs κ1 => match rs with
  | [r, q] => E.nx ((ρ.set i (some r)).set j (some q)) κ1
  | _ => False := rfl
@[simp] theorem s_drop : wDrop we E ρ κ = we ρ κ fun _ κ1 => E.nx ρ κ1 := rfl
@[simp] theorem s_ret : wRet we E ρ κ = we ρ κ E.rt := rfl
@[simp] theorem s_retN : wRetN E ρ κ = E.rt (.d .none) κ := rfl
@[simp] theorem s_if : wIfS wt a b E ρ κ = wt ρ κ fun z κ1 => if z = true then a E ρ κ1 else b E ρ κ1 := rfl
@[simp] theorem s_brk : wBrk E ρ κ = E.bk ρ κ := rfl
@[simp] theorem s_cnt : wCnt E ρ κ = E.ct ρ κ := rfl
@[simp] theorem s_for (wi : DTI) : wFor wi g b E ρ κ = wi ρ κ fun xs ok κ1 => forL ok g b E xs ρ κ1 := rfl
@[simp] theorem s_lc (wi : DTI) (vs : List Nat) : wLc wi g wt we vs ρ κ P = wi ρ κ fun xs ok κ1 => lcL ok g wt we (wipeR ρ vs) P xs [] κ1 := rfl
@[simp] theorem s_yes (P : Bool → Kap → Prop) : wYes ρ κ P = P true κ := rfl
@[simp] theorem s_sq (P : List PyData → (Kap → Prop) → Kap → Prop) : wSq we ρ κ P = we ρ κ fun r κ1 => Opt (val κ1 r.st) fun x => match x with
  | .list xs => P xs (fun κ' => val κ' r.st = some (.list xs)) κ1
  | .tuple xs => P xs (fun κ' => val κ' r.st = some (.tuple xs)) κ1
  | .str z => P (z.cps.toList.map fun c => .str ⟨#[c]⟩) (fun _ => True) κ1
  | _ => False := rfl
@[simp] theorem s_rng1 (P : List PyData → (Kap → Prop) → Kap → Prop) : wRng1 wr ρ κ P = wr ρ κ fun rs κ1 => match rs with
  | [.d (.int n)] => -(2 ^ 62) ≤ n ∧ n < 2 ^ 62 ∧ P ((List.range n.toNat).map fun (i : Nat) => .int (0 + (i : Int))) (fun _ => True) κ1
  | _ => False := rfl
@[simp] theorem s_rev (P : List PyData → (Kap → Prop) → Kap → Prop) : wRev wr ρ κ P = wr ρ κ fun rs κ1 => match rs with
  | [r] => Opt (val κ1 r) fun x => match x with
    | .list xs => P xs.reverse (fun κ' => val κ' r = some (.list xs)) κ1
    | _ => False
  | _ => False := rfl
@[simp] theorem s_enum (P : List PyData → (Kap → Prop) → Kap → Prop) : wEnum wr ρ κ P = wr ρ κ fun rs κ1 => match rs with
  | [r] => Opt (val κ1 r) fun x => match x with
    | .list xs => P (enumD 0 xs) (fun κ' => val κ' r = some (.list xs)) κ1
    | .tuple xs => P (enumD 0 xs) (fun κ' => val κ' r = some (.tuple xs)) κ1
    | _ => False
  | _ => False := rfl
@[simp] theorem s_zip (P : List PyData → (Kap → Prop) → Kap → Prop) : wZip wr ρ κ P = wr ρ κ fun rs κ1 => match rs with
  | [r, q] => Opt (val κ1 r) fun x => Opt (val κ1 q) fun y => match x, y with
    | .list xs, .list ys => P (zipD xs ys) (fun κ' => val κ' r = some (.list xs) ∧ val κ' q = some (.list ys)) κ1
    | .tuple xs, .tuple ys => P (zipD xs ys) (fun κ' => val κ' r = some (.tuple xs) ∧ val κ' q = some (.tuple ys)) κ1
    | _, _ => False
  | _ => False := rfl
@[simp] theorem forL_nil (ok : Kap → Prop) : forL ok g b E [] ρ κ = E.nx ρ κ := rfl
@[simp] theorem forL_cons (ok : Kap → Prop) (x : PyData) (xs : List PyData) : forL ok g b E (x :: xs) ρ κ = g (.d x) ρ κ fun ρ1 κ1 => b { nx := fun ρ2 κ2 => ok κ2 ∧ forL ok g b E xs ρ2 κ2, rt := E.rt, bk := E.nx, ct := fun ρ2 κ2 => ok κ2 ∧ forL ok g b E xs ρ2 κ2 } ρ1 κ1 := rfl
@[simp] theorem lcL_nil (ok : Kap → Prop) (acc : List PyData) : lcL ok g wt we ρ P [] acc κ = P (.f acc) κ := rfl
@[simp] theorem lcL_cons (ok : Kap → Prop) (x : PyData) (xs acc : List PyData) : lcL ok g wt we ρ P (x :: xs) acc κ = g (.d x) ρ κ fun ρ1 κ1 => wt ρ1 κ1 fun b κ2 => if b = true then we ρ1 κ2 fun r κ3 => Opt (dat κ3 r.st) fun q => acc.length < sizeLine ∧ ok q.2 ∧ lcL ok g wt we ρ P xs (acc ++ [q.1]) q.2 else ok κ2 ∧ lcL ok g wt we ρ P xs acc κ2 := rfl
@[simp] theorem wipeR_nil : wipeR ρ [] = ρ := rfl
@[simp] theorem wipeR_cons (v : Nat) (vs : List Nat) : wipeR ρ (v :: vs) = (wipeR ρ vs).set v none := rfl
@[simp] theorem s_append : wAppend wa wb ρ κ P = wa ρ κ fun ro κ1 => (match ro with
  | .c k => (∃ zs, κ1[k]? = some (.l zs)) ∧ wb ρ κ1 fun r κ2 => Opt (dat κ2 r.st) fun q => match q.2[k]? with
    | some (.l xs) => xs.length < sizeLine ∧ P (.d .none) (q.2.set k (.l (xs ++ [q.1])))
    | _ => False
  | _ => False) := rfl
@[simp] theorem s_sub (r : R) (P : Rho → Kap → Prop) : wSub wa wb r ρ κ P = Opt (dat κ r) fun q => wa ρ q.2 fun ro κ1 => match ro with
  | .c k => wb ρ κ1 fun ri κ2 => match ri, κ2[k]? with
    | .d (.int i), some (.l xs) => Opt (ixN xs.length i) fun j => P ρ (κ2.set k (.l (xs.set j q.1)))
    | _, _ => False
  | _ => False := rfl
@[simp] theorem out_v (x : PyData) : (Out.v x).r = .d x := rfl
@[simp] theorem out_n (xs : List PyData) : (Out.n xs).r = .f xs := rfl
@[simp] theorem out_t (xs : List PyData) : (Out.t xs).r = .d (.tuple xs) := rfl
@[simp] theorem outR_d (n : Nat) (x : PyData) : outR κ n (.d x) = some (.d x) := rfl
@[simp] theorem outR_f (n : Nat) (x : List PyData) : outR κ n (.f x) = some (.f x) := rfl
@[simp] theorem endL_d (bs : List PyData) (κ : Kap) (x : PyData) (Pd : R → List PyData → Prop) : endL (.l bs :: κ) (.d x) Pd = Pd (.d x) bs := rfl
@[simp] theorem endL_f (bs : List PyData) (κ : Kap) (x : List PyData) (Pd : R → List PyData → Prop) : endL (.l bs :: κ) (.f x) Pd = Pd (.f x) bs := rfl
@[simp] theorem s_isi (T : Ty) : wIsi T wa ρ κ P = wa ρ κ fun r κ1 => Opt (val κ1 r.st) fun x => P (.d (.bool (isi x T))) κ1 := rfl
@[simp] theorem s_isi2 (T U : Ty) : wIsi2 T U wa ρ κ P = wa ρ κ fun r κ1 => Opt (val κ1 r.st) fun x => P (.d (.bool (isi x T || isi x U))) κ1 := rfl
@[simp] theorem s_bm (T : String) (f : PyData → List PyData → Option Out) : wBM T f wa wr ρ κ P = wa ρ κ fun r κ1 => Opt (val κ1 r.st) fun x0 => tyOk T x0 ∧ wr ρ κ1 fun rs κ2 => Opt (val κ2 r.st) fun x => Opt (vals κ2 rs) fun xs => Opt (f x xs) fun o => P o.r κ2 := rfl
@[simp] theorem s_scr : wScr wa wb ρ κ P = wa ρ κ fun r κ1 => match r with
  | .s ns => wb ρ κ1 fun q κ2 => match q with
    | .d (.int i) => Opt (atI ns i) fun n => P (.d (.int n)) κ2
    | _ => False
  | _ => False := rfl
@[simp] theorem s_lenS : wLenS wa ρ κ P = wa ρ κ fun r κ1 => match r with
  | .s ns => P (.d (.int ns.length)) κ1
  | _ => False := rfl
@[simp] theorem s_sl (wl wh : DTO) : wSl we wl wh ρ κ P = we ρ κ fun r κ1 => wl ρ κ1 fun lo κ2 => wh ρ κ2 fun hi κ3 => Opt (val κ3 r.st) fun x => Opt (slD x lo hi) fun o => P o.r κ3 := rfl
@[simp] theorem s_noP (P : Option Int → Kap → Prop) : wNoP ρ κ P = P none κ := rfl
@[simp] theorem s_P (P : Option Int → Kap → Prop) : wP we ρ κ P = we ρ κ fun r κ1 => match r with
  | .d (.int i) => P (some i) κ1
  | _ => False := rfl
@[simp] theorem s_revS : wRevS wa ρ κ P = wa ρ κ fun r κ1 => Opt (val κ1 r.st) fun y => match y with
  | .list xs => P (.f xs.reverse) κ1
  | _ => False := rfl
@[simp] theorem s_aug (i : Nat) (f : Int → Int → Int) : wAug i f we E ρ κ = (match ρ[i]? with
  | some (some (.d (.int a))) => we ρ κ fun r κ1 => match r with
    | .d (.int b) => E.nx (ρ.set i (some (.d (.int (f a b))))) κ1
    | _ => False
  | _ => False) := rfl
/-! values -/
@[simp] theorem addD_int (i j : Int) : addD (.int i) (.int j) = some (.v (.int (i + j))) := rfl
theorem addD_list {xs ys : List PyData} (h : xs.length + ys.length ≤ sizeLine) : addD (.list xs) (.list ys) = some (.n (xs ++ ys)) := if_pos h
theorem addD_tuple {xs ys : List PyData} (h : xs.length + ys.length ≤ sizeLine) : addD (.tuple xs) (.tuple ys) = some (.t (xs ++ ys)) := if_pos h
theorem addD_str {x y : Str} (h : x.length + y.length ≤ sizeLine) : addD (.str x) (.str y) = some (.v (.str (x ++ y))) := if_pos h
@[simp] theorem subD_int (i j : Int) : subD (.int i) (.int j) = some (.v (.int (i - j))) := rfl
theorem modD_int {i j : Int} (h : 0 < j) : modD (.int i) (.int j) = some (.v (.int (i % j))) := by
  unfold modD intD
  simp only [if_pos h]
  rfl
theorem fdivD_int {i j : Int} (h : 0 < j) (h2 : j < 1073741824) : fdivD (.int i) (.int j) = some (.v (.int (i / j))) := by
  unfold fdivD intD
  simp only [if_pos (And.intro h h2)]
  rfl
theorem powD_int {i j : Int} (h : 0 ≤ j) (h2 : j ≤ 1000000) (h3 : i.natAbs < 2 ^ 64) : powD (.int i) (.int j) = some (.v (.int (i ^ j.toNat))) := by
  unfold powD intD
  simp only [if_pos (And.intro h (And.intro h2 h3))]
  rfl
theorem mulD_int {i j : Int} (h : CMul i j) : mulD (.int i) (.int j) = some (.v (.int (i * j))) := by
  unfold mulD
  simp only [if_pos h]
@[simp] theorem negD_int (i : Int) : negD (.int i) = some (.v (.int (-i))) := rfl
@[simp] theorem ordD_int (fi : Int → Int → Bool) (fs : List Nat → List Nat → Bool) (i j : Int) : ordD fi fs (.int i) (.int j) = some (.v (.bool (fi i j))) := rfl
@[simp] theorem ciD_int (f : Int → Int → Bool) (i j : Int) : ciD f (.int i) (.int j) = some (.v (.bool (f i j))) := rfl
theorem eqD_of {neg : Bool} {x y : PyData} (hx : SeqAt.shaped x = true) (hy : SeqAt.shaped y = true) : eqD neg x y = some (.v (.bool (if neg then !PyData.eqv x y else PyData.eqv x y))) := by
  unfold eqD
  split
  · rw [PyData.eqv]
    rename_i a b
    rw [show (a == b) = decide (a = b) from by rw [Bool.eq_iff_iff]; simp]
  · exact if_pos ⟨hx, hy⟩
theorem ixD_list {xs : List PyData} {i : Int} {x : PyData} (h : atI xs i = some x) : ixD (.list xs) (.int i) = some (.v x) := by unfold ixD; simp only [h]; rfl
theorem ixD_tuple {xs : List PyData} {i : Int} {x : PyData} (h : atI xs i = some x) : ixD (.tuple xs) (.int i) = some (.v x) := by unfold ixD; simp only [h]; rfl
@[simp] theorem lenD_list (xs : List PyData) : lenD [.list xs] = some (.v (.int xs.length)) := rfl
@[simp] theorem lenD_tuple (xs : List PyData) : lenD [.tuple xs] = some (.v (.int xs.length)) := rfl
@[simp] theorem absD_int (i : Int) : absD [.int i] = some (.v (.int (if i < 0 then -i else i))) := rfl
@[simp] theorem intC_int (i : Int) : intC [.int i] = some (.v (.int i)) := rfl
@[simp] theorem intC_bool (b : Bool) : intC [.bool b] = some (.v (.int (if b then 1 else 0))) := rfl
@[simp] theorem max2D_int (i j : Int) : max2D [.int i, .int j] = some (.v (.int (if j > i then j else i))) := rfl
@[simp] theorem min2D_int (i j : Int) : min2D [.int i, .int j] = some (.v (.int (if j < i then j else i))) := rfl
@[simp] theorem listC_list (xs : List PyData) : listC [.list xs] = some (.n xs) := rfl
@[simp] theorem listC_tuple (xs : List PyData) : listC [.tuple xs] = some (.n xs) := rfl
@[simp] theorem tupC_list (xs : List PyData) : tupC [.list xs] = some (.t xs) := rfl
@[simp] theorem tupC_tuple (xs : List PyData) : tupC [.tuple xs] = some (.t xs) := rfl
@[simp] theorem slD_list (xs : List PyData) (lo hi : Option Int) : slD (.list xs) lo hi = some (.n (cut xs lo hi)) := rfl
@[simp] theorem slD_tuple (xs : List PyData) (lo hi : Option Int) : slD (.tuple xs) lo hi = some (.t (cut xs lo hi)) := rfl
theorem slD_str {z : Str} (lo hi : Option Int) (h : z.length ≤ sizeLine) : slD (.str z) lo hi = some (.v (.str (cutS z lo hi))) := if_pos h
theorem sortC_list {xs : List PyData} (h : SortOk xs) : sortC [.list xs] = some (.n (xs.mergeSort dLe)) := by
  unfold sortC
  simp only [if_pos h]
end
end DL
/-! DLk: a list of lists that live: [f(..) for ..] whose items are changed later, and its walk. -/
namespace DL
open PySem PySem.Spec PyProof.Rows L2
def Refs (As : List Addr) (vs : List V) (ks : List Nat) : Prop := vs.length = ks.length ∧ ∀ (i k : Nat), ks[i]? = some k → ∃ c, As[k]? = some c ∧ vs[i]? = some (V.ref c)
theorem Refs.nil {As : List Addr} : Refs As [] [] := ⟨rfl, fun i k h => by simp at h⟩
theorem Refs.mono {As As' : List Addr} {vs : List V} {ks : List Nat} (h : Refs As vs ks) (p : ∃ bs, As' = As ++ bs) : Refs As' vs ks := by
  obtain ⟨bs, rfl⟩ := p
  refine ⟨h.1, fun i k hk => ?_⟩
  obtain ⟨c, e1, e2⟩ := h.2 i k hk
  exact ⟨c, by rw [List.getElem?_append_left (List.getElem?_eq_some_iff.mp e1).1]; exact e1, e2⟩
theorem Refs.snoc {As : List Addr} {vs : List V} {ks : List Nat} {v : V} {y : Nat} (h : Refs As vs ks) (hv : ∃ a, As[y]? = some a ∧ v = .ref a) : Refs As (vs ++ [v]) (ks ++ [y]) := by
  obtain ⟨a, e1, rfl⟩ := hv
  refine ⟨by rw [List.length_append, List.length_append, h.1]; rfl, fun i k hk => ?_⟩
  by_cases hi : i < ks.length
  · rw [List.getElem?_append_left hi] at hk
    obtain ⟨c, q1, q2⟩ := h.2 i k hk
    exact ⟨c, q1, by rw [List.getElem?_append_left (by rw [h.1]; exact hi)]; exact q2⟩
  · have hl : i < (ks ++ [y]).length := (List.getElem?_eq_some_iff.mp hk).1
    rw [List.length_append, List.length_singleton] at hl
    have ei : i = ks.length := by omega
    subst ei
    rw [List.getElem?_append_right (Nat.le_refl _), Nat.sub_self] at hk
    cases hk
    exact ⟨a, e1, by rw [← h.1, List.getElem?_append_right (Nat.le_refl _), Nat.sub_self]; rfl⟩
def lcB (ok : Kap → Prop) (g : DTG) (t : DTT) (e : DTE) (ρw : Rho) (P : R → Kap → Prop) : List PyData → List Nat → Kap → Prop
  | [], ks, κ => P (.b ks) κ
  | x :: xs, ks, κ => g (.d x) ρw κ fun ρ1 κ1 => t ρ1 κ1 fun b κ2 => if b = true then e ρ1 κ2 fun r κ3 => (match r with
      | .f ys => ks.length < sizeLine ∧ ok (κ3 ++ [.l ys]) ∧ lcB ok g t e ρw P xs (ks ++ [κ3.length]) (κ3 ++ [.l ys])
      | .c j => ks.length < sizeLine ∧ ok κ3 ∧ lcB ok g t e ρw P xs (ks ++ [j]) κ3
      | _ => False) else ok κ2 ∧ lcB ok g t e ρw P xs ks κ2
def wLcB (wi : DTI) (g : DTG) (t : DTT) (e : DTE) (vs : List Nat) : DTE := fun ρ κ P => wi ρ κ fun xs ok κ1 => lcB ok g t e (wipeR ρ vs) P xs [] κ1
def WalkR (K : PySem.W.Frag) (G : Hp) (As : List Addr) (J : L2.It) (xs : List R) : Prop := ∀ (G' H' : Hp) (As' : List Addr) (κ' : Kap), Ex G G' → (∃ bs, As' = As ++ bs) → Cells K G' H' As' κ' →
  (∀ i, i < xs.length → J.go i H') ∧ J.stop xs.length H' ∧ ∀ i v H'' x, J.yld i H' v H'' → xs[i]? = some x → ∃ G'', Step G' H' As' G'' H'' As' ∧ Cells K G'' H'' As' κ' ∧ It K G'' As' v x
theorem walk_refs {K : PySem.W.Frag} {G : Hp} {As : List Addr} {a : Addr} {ks : List Nat} (i0 : It K G As (.ref a) (.b ks)) : WalkR K G As (Itl K a) (ks.map R.c) := by
  intro G' H' As' κ' e p c
  obtain ⟨b, vs, ev, h1, h2, h3⟩ := i0.mono e p
  cases ev
  have hH : H' a = some (.lst vs) := c.ext _ _ h1
  refine ⟨fun i hi => ?_, ⟨vs, sql_of hH, by rw [h2, List.length_map]; exact Nat.le_refl _⟩, fun i v H'' x y hx => ?_⟩
  · rw [List.length_map] at hi
    obtain ⟨d, _, e2⟩ := h3 i _ (List.getElem?_eq_getElem hi)
    exact ⟨vs, _, sql_of hH, e2⟩
  · obtain ⟨rfl, y⟩ := y
    rw [List.getElem?_map] at hx
    cases q : ks[i]? with
    | none => rw [q] at hx; cases hx
    | some k =>
      rw [q] at hx
      cases hx
      obtain ⟨d, e1, e2⟩ := h3 i k q
      have := (y vs (sql_of hH)).symm.trans e2
      cases this
      exact ⟨G', Step.refl, c, d, e1, rfl⟩
abbrev DTIR := Rho → Kap → (List R → Kap → Prop) → Prop
def DIR (X : Cx) (tg it : Expr) (w : DTIR) : Prop := ∃ t, PI X tg it t ∧ ∀ (G H : Hp) (As : List Addr) (σ : L2.St) (ρ : Rho) (κ : Kap) (P : List R → Kap → Prop) (R' : L2.It → Hp → Prop), Cells X.K G H As κ → Places X.K G As σ ρ → w ρ κ P →
  (∀ J xs G' H' As' κ', Step G H As G' H' As' → Cells X.K G' H' As' κ' → Places X.K G' As' σ ρ → WalkR X.K G' As' J xs → P xs κ' → R' J H') → t σ H R'
def wRefs (we : DTE) : DTIR := fun ρ κ P => we ρ κ fun r κ1 => match r with
  | .b ks => P (ks.map R.c) κ1
  | _ => False
theorem dir_refs {X : Cx} {tg l : Expr} {we : DTE} (hl : DE X l we) : DIR X tg l (wRefs we) := by
  obtain ⟨t, pt, h⟩ := hl
  refine ⟨_, pi_seq pt, fun G H As σ ρ κ P R' c p w k => ?_⟩
  refine h G H As σ ρ κ _ _ c p w fun v r G1 H1 As1 κ1 s1 c1 p1 i1 w1 => ?_
  cases r with
  | b ks =>
    have i1 : It X.K G1 As1 v (.b ks) := i1
    obtain ⟨a, vs, rfl, h2, h3⟩ := id i1
    exact .inl ⟨a, vs, rfl, sql_of (c1.ext _ _ h2), k _ _ G1 H1 As1 κ1 s1 c1 p1 (walk_refs i1) w1⟩
  | _ => exact w1.elim
def lcR (g : DTG) (t : DTT) (e : DTE) (ρw : Rho) (P : R → Kap → Prop) : List R → List PyData → Kap → Prop
  | [], acc, κ => P (.f acc) κ
  | x :: xs, acc, κ => g x ρw κ fun ρ1 κ1 => t ρ1 κ1 fun b κ2 => if b = true then e ρ1 κ2 fun r κ3 => Opt (dat κ3 r.st) fun q => acc.length < sizeLine ∧ lcR g t e ρw P xs (acc ++ [q.1]) q.2 else lcR g t e ρw P xs acc κ2
def wLcR (wi : DTIR) (g : DTG) (t : DTT) (e : DTE) (vs : List Nat) : DTE := fun ρ κ P => wi ρ κ fun xs κ1 => lcR g t e (wipeR ρ vs) P xs [] κ1
section
variable {X : Cx} {elt tg iter : Expr} {ifs : List Expr} {scope : Scope} {own : List (Str × Nat)} {pos : Pos} {wi : DTI} {g : DTG} {wt : DTT} {we : DTE} {js : List Nat}
theorem lcB_reads {ti : TI} {gg : TG} {tt : TT} {te : TE} {vs : List Nat} (hj : ∀ j, j ∈ js → j ∈ vs)
    (hi : ∀ (G H : Hp) (As : List Addr) (σ : L2.St) (ρ : Rho) (κ : Kap) (P : List PyData → (Kap → Prop) → Kap → Prop) (R : L2.It → Hp → Prop), Cells X.K G H As κ → Places X.K G As σ ρ → wi ρ κ P → (∀ J xs ok G' H' As' κ', Step G H As G' H' As' → Cells X.K G' H' As' κ' → Places X.K G' As' σ ρ → WalkOk X.K G' As' J xs ok → ok κ' → P xs ok κ' → R J H') → ti σ H R)
    (hg : ∀ (G H : Hp) (As : List Addr) (σ : L2.St) (ρ : Rho) (κ : Kap) (v : V) (r : R) (P : Rho → Kap → Prop) (Q : L2.St → Hp → Prop), Cells X.K G H As κ → Places X.K G As σ ρ → It X.K G As v r → g r ρ κ P → (∀ σ' ρ' G' H' As' κ', Wr js σ σ' → Step G H As G' H' As' → Cells X.K G' H' As' κ' → Places X.K G' As' σ' ρ' → P ρ' κ' → Q σ' H') → gg v σ H Q)
    (ht : ∀ (G H : Hp) (As : List Addr) (σ : L2.St) (ρ : Rho) (κ : Kap) (P : Bool → Kap → Prop) (Q : Bool → Hp → Prop), Cells X.K G H As κ → Places X.K G As σ ρ → wt ρ κ P → (∀ b G' H' As' κ', Step G H As G' H' As' → Cells X.K G' H' As' κ' → Places X.K G' As' σ ρ → P b κ' → Q b H') → tt σ H Q)
    (he : ∀ (G H : Hp) (As : List Addr) (σ : L2.St) (ρ : Rho) (κ : Kap) (P : R → Kap → Prop) (Q : VK), Cells X.K G H As κ → Places X.K G As σ ρ → we ρ κ P → (∀ v r G' H' As' κ', Step G H As G' H' As' → Cells X.K G' H' As' κ' → Places X.K G' As' σ ρ → Rv X.K H G' H' As' v r → P r κ' → Q v H') → te σ H Q)
    (G H : Hp) (As : List Addr) (σ : L2.St) (ρ : Rho) (κ : Kap) (P : R → Kap → Prop) (Q : VK) (c : Cells X.K G H As κ) (p : Places X.K G As σ ρ) (w : wLcB wi g wt we vs ρ κ P)
    (k : ∀ v r G' H' As' κ', Step G H As G' H' As' → Cells X.K G' H' As' κ' → Places X.K G' As' σ ρ → Rv X.K H G' H' As' v r → P r κ' → Q v H') : tLc ti gg tt te vs σ H Q := by
  refine hi G H As σ ρ κ _ _ c p w fun J xs ok G1 H1 As1 κ1 s1 c1 p1 wk o1 w1 => fun D hD => ?_
  have gD1 : G1 D = none := c1.ext.free hD
  have nD1 : D ∉ As1 := c1.notin hD
  -- the list that is made stands at D, is known to nobody, and only the turns change it
  let W : Nat → Hp → Prop := fun i H' => ∃ G' As' κ' acc vs', Step G1 H1 As1 G' H' As' ∧ Cells X.K G' H' As' κ' ∧ G' D = none ∧ D ∉ As' ∧ H' D = some (.lst vs') ∧ Refs As' vs' acc ∧ ok κ' ∧ lcB ok g wt we (wipeR ρ vs) P (xs.drop i) acc κ'
  -- a step keeps the list at D as it is
  have keep : ∀ {Ga Ha Asa Gb Hb Asb} {vs' : List V}, Step Ga Ha Asa Gb Hb Asb → Ga D = none → D ∉ Asa → Ha D = some (.lst vs') → Gb D = none ∧ D ∉ Asb ∧ Hb D = some (.lst vs') := fun s g0 n0 h0 => by
    refine ⟨?_, fun hm => ?_, s.fr D _ n0 h0⟩
    · rcases s.gn D g0 with z | z | z
      · exact z
      · rw [h0] at z; cases z
      · exact absurd z n0
    · rcases s.new D hm with z | z
      · exact n0 z
      · rw [h0] at z; cases z
  -- a turn's end: the item goes onto the list
  have grow : ∀ {G' H' As' κ' acc vs' v y i}, Step G1 H1 As1 G' H' As' → Cells X.K G' H' As' κ' → G' D = none → D ∉ As' → H' D = some (.lst vs') → Refs As' vs' acc → (∃ a, As'[y]? = some a ∧ v = .ref a) → ok κ' → lcB ok g wt we (wipeR ρ vs) P (xs.drop i) (acc ++ [y]) κ' → W i (upd H' D (.lst (vs' ++ [v]))) := fun {G' H' As' κ' acc vs' v y i} s c g0 n0 h0 rp rv o f => by
    refine ⟨G', As', κ', acc ++ [y], vs' ++ [v], ⟨s.ex, s.pre, s.new, fun b u hb e => ?_, fun b e => ?_, s.gn⟩, ⟨c.ext.mut g0, c.len, c.nd, fun a ha => ?_, fun j x a e1 e2 => ?_⟩, g0, n0, upd_same, rp.snoc rv, o, f⟩
    · by_cases q : b = D
      · subst q; rw [hD] at e; cases e
      · rw [upd_ne q]; exact s.fr b u hb e
    · by_cases q : b = D
      · subst q; rw [upd_same] at e; cases e
      · rw [upd_ne q] at e; exact s.dom b e
    · by_cases q : a = D
      · subst q; exact ⟨_, upd_same⟩
      · rw [upd_ne q]; exact c.al a ha
    · have z := c.ok j x a e1 e2
      cases x with
      | l ds =>
        obtain ⟨z1, ws, z2, z3⟩ := z
        have ne : a ≠ D := fun q => n0 (by rw [← q]; exact List.mem_of_getElem? e2)
        exact ⟨z1, ws, by rw [upd_ne ne]; exact z2, z3⟩
      | m ds =>
        obtain ⟨z1, ws, z2, z3⟩ := z
        have ne : a ≠ D := fun q => n0 (by rw [← q]; exact List.mem_of_getElem? e2)
        exact ⟨z1, ws, by rw [upd_ne ne]; exact z2, z3⟩
      | z x => exact z
      | k es => exact z
      | x u =>
        obtain ⟨z1, z2⟩ := z
        have ne : a ≠ D := fun q => n0 (by rw [← q]; exact List.mem_of_getElem? e2)
        exact ⟨z1, by rw [upd_ne ne]; exact z2⟩
  refine ⟨fun i m H' => i + m = xs.length ∧ W i H', ⟨xs.length, by omega, G1, As1, κ1, [], [], Step.fresh hD, c1.fresh hD, gD1, nD1, upd_same, Refs.nil, o1, w1⟩, fun i m H' hW => ?_⟩
  obtain ⟨em, G', As', κ', acc, vs', s', c', g', n', h', rp, o', f⟩ := hW
  obtain ⟨wgo, wst, wyl⟩ := wk G' H' As' κ' s'.ex s'.pre c' o'
  cases m with
  | zero =>
    have ei : i = xs.length := by omega
    subst ei
    rw [List.drop_length] at f
    have st := s1.trans s'
    have eG : Ex G' (upd G' D (.lst vs')) := Ex.new g'
    have hD0 : H D = none := s1.dom D hD
    have st' : Step G H As (upd G' D (.lst vs')) H' As' := ⟨st.ex.trans eG, st.pre, st.new, st.fr, st.dom, fun b hb => by
      by_cases e : b = D
      · subst e; exact .inr (.inl hD0)
      · rw [upd_ne e]; exact st.gn b hb⟩
    have p' : Places X.K (upd G' D (.lst vs')) As' σ ρ := ⟨(p.step st).len, fun i r h => by
      obtain ⟨v, h1, h2⟩ := (p.step st).ok i r h
      exact ⟨v, h1, h2.mono eG ⟨[], by simp⟩⟩⟩
    exact .inl ⟨wst, k _ (.b acc) _ H' As' κ' st' (c'.learn g' n' h') p' ⟨D, vs', rfl, upd_same, rp.1, rp.2⟩ f⟩
  | succ m =>
    have hi' : i < xs.length := by omega
    rw [List.drop_eq_getElem_cons hi'] at f
    refine .inr ⟨wgo i hi', W (i + 1), fun H2 q => ⟨m, by omega, by omega, q⟩, fun v H2 hy => ?_⟩
    obtain ⟨G2, s2, c2, r2⟩ := wyl i v H2 _ hy (List.getElem?_eq_getElem hi')
    obtain ⟨g2, n2, h2⟩ := keep s2 g' n' h'
    refine hg G2 H2 As' (wipe σ vs) (wipeR ρ vs) κ' v (.d xs[i]) _ _ c2 ((p.step ((s1.trans s').trans s2)).wipe vs) r2 f fun σ3 ρ3 G3 H3 As3 κ3 a3 s3 c3 p3 w3 => ⟨?_, ?_⟩
    · have hw : wipe (wipe σ vs) vs = wipe σ vs := by
        refine List.ext_getElem? fun j => ?_
        by_cases hj : j ∈ vs
        · rw [wipe_in hj, wipe_in hj, wipe_length]
        · rw [wipe_out hj]
      rw [← hw]
      have q := a3.wipe hj
      rw [q]
    · obtain ⟨g3, n3, h3⟩ := keep s3 g2 n2 h2
      refine ht G3 H3 As3 σ3 ρ3 κ3 _ _ c3 p3 w3 fun z G4 H4 As4 κ4 s4 c4 p4 w4 => ?_
      obtain ⟨g4, n4, h4⟩ := keep s4 g3 n3 h3
      have st4 : Step G1 H1 As1 G4 H4 As4 := ((s'.trans s2).trans s3).trans s4
      cases z with
      | false =>
        rw [if_neg (by decide)] at w4 ⊢
        exact ⟨G4, As4, κ4, acc, vs', st4, c4, g4, n4, h4, rp.mono (((s2.trans s3).trans s4)).pre, w4.1, w4.2⟩
      | true =>
        rw [if_pos rfl] at w4 ⊢
        refine he G4 H4 As4 σ3 ρ3 κ4 _ _ c4 p4 w4 fun v5 r5 G5 H5 As5 κ5 s5 c5 p5 i5 w5 => ?_
        cases r5 with
        | f ys =>
          obtain ⟨hl, ho, w6⟩ := w5
          obtain ⟨G6, As6, s6, c6, i6, _, _⟩ := sto_ok true s5 c5 i5
          obtain ⟨g6, n6, h6⟩ := keep s6 g4 n4 h4
          have rp6 := rp.mono ((((s2.trans s3).trans s4)).trans s6).pre
          refine ⟨vs', h6, by rw [rp6.1]; exact hl, ?_⟩
          exact grow (st4.trans s6) c6 g6 n6 h6 rp6 i6 ho w6
        | c j =>
          obtain ⟨hl, ho, w6⟩ := w5
          obtain ⟨g6, n6, h6⟩ := keep s5 g4 n4 h4
          have rp6 := rp.mono ((((s2.trans s3).trans s4)).trans s5).pre
          refine ⟨vs', h6, by rw [rp6.1]; exact hl, ?_⟩
          exact grow (st4.trans s5) c5 g6 n6 h6 rp6 i5 ho w6
        | _ => exact w5.elim
theorem de_lcB (hc : X.calm = true) (hN : X.N.Nodup) (hi : DI X tg iter wi) (ok : BlkOk X.N X.env.scope scope own) (hg : ∀ i : BI, DG (i.cx X scope) tg js g) (ht : ∀ i : BI, DTs (i.cx X scope) ifs wt) (he : ∀ i : BI, DE (i.cx X scope) elt we)
    (hj : ∀ j, j ∈ js → j ∈ own.map (·.2) := by decide) (hs : ∀ x, foldedSetIterable iter X.env x = pure x := by intro _; rfl) : DE X (.ListComp elt [⟨tg, iter, ifs, 0⟩] scope pos) (wLcB wi g wt we (own.map (·.2))) := by
  obtain ⟨ti, pi, hi⟩ := hi
  obtain ⟨gg, pg, hg⟩ := uni_G hg
  obtain ⟨tt, pt, ht⟩ := uni_T ht
  obtain ⟨te, pe, he⟩ := uni_E he
  exact ⟨_, pe_lc hc hN pi ok (fun s H C cl fp => pg ⟨s, H, C, cl, fp⟩) (fun s H C cl fp => pt ⟨s, H, C, cl, fp⟩) (fun s H C cl fp => pe ⟨s, H, C, cl, fp⟩) hs, lcB_reads hj hi hg ht he⟩
theorem ds_setLcB (m : Bool) (i : Nat) {y : Str} {py spos : Pos} (hc : X.calm = true) (hN : X.N.Nodup) (hsw : swapsWith (.ListComp elt [⟨tg, iter, ifs, 0⟩] scope pos) (some (.Name y py)) spos.line X.env = pure true) (hi : DI X tg iter wi) (ok : BlkOk X.N X.env.scope scope own) (hg : ∀ i : BI, DG (i.cx X scope) tg js g) (ht : ∀ i : BI, DTs (i.cx X scope) ifs wt) (he : ∀ i : BI, DE (i.cx X scope) elt we)
    (hy : X.N[i]? = some y := by rfl) (hyl : X.env.scope.names.lookup y = some .local := by rfl) (hj : ∀ j, j ∈ js → j ∈ own.map (·.2) := by decide) (hs : ∀ x, foldedSetIterable iter X.env x = pure x := by intro _; rfl) :
    DS X (.Assign [.Name y py] (.ListComp elt [⟨tg, iter, ifs, 0⟩] scope pos) spos) (wSet m i (wLcB wi g wt we (own.map (·.2)))) := by
  obtain ⟨ti, pi, hi⟩ := hi
  obtain ⟨gg, pg, hg⟩ := uni_G hg
  obtain ⟨tt, pt, ht⟩ := uni_T ht
  obtain ⟨te, pe, he⟩ := uni_E he
  refine ⟨_, ps_setLc hc hN hy hyl hsw pi ok (fun s H C cl fp => pg ⟨s, H, C, cl, fp⟩) (fun s H C cl fp => pt ⟨s, H, C, cl, fp⟩) (fun s H C cl fp => pe ⟨s, H, C, cl, fp⟩) hs, fun G H As σ ρ κ E D c p w r => ?_⟩
  refine lcB_reads hj hi hg ht he G H As σ ρ κ _ _ c p w fun v q G1 H1 As1 κ1 s1 c1 p1 i1 w1 => ?_
  obtain ⟨G1', As1', s1', c1', i1', e1, e2⟩ := sto_ok m s1 c1 i1
  exact r.nx _ _ G1' H1 As1' _ s1' c1' ((p1.mono e1 e2).put i i1') w1
theorem lcR_reads {wi : DTIR} {ti : TI} {gg : TG} {tt : TT} {te : TE} {vs : List Nat} (hj : ∀ j, j ∈ js → j ∈ vs)
    (hi : ∀ (G H : Hp) (As : List Addr) (σ : L2.St) (ρ : Rho) (κ : Kap) (P : List R → Kap → Prop) (R' : L2.It → Hp → Prop), Cells X.K G H As κ → Places X.K G As σ ρ → wi ρ κ P → (∀ J xs G' H' As' κ', Step G H As G' H' As' → Cells X.K G' H' As' κ' → Places X.K G' As' σ ρ → WalkR X.K G' As' J xs → P xs κ' → R' J H') → ti σ H R')
    (hg : ∀ (G H : Hp) (As : List Addr) (σ : L2.St) (ρ : Rho) (κ : Kap) (v : V) (r : R) (P : Rho → Kap → Prop) (Q : L2.St → Hp → Prop), Cells X.K G H As κ → Places X.K G As σ ρ → It X.K G As v r → g r ρ κ P → (∀ σ' ρ' G' H' As' κ', Wr js σ σ' → Step G H As G' H' As' → Cells X.K G' H' As' κ' → Places X.K G' As' σ' ρ' → P ρ' κ' → Q σ' H') → gg v σ H Q)
    (ht : ∀ (G H : Hp) (As : List Addr) (σ : L2.St) (ρ : Rho) (κ : Kap) (P : Bool → Kap → Prop) (Q : Bool → Hp → Prop), Cells X.K G H As κ → Places X.K G As σ ρ → wt ρ κ P → (∀ b G' H' As' κ', Step G H As G' H' As' → Cells X.K G' H' As' κ' → Places X.K G' As' σ ρ → P b κ' → Q b H') → tt σ H Q)
    (he : ∀ (G H : Hp) (As : List Addr) (σ : L2.St) (ρ : Rho) (κ : Kap) (P : R → Kap → Prop) (Q : VK), Cells X.K G H As κ → Places X.K G As σ ρ → we ρ κ P → (∀ v r G' H' As' κ', Step G H As G' H' As' → Cells X.K G' H' As' κ' → Places X.K G' As' σ ρ → Rv X.K H G' H' As' v r → P r κ' → Q v H') → te σ H Q)
    (G H : Hp) (As : List Addr) (σ : L2.St) (ρ : Rho) (κ : Kap) (P : R → Kap → Prop) (Q : VK) (c : Cells X.K G H As κ) (p : Places X.K G As σ ρ) (w : wLcR wi g wt we vs ρ κ P)
    (k : ∀ v r G' H' As' κ', Step G H As G' H' As' → Cells X.K G' H' As' κ' → Places X.K G' As' σ ρ → Rv X.K H G' H' As' v r → P r κ' → Q v H') : tLc ti gg tt te vs σ H Q := by
  refine hi G H As σ ρ κ _ _ c p w fun J xs G1 H1 As1 κ1 s1 c1 p1 wk w1 => fun D hD => ?_
  have gD1 : G1 D = none := c1.ext.free hD
  have nD1 : D ∉ As1 := c1.notin hD
  -- the list that is made stands at D, is known to nobody, and only the turns change it
  let W : Nat → Hp → Prop := fun i H' => ∃ G' As' κ' acc vs', Step G1 H1 As1 G' H' As' ∧ Cells X.K G' H' As' κ' ∧ G' D = none ∧ D ∉ As' ∧ H' D = some (.lst vs') ∧ RpA X.K G' vs' acc ∧ lcR g wt we (wipeR ρ vs) P (xs.drop i) acc κ'
  -- a step keeps the list at D as it is
  have keep : ∀ {Ga Ha Asa Gb Hb Asb} {vs' : List V}, Step Ga Ha Asa Gb Hb Asb → Ga D = none → D ∉ Asa → Ha D = some (.lst vs') → Gb D = none ∧ D ∉ Asb ∧ Hb D = some (.lst vs') := fun s g0 n0 h0 => by
    refine ⟨?_, fun hm => ?_, s.fr D _ n0 h0⟩
    · rcases s.gn D g0 with z | z | z
      · exact z
      · rw [h0] at z; cases z
      · exact absurd z n0
    · rcases s.new D hm with z | z
      · exact n0 z
      · rw [h0] at z; cases z
  -- a turn's end: the item goes onto the list
  have grow : ∀ {G' H' As' κ' acc vs' v y i}, Step G1 H1 As1 G' H' As' → Cells X.K G' H' As' κ' → G' D = none → D ∉ As' → H' D = some (.lst vs') → RpA X.K G' vs' acc → Rp X.K G' v y → lcR g wt we (wipeR ρ vs) P (xs.drop i) (acc ++ [y]) κ' → W i (upd H' D (.lst (vs' ++ [v]))) := fun {G' H' As' κ' acc vs' v y i} s c g0 n0 h0 rp rv f => by
    refine ⟨G', As', κ', acc ++ [y], vs' ++ [v], ⟨s.ex, s.pre, s.new, fun b u hb e => ?_, fun b e => ?_, s.gn⟩, ⟨c.ext.mut g0, c.len, c.nd, fun a ha => ?_, fun j x a e1 e2 => ?_⟩, g0, n0, upd_same, rp.app (.cons rv .nil), f⟩
    · by_cases q : b = D
      · subst q; rw [hD] at e; cases e
      · rw [upd_ne q]; exact s.fr b u hb e
    · by_cases q : b = D
      · subst q; rw [upd_same] at e; cases e
      · rw [upd_ne q] at e; exact s.dom b e
    · by_cases q : a = D
      · subst q; exact ⟨_, upd_same⟩
      · rw [upd_ne q]; exact c.al a ha
    · have z := c.ok j x a e1 e2
      cases x with
      | l ds =>
        obtain ⟨z1, ws, z2, z3⟩ := z
        have ne : a ≠ D := fun q => n0 (by rw [← q]; exact List.mem_of_getElem? e2)
        exact ⟨z1, ws, by rw [upd_ne ne]; exact z2, z3⟩
      | m ds =>
        obtain ⟨z1, ws, z2, z3⟩ := z
        have ne : a ≠ D := fun q => n0 (by rw [← q]; exact List.mem_of_getElem? e2)
        exact ⟨z1, ws, by rw [upd_ne ne]; exact z2, z3⟩
      | z x => exact z
      | k es => exact z
      | x u =>
        obtain ⟨z1, z2⟩ := z
        have ne : a ≠ D := fun q => n0 (by rw [← q]; exact List.mem_of_getElem? e2)
        exact ⟨z1, by rw [upd_ne ne]; exact z2⟩
  refine ⟨fun i m H' => i + m = xs.length ∧ W i H', ⟨xs.length, by omega, G1, As1, κ1, [], [], Step.fresh hD, c1.fresh hD, gD1, nD1, upd_same, .nil, w1⟩, fun i m H' hW => ?_⟩
  obtain ⟨em, G', As', κ', acc, vs', s', c', g', n', h', rp, f⟩ := hW
  obtain ⟨wgo, wst, wyl⟩ := wk G' H' As' κ' s'.ex s'.pre c'
  cases m with
  | zero =>
    have ei : i = xs.length := by omega
    subst ei
    rw [List.drop_length] at f
    have st := s1.trans s'
    exact .inl ⟨wst, k _ (.f acc) G' H' As' κ' st c' (p.step st) ⟨D, vs', rfl, s1.dom D hD, g', n', h', rp⟩ f⟩
  | succ m =>
    have hi' : i < xs.length := by omega
    rw [List.drop_eq_getElem_cons hi'] at f
    refine .inr ⟨wgo i hi', W (i + 1), fun H2 q => ⟨m, by omega, by omega, q⟩, fun v H2 hy => ?_⟩
    obtain ⟨G2, s2, c2, r2⟩ := wyl i v H2 _ hy (List.getElem?_eq_getElem hi')
    obtain ⟨g2, n2, h2⟩ := keep s2 g' n' h'
    refine hg G2 H2 As' (wipe σ vs) (wipeR ρ vs) κ' v xs[i] _ _ c2 ((p.step ((s1.trans s').trans s2)).wipe vs) r2 f fun σ3 ρ3 G3 H3 As3 κ3 a3 s3 c3 p3 w3 => ⟨?_, ?_⟩
    · have hw : wipe (wipe σ vs) vs = wipe σ vs := by
        refine List.ext_getElem? fun j => ?_
        by_cases hj : j ∈ vs
        · rw [wipe_in hj, wipe_in hj, wipe_length]
        · rw [wipe_out hj]
      rw [← hw]
      have q := a3.wipe hj
      rw [q]
    · obtain ⟨g3, n3, h3⟩ := keep s3 g2 n2 h2
      refine ht G3 H3 As3 σ3 ρ3 κ3 _ _ c3 p3 w3 fun z G4 H4 As4 κ4 s4 c4 p4 w4 => ?_
      obtain ⟨g4, n4, h4⟩ := keep s4 g3 n3 h3
      have st4 : Step G1 H1 As1 G4 H4 As4 := ((s'.trans s2).trans s3).trans s4
      cases z with
      | false =>
        rw [if_neg (by decide)] at w4 ⊢
        exact ⟨G4, As4, κ4, acc, vs', st4, c4, g4, n4, h4, RpA.mono (((s2.trans s3).trans s4)).ex _ _ rp, w4⟩
      | true =>
        rw [if_pos rfl] at w4 ⊢
        refine he G4 H4 As4 σ3 ρ3 κ4 _ _ c4 p4 w4 fun v5 r5 G5 H5 As5 κ5 s5 c5 p5 i5 w5 => ?_
        obtain ⟨G5', s5', c5', p5', i5', _⟩ := settle s5 c5 p5 i5
        obtain ⟨⟨y, κ6⟩, e6, hl, w6⟩ := w5.ex
        obtain ⟨G6, s6, c6, r6⟩ := dat_ok c5' i5' e6
        have st6 := s5'.trans s6
        obtain ⟨g6, n6, h6⟩ := keep st6 g4 n4 h4
        have rp6 := RpA.mono ((((s2.trans s3).trans s4)).trans st6).ex _ _ rp
        refine ⟨vs', h6, by rw [rp6.len]; exact hl, ?_⟩
        exact grow (st4.trans st6) c6 g6 n6 h6 rp6 r6 w6
theorem de_lcR (hc : X.calm = true) (hN : X.N.Nodup) {wi : DTIR} (hi : DIR X tg iter wi) (ok : BlkOk X.N X.env.scope scope own) (hg : ∀ i : BI, DG (i.cx X scope) tg js g) (ht : ∀ i : BI, DTs (i.cx X scope) ifs wt) (he : ∀ i : BI, DE (i.cx X scope) elt we)
    (hj : ∀ j, j ∈ js → j ∈ own.map (·.2) := by decide) (hs : ∀ x, foldedSetIterable iter X.env x = pure x := by intro _; rfl) : DE X (.ListComp elt [⟨tg, iter, ifs, 0⟩] scope pos) (wLcR wi g wt we (own.map (·.2))) := by
  obtain ⟨ti, pi, hi⟩ := hi
  obtain ⟨gg, pg, hg⟩ := uni_G hg
  obtain ⟨tt, pt, ht⟩ := uni_T ht
  obtain ⟨te, pe, he⟩ := uni_E he
  exact ⟨_, pe_lc hc hN pi ok (fun s H C cl fp => pg ⟨s, H, C, cl, fp⟩) (fun s H C cl fp => pt ⟨s, H, C, cl, fp⟩) (fun s H C cl fp => pe ⟨s, H, C, cl, fp⟩) hs, lcR_reads hj hi hg ht he⟩
end

@[simp] theorem lcB_nil (ok : Kap → Prop) (g : DTG) (t : DTT) (e : DTE) (ρ : Rho) (P : R → Kap → Prop) (ks : List Nat) (κ : Kap) : lcB ok g t e ρ P [] ks κ = P (.b ks) κ := rfl
@[simp] theorem lcR_nil (g : DTG) (t : DTT) (e : DTE) (ρ : Rho) (P : R → Kap → Prop) (acc : List PyData) (κ : Kap) : lcR g t e ρ P [] acc κ = P (.f acc) κ := rfl
@[simp] theorem s_lcB (wi : DTI) (g : DTG) (t : DTT) (e : DTE) (vs : List Nat) (ρ : Rho) (κ : Kap) (P : R → Kap → Prop) : wLcB wi g t e vs ρ κ P = wi ρ κ fun xs ok κ1 => lcB ok g t e (wipeR ρ vs) P xs [] κ1 := rfl
@[simp] theorem s_lcR (wi : DTIR) (g : DTG) (t : DTT) (e : DTE) (vs : List Nat) (ρ : Rho) (κ : Kap) (P : R → Kap → Prop) : wLcR wi g t e vs ρ κ P = wi ρ κ fun xs κ1 => lcR g t e (wipeR ρ vs) P xs [] κ1 := rfl
@[simp] theorem s_refs (we : DTE) (ρ : Rho) (κ : Kap) (P : List R → Kap → Prop) : wRefs we ρ κ P = we ρ κ fun r κ1 => match r with
  | .b ks => P (ks.map R.c) κ1
  | _ => False := rfl
end DL
/-! DLtc: the text of nested data; a list of lists that live, many times; what is never reached. -/
namespace DL
open PySem PySem.Spec PyProof.Rows L2
/-! ### repr(x), x a list or a tuple -/
/-- its text can be told -/
def TextOk (d : PyData) : Prop := d.showable = true ∧ d.canLay0 = true ∧ d.depth ≤ 100 ∧ d.shown.length ≤ sizeLine ∧ ((∃ xs, d = .list xs) ∨ ∃ xs, d = .tuple xs)
theorem room150 {k : Nat} {A : Around} (r : RoomG k A) : A.units + 150 < cLine := by have := r.toRoom.un; omega
def rReprD (K : PySem.W.Frag) : List V → Hp → VK → Prop := fun vs H Q => ∃ (v : V) (d : PyData), vs = [v] ∧ Dp K H v d ∧ TextOk d ∧ Q (.str d.shown) H
theorem cr_repr {X : Cx} (hg : X.A.guards = some []) (hu : X.A.units + 150 < cLine) : CallR X (.builtin "repr") (rReprD X.K) := by
  intro pins s σ H vs us Q I r h
  obtain ⟨v, d, rfl, hd, ⟨h1, h2, h3, h4, h5⟩, q⟩ := h
  obtain ⟨u, rfl, rx⟩ := vals1 r
  obtain ⟨as, rd⟩ := Dp.reads I d v u hd rx
  have hr : ∃ a, u = .ref a := by
    rcases h5 with ⟨xs, rfl⟩ | ⟨xs, rfl⟩ <;> cases rd <;> exact ⟨_, rfl⟩
  obtain ⟨a, rfl⟩ := hr
  refine repr_of_reads' rd h1 (PyData.noDict_hsm (PyData.hasDict_of_canLay d h2)) hg (by omega) (fun b o e => e) (fun h' u tk hk => ?_) h4
  exact ⟨.str d.shown, H, I.kept (t' := tk) hk, ⟨_, rfl⟩, q⟩
def wRepr (we : DTE) : DTE := fun ρ κ P => we ρ κ fun r κ1 => Opt (val κ1 r.st) fun x => TextOk x ∧ P (.d (.str x.shown)) κ1
theorem Vw.dp {K : PySem.W.Frag} {G H : Hp} {v : V} {x : PyData} (e : Ex G H) (h : Vw K G H v x) : Dp K H v x := by
  cases x with
  | list ds =>
    obtain ⟨a, vs, rfl, h1, h2⟩ := h
    exact .lst (sql_of h1) (RpA.dp ds vs (RpA.mono e _ _ h2))
  | _ => exact Rp.dp _ _ (Rp.mono e _ _ h)
section
variable {X : Cx} {e : Expr} {we : DTE} {p pos : Pos}
theorem de_repr (hgd : X.A.guards = some []) (hu : X.A.units + 150 < cLine) (hm : X.mg "repr" = none) (he : DE X e we) (hg : Gl X "repr" := by rfl) (h1 : starEach [e] X.env = (false, eval e X.env) :: starEach [] X.env := by rfl) (h4 : (backTo pos (starEach [] X.env)).any (·.1) = false := by rfl) :
    DE X (.Call (.Name "repr" p) [e] [] pos) (wRepr we) := by
  obtain ⟨t, pt, he⟩ := he
  refine ⟨_, pe_callB (cr_repr hgd hu) hg hm (by decide +kernel) (pa_cons pt pa_nil h1) (by decide) (by decide) h1 h4, fun G H As σ ρ κ P Q c pl w k => ?_⟩
  refine he G H As σ ρ κ _ _ c pl w fun v r G1 H1 As1 κ1 s1 c1 p1 i1 w1 => ?_
  obtain ⟨G1', s1', c1', p1', i1', _⟩ := settle s1 c1 p1 i1
  obtain ⟨x, ex, ok, w2⟩ := w1.ex
  exact ⟨v, x, rfl, Vw.dp c1'.ext (i1'.vw c1' ex), ok, k _ (.d (.str x.shown)) G1' H1 As1 κ1 s1' c1' p1' (.str _) w2⟩
end
@[simp] theorem s_repr (we : DTE) (ρ : Rho) (κ : Kap) (P : R → Kap → Prop) : wRepr we ρ κ P = we ρ κ fun r κ1 => Opt (val κ1 r.st) fun x => TextOk x ∧ P (.d (.str x.shown)) κ1 := rfl
/-! ### xs * n, xs a list of lists that live -/
def wMulB (wa wb : DTE) : DTE := fun ρ κ P => wa ρ κ fun r κ1 => match r with
  | .b ks => wb ρ κ1 fun q κ2 => match q with
    | .d (.int n) => 0 ≤ n ∧ n < 2 ^ 63 ∧ ks.length * n.toNat ≤ sizeLine ∧ P (.b (List.replicate n.toNat ks).flatten) κ2
    | _ => False
  | _ => False
theorem refs_app {As : List Addr} {vs vs' : List V} {ks ks' : List Nat} (h : Refs As vs ks) (h' : Refs As vs' ks') : Refs As (vs ++ vs') (ks ++ ks') := by
  refine ⟨by rw [List.length_append, List.length_append, h.1, h'.1], fun i k hk => ?_⟩
  by_cases hi : i < ks.length
  · rw [List.getElem?_append_left hi] at hk
    obtain ⟨c, e1, e2⟩ := h.2 i k hk
    exact ⟨c, e1, by rw [List.getElem?_append_left (by rw [h.1]; exact hi)]; exact e2⟩
  · rw [List.getElem?_append_right (by omega)] at hk
    obtain ⟨c, e1, e2⟩ := h'.2 _ k hk
    exact ⟨c, e1, by rw [List.getElem?_append_right (by rw [h.1]; omega), h.1]; exact e2⟩
theorem refs_rep {As : List Addr} {vs : List V} {ks : List Nat} (h : Refs As vs ks) : ∀ n : Nat, Refs As (List.replicate n vs).flatten (List.replicate n ks).flatten
  | 0 => Refs.nil
  | n + 1 => by
    rw [List.replicate_succ, List.replicate_succ, List.flatten_cons, List.flatten_cons]
    exact refs_app h (refs_rep h n)
theorem de_mulB {X : Cx} {a b : Expr} {wa wb : DTE} {pos : Pos} (ha : DE X a wa) (hb : DE X b wb) : DE X (.BinOp a .Mult b pos) (wMulB wa wb) := by
  obtain ⟨ta, pa, ha⟩ := ha
  obtain ⟨tb, pb, hb⟩ := hb
  refine ⟨_, pe_op op_rep pa pb, fun G H As σ ρ κ P Q c p w k => ?_⟩
  refine ha G H As σ ρ κ _ _ c p w fun v r G1 H1 As1 κ1 s1 c1 p1 i1 w1 => ?_
  cases r with
  | b ks =>
    obtain ⟨q, vs, rfl, h2, h3⟩ := id i1
    refine hb G1 H1 As1 σ ρ κ1 _ _ c1 p1 w1 fun v2 r2 G2 H2 As2 κ2 s2 c2 p2 i2 w2 => ?_
    split at w2
    · rename_i n
      obtain ⟨n0, n1, hz, w3⟩ := w2
      have iv : Rp X.K G2 v2 (.int n) := i2
      cases iv
      have rf : Refs As2 vs ks := Refs.mono h3 s2.pre
      have rr := refs_rep rf n.toNat
      refine ⟨q, n, vs, rfl, rfl, c2.ext _ _ (s2.ex _ _ h2), by omega, n1, by rw [rf.1]; exact hz, fun pp hp => ?_⟩
      have st := Step.laid (As := As2) (o := .lst (List.replicate n.toNat vs).flatten) c2.ext hp
      exact k (.ref pp) (.b _) _ _ As2 κ2 ((s1.trans s2).trans st) (c2.laid hp) (p2.step st) ⟨pp, _, rfl, upd_same, rr.1, rr.2⟩ w3
    · exact w2.elim
  | _ => exact w1.elim
@[simp] theorem s_mulB (wa wb : DTE) (ρ : Rho) (κ : Kap) (P : R → Kap → Prop) : wMulB wa wb ρ κ P = wa ρ κ fun r κ1 => match r with
  | .b ks => wb ρ κ1 fun q κ2 => match q with
    | .d (.int n) => 0 ≤ n ∧ n < 2 ^ 63 ∧ ks.length * n.toNat ≤ sizeLine ∧ P (.b (List.replicate n.toNat ks).flatten) κ2
    | _ => False
  | _ => False := rfl
end DL
/-! SHa: hooks and rows as data, draws, names: what many laws share. -/
namespace SH
open PySem PySem.Spec PyProof.Rows L2 DL

/-! ### comprehensions over a list whose turns change nothing -/
theorem lc_map {α : Type} {ok : Kap → Prop} {g : DTG} {we : DTE} {ρw : Rho} {P : R → Kap → Prop} {κ : Kap} (f e : α → PyData) (hok : ok κ) : ∀ (xs : List α) (acc : List PyData), acc.length + xs.length ≤ sizeLine →
    (∀ x ∈ xs, ∀ C : R → Kap → Prop, C (.d (e x)) κ → g (.d (f x)) ρw κ fun ρ1 κ1 => we ρ1 κ1 C) → P (.f (acc ++ xs.map e)) κ → lcL ok g wYes we ρw P (xs.map f) acc κ
  | [], acc, _, _, hp => by simpa using hp
  | x :: xs, acc, hl, h, hp => by
    rw [List.map_cons, lcL_cons]
    refine h x (List.mem_cons_self ..) _ ?_
    simp only [List.length_cons] at hl
    refine ⟨by omega, hok, lc_map f e hok xs _ (by rw [List.length_append, List.length_singleton]; omega) (fun y hy => h y (List.mem_cons_of_mem _ hy)) ?_⟩
    rw [List.append_assoc]
    exact hp
theorem lc_filter {α : Type} {ok : Kap → Prop} {g : DTG} {wt : DTT} {we : DTE} {ρw : Rho} {P : R → Kap → Prop} {κ : Kap} (f : α → PyData) (p : α → Bool) (e : α → PyData) (hok : ok κ) : ∀ (xs : List α) (acc : List PyData), acc.length + xs.length ≤ sizeLine →
    (∀ x ∈ xs, ∀ C : Bool → Rho → Kap → Prop, (∀ ρ1, (p x = true → ∀ D : R → Kap → Prop, D (.d (e x)) κ → we ρ1 κ D) → C (p x) ρ1 κ) → g (.d (f x)) ρw κ fun ρ1 κ1 => wt ρ1 κ1 fun b κ2 => C b ρ1 κ2) →
    P (.f (acc ++ (xs.filter p).map e)) κ → lcL ok g wt we ρw P (xs.map f) acc κ
  | [], acc, _, _, hp => by simpa using hp
  | x :: xs, acc, hl, h, hp => by
    rw [List.map_cons, lcL_cons]
    simp only [List.length_cons] at hl
    refine h x (List.mem_cons_self ..) (fun b ρ1 κ2 => if b = true then we ρ1 κ2 fun r κ3 => Opt (dat κ3 r.st) fun q => acc.length < sizeLine ∧ ok q.2 ∧ lcL ok g wt we ρw P (xs.map f) (acc ++ [q.1]) q.2 else ok κ2 ∧ lcL ok g wt we ρw P (xs.map f) acc κ2) fun ρ1 hw => ?_
    by_cases hb : p x = true
    · rw [if_pos hb]
      refine hw hb _ ⟨by omega, hok, lc_filter f p e hok xs _ (by rw [List.length_append, List.length_singleton]; omega) (fun y hy => h y (List.mem_cons_of_mem _ hy)) ?_⟩
      rw [List.filter_cons_of_pos hb] at hp
      rw [List.append_assoc]
      exact hp
    · rw [if_neg hb]
      refine ⟨hok, lc_filter f p e hok xs acc (by omega) (fun y hy => h y (List.mem_cons_of_mem _ hy)) ?_⟩
      rw [List.filter_cons_of_neg hb] at hp
      exact hp

/-! ### hooks and rows -/
abbrev Hook := Str × Str × Int
abbrev Row := List Hook
def hookD (h : Hook) : PyData := .tuple [.str h.1, .str h.2.1, .int h.2.2]
def turned (h : Hook) : Hook := (h.1, h.2.1, -h.2.2)
def back (r : Row) : Row := r.reverse.map turned
theorem back_len (r : Row) : (back r).length = r.length := by unfold back; rw [List.length_map, List.length_reverse]
def Ph_turned (rs : List R) (P : R → Prop) : Prop := ∃ h : Hook, rs = [.d (hookD h)] ∧ P (.d (hookD (turned h)))
def Ph_back (rs : List R) (P : R → Prop) : Prop := ∃ r : Row, rs = [.d (.list (r.map hookD))] ∧ r.length ≤ sizeLine ∧ P (.f ((back r).map hookD))
abbrev Ph_law_back := Ph_back

/-! ### what is drawn from -/
def Box (N : Int) (bs : List PyData) : Prop := ∃ x c n : Int, bs = [.int x, .int c, .int n] ∧ 0 ≤ x ∧ 0 ≤ c ∧ c ≤ 2 ^ 40 ∧ 0 ≤ n ∧ n ≤ N
theorem Box.mono {N M : Int} {bs : List PyData} (h : Box N bs) (l : N ≤ M) : Box M bs := by
  obtain ⟨x, c, n, e, h1, h2, h3, h4, h5⟩ := h
  exact ⟨x, c, n, e, h1, h2, h3, h4, by omega⟩
def Ph_law_take (bs : List PyData) (rs : List R) (P : R → List PyData → Prop) : Prop := ∃ N b : Int, Box N bs ∧ N < 2 ^ 40 ∧ rs = [.d (.int b)] ∧ 0 < b ∧ b < 2 ^ 30 ∧ ∀ (r : Int) (bs' : List PyData), 0 ≤ r → r < b → Box (N + 1) bs' → P (.d (.int r)) bs'
def Ph_law_box (rs : List R) (P : R → Prop) : Prop := ∃ (ns : List Int) (k : Int), rs = [.s ns, .d (.int k)] ∧ 0 ≤ k ∧ k ≤ 1000 ∧ ∀ bs, Box 0 bs → P (.f bs)
end SH
namespace SH
open PySem PySem.Spec PyProof.Rows L2 DL
/-- turned -/
def w_turned : DTS := (wSeq (wAsg (wVar 0) (wTupG 3 (wgCons (wName 1) (wgCons (wName 2) (wgCons (wName 3) wgNil)))))
  (wRet (wTup (wCons (wVar 1) (wCons (wVar 2) (wCons (wUn negD (wVar 3)) wNil))))))
theorem r_turned (rs : List R) (Pd : R → Prop) (h : Ph_turned rs Pd) (hl : rs.length = 1) : w_turned { nx := fun _ _ => Pd (.d .none), rt := fun r κ => Opt (outR κ 0 r) Pd } (rs.map some ++ List.replicate 3 none) [] := by
  obtain ⟨h, rfl, k⟩ := h
  simp [w_turned, hookD, sizeLine_eq]
  exact k
/-- back -/
def w_back : DTS := (wRet (wLc (wRev (wCons (wVar 0) wNil)) (wName 1) wYes (wCall Ph_turned (wCons (wVar 1) wNil)) [1]))
theorem r_back (rs : List R) (Pd : R → Prop) (h : Ph_back rs Pd) (hl : rs.length = 1) : w_back { nx := fun _ _ => Pd (.d .none), rt := fun r κ => Opt (outR κ 0 r) Pd } (rs.map some ++ List.replicate 1 none) [] := by
  obtain ⟨r, rfl, hr, k⟩ := h
  simp [w_back]
  rw [← List.map_reverse]
  refine lc_map hookD (fun h => hookD (turned h)) (by simp) r.reverse [] (by simpa using hr) (fun h _ C hC => ?_) ?_
  · simp
    exact ⟨h, rfl, hC⟩
  · have e : (back r).map hookD = r.reverse.map (fun h => hookD (turned h)) := by
      unfold back; rw [List.map_map]; rfl
    rw [e] at k
    simpa only [outR_f, Opt_some, List.nil_append] using k
/-- _law_take -/
def w_law_take : DTS := (wSeq (wIfS (wB (wBin (ciD gtI) (wBin ixD (wVar 0) (wC (.int 0))) (wC (.int 0)))) (wSeq (wSet false 2 (wBin modD (wBin ixD (wVar 0) (wC (.int 0))) (wVar 1)))
  (wSeq (wAsg (wBin fdivD (wBin ixD (wVar 0) (wC (.int 0))) (wVar 1)) (wSub (wVar 0) (wC (.int 0))))
  (wRet (wVar 2)))) wNext)
  (wSeq (wAsg (wBin addD (wBin ixD (wVar 0) (wC (.int 2))) (wC (.int 1))) (wSub (wVar 0) (wC (.int 2))))
  (wSeq (wSet false 3 (wBin modD (wBin powD (wBin addD (wBin ixD (wVar 0) (wC (.int 1))) (wBin mulD (wC (.int 39373)) (wBin ixD (wVar 0) (wC (.int 2))))) (wC (.int 5))) (wC (.int 2147483647))))
  (wRet (wBin modD (wBin fdivD (wBin modD (wBin addD (wBin mulD (wVar 3) (wBin addD (wBin modD (wVar 3) (wC (.int 40009))) (wC (.int 7)))) (wBin mulD (wBin ixD (wVar 0) (wC (.int 2))) (wC (.int 7919)))) (wC (.int 2147483629))) (wC (.int 64))) (wVar 1))))))
theorem ix3_0 (a b c : PyData) : ixD (.list [a, b, c]) (.int 0) = some (.v a) := rfl
theorem ix3_1 (a b c : PyData) : ixD (.list [a, b, c]) (.int 1) = some (.v b) := rfl
theorem ix3_2 (a b c : PyData) : ixD (.list [a, b, c]) (.int 2) = some (.v c) := rfl
theorem ixN3_0 : ixN 3 0 = some 0 := rfl
theorem ixN3_2 : ixN 3 2 = some 2 := rfl
theorem r_law_take (bs : List PyData) (rs : List R) (Pd : R → List PyData → Prop) (h : Ph_law_take bs rs Pd) (hl : rs.length = 1) : w_law_take { nx := fun _ κ => endL κ (.d .none) Pd, rt := fun r κ => endL κ r Pd } (some (.c 0) :: (rs.map some ++ List.replicate 2 none)) [.l bs] := by
  obtain ⟨N, b, ⟨x, c, n, rfl, hx, hc, hc2, hn, hn2⟩, hN, rfl, hb, hb2, k⟩ := h
  have hp : (c + 39373 * (n + 1)).natAbs < 2 ^ 64 := by omega
  have hm : ∀ q : Int, 0 ≤ q % 2147483647 ∧ q % 2147483647 < 2147483647 := fun q => ⟨Int.emod_nonneg _ (by decide), Int.emod_lt_of_pos _ (by decide)⟩
  simp [w_law_take, ix3_0, ix3_1, ix3_2, ixN3_0, ixN3_2, gtI]
  by_cases h0 : 0 < x
  · rw [if_pos h0]
    rw [modD_int hb, Opt_some]
    simp [fdivD_int hb (by omega), ix3_0, ixN3_0]
    refine k _ _ (Int.emod_nonneg _ (by omega)) (Int.emod_lt_of_pos _ hb) ⟨_, c, n, rfl, Int.ediv_nonneg hx (by omega), hc, hc2, hn, by omega⟩
  · rw [if_neg h0]
    rw [mulD_int (.inl (by decide)), Opt_some]
    simp only [out_v, addD_int, Opt_some, st_d, val_d]
    rw [powD_int (by decide) (by decide) hp, Opt_some]
    simp only [out_v, Opt_some, st_d, val_d]
    rw [modD_int (by decide), Opt_some]
    obtain ⟨q1, q2⟩ := hm ((c + 39373 * (n + 1)) ^ (5 : Int).toNat)
    generalize (c + 39373 * (n + 1)) ^ (5 : Int).toNat % 2147483647 = o at q1 q2
    simp only [out_v, Opt_some, st_d, val_d, List.set_cons_succ, List.set_cons_zero, List.getElem?_cons_succ, List.getElem?_cons_zero]
    rw [modD_int (by decide), Opt_some]
    simp only [out_v, addD_int, Opt_some, st_d, val_d]
    rw [mulD_int (.inl (by omega)), Opt_some, mulD_int (.inl (by omega)), Opt_some]
    simp only [out_v, addD_int, Opt_some, st_d, val_d]
    rw [modD_int (by decide), Opt_some]
    simp only [out_v, Opt_some, st_d, val_d]
    rw [fdivD_int (by decide) (by decide), Opt_some]
    simp only [out_v, Opt_some, st_d, val_d]
    rw [modD_int hb, Opt_some]
    simp only [out_v, endL_d]
    exact k _ _ (Int.emod_nonneg _ (by omega)) (Int.emod_lt_of_pos _ hb) ⟨x, c, n + 1, rfl, hx, hc, hc2, by omega, by omega⟩
/-- _law_box -/
def w_law_box : DTS := (wSeq (wSet false 2 (wC (.int 0)))
  (wSeq (wIfS (wB (wBin (ordD ltI ltS) (wVar 1) (wLenS (wVar 0)))) (wSet false 2 (wScr (wVar 0) (wVar 1))) wNext)
  (wRet (wLst (wCons (wBin mulD (wCB absD (wCons (wVar 2) wNil)) (wCB intC (wCons (wBin (ciD geI) (wCB absD (wCons (wVar 2) wNil)) (wBin powD (wC (.int 10)) (wC (.int 18)))) wNil))) (wCons (wBin addD (wBin addD (wBin modD (wVar 2) (wC (.int 2147483629))) (wBin mulD (wC (.int 7919)) (wVar 1))) (wC (.int 11))) (wCons (wC (.int 0)) wNil)))))))
theorem r_law_box (rs : List R) (Pd : R → Prop) (h : Ph_law_box rs Pd) (hl : rs.length = 2) : w_law_box { nx := fun _ _ => Pd (.d .none), rt := fun r κ => Opt (outR κ 0 r) Pd } (rs.map some ++ List.replicate 1 none) [] := by
  obtain ⟨ns, k, rfl, h0, h1, q⟩ := h
  have fin : ∀ z : Int, wRet (wLst (wCons (wBin mulD (wCB absD (wCons (wVar 2) wNil)) (wCB intC (wCons (wBin (ciD geI) (wCB absD (wCons (wVar 2) wNil)) (wBin powD (wC (.int 10)) (wC (.int 18)))) wNil))) (wCons (wBin addD (wBin addD (wBin modD (wVar 2) (wC (.int 2147483629))) (wBin mulD (wC (.int 7919)) (wVar 1))) (wC (.int 11))) (wCons (wC (.int 0)) wNil)))) { nx := fun _ _ => Pd (.d .none), rt := fun r κ => Opt (outR κ 0 r) Pd } [some (.s ns), some (.d (.int k)), some (.d (.int z))] [] := fun z => by
    simp [geI, powD_int (i := 10) (j := 18) (by decide) (by decide) (by decide)]
    rw [mulD_int (.inr (by constructor <;> (repeat' split) <;> decide)), Opt_some]
    simp
    rw [modD_int (by decide), Opt_some, mulD_int (.inl (by decide)), Opt_some]
    simp [sizeLine_eq]
    refine q _ ⟨_, _, _, rfl, ?_, ?_, ?_, Int.le_refl 0, Int.le_refl 0⟩
    · split <;> split <;> omega
    · have := Int.emod_nonneg z (show (2147483629 : Int) ≠ 0 by decide)
      omega
    · have := Int.emod_lt_of_pos z (show (0 : Int) < 2147483629 by decide)
      omega
  simp only [w_law_box, s_seq, s_set, s_c, s_if, s_B, s_bin, s_var, s_lenS, s_scr, List.map_cons, List.map_nil, List.cons_append, List.nil_append, List.replicate_succ, List.replicate_zero, sto_f, st_d, val_d, Opt_some, List.set_cons_succ, List.set_cons_zero, List.getElem?_cons_succ, List.getElem?_cons_zero, ordD_int, out_v, s_next]
  by_cases hk : k < (ns.length : Int)
  · simp only [ltI, decide_eq_true hk, if_true]
    obtain ⟨j, rfl⟩ : ∃ j : Nat, k = (j : Int) := ⟨k.toNat, by omega⟩
    have hj : j < ns.length := by omega
    rw [atI_nat (List.getElem?_eq_getElem hj), Opt_some]
    exact fin _
  · simp only [ltI, decide_eq_false hk, Bool.false_eq_true, if_false]
    exact fin 0
end SH
/-! SHc: names: plain facts of texts, then the walk of the law's own drawing of names. -/
namespace SH
open PySem PySem.Spec PyProof.Rows L2 DL

/-! ### texts as lists of codes -/
abbrev cs (z : Str) : List Nat := z.cps.toList
theorem cs_inj {x y : Str} (h : cs x = cs y) : x = y := PySem.W.str_of_cps h
theorem cs_app (x y : Str) : cs (x ++ y) = cs x ++ cs y := by
  show (x.cps ++ y.cps).toList = _
  rw [Array.toList_append]
theorem cs_len (x : Str) : (cs x).length = x.length := by show x.cps.toList.length = x.cps.size; rw [Array.length_toList]
theorem join_eq (sep : Str) (l : List Str) : Txt.join sep l = Str.join sep l := eq_of_beq (PyProof.Rows.join_plain_closes sep l)
theorem cs_join0 {e : Str} (he : cs e = []) : ∀ l : List Str, cs (Txt.join e l) = (l.map cs).flatten := by
  intro l
  rw [join_eq]
  induction l with
  | nil => rfl
  | cons x l ih =>
    cases l with
    | nil => show cs x = _; simp
    | cons y l =>
      show cs (x ++ e ++ Str.join e (y :: l)) = _
      rw [cs_app, cs_app, he, ih]
      simp
/-- a NAME: one to six letters -/
def IsName (z : Str) : Prop := 1 ≤ (cs z).length ∧ (cs z).length ≤ 6 ∧ ∀ c ∈ cs z, 97 ≤ c ∧ c ≤ 122
/-- rising names -/
def Names (ns : List Str) : Prop := (∀ z ∈ ns, IsName z) ∧ ns.Pairwise fun x y => cs x < cs y
theorem IsName.shaped {z : Str} (h : IsName z) : SeqAt.shaped (.str z) = true := by
  have e : z.cps.all (fun c => decide (c < 0x110000)) = true := by
    rw [← Array.all_toList]
    rw [List.all_eq_true]
    intro c hc
    have := (h.2.2 c hc).2
    exact decide_eq_true (by omega)
  unfold SeqAt.shaped PyData.canLay0
  rw [Bool.and_eq_true]
  exact ⟨e, by simp [PyData.depth]⟩
theorem shaped_strs : ∀ {ns : List Str}, (∀ z ∈ ns, IsName z) → SeqAt.shaped (.list (ns.map .str)) = true := by
  intro ns h
  unfold SeqAt.shaped PyData.canLay0
  rw [Bool.and_eq_true]
  have a1 : PyData.canLayAll0 (ns.map .str) = true ∧ PyData.depthAll (ns.map .str) = 0 := by
    induction ns with
    | nil => exact ⟨by simp [PyData.canLayAll0], by simp [PyData.depthAll]⟩
    | cons z ns ih =>
      obtain ⟨h1, h2⟩ := ih fun y hy => h y (List.mem_cons_of_mem _ hy)
      have q := (h z (List.mem_cons_self ..)).shaped
      unfold SeqAt.shaped at q
      rw [Bool.and_eq_true] at q
      rw [List.map_cons]
      exact ⟨by rw [PyData.canLayAll0, q.1, h1]; rfl, by rw [PyData.depthAll, h2]; simp [PyData.depth]⟩
  exact ⟨a1.1, by rw [PyData.depth, a1.2]; decide⟩
theorem eqv_str (x y : Str) : PyData.eqv (.str x) (.str y) = (x == y) := by rw [PyData.eqv]
theorem any_str (ns : List Str) (z : Str) : ((ns.map PyData.str).any fun y => PyData.eqv y (.str z)) = decide (z ∈ ns) := by
  rw [List.any_map]
  induction ns with
  | nil => rfl
  | cons y ns ih =>
    rw [List.any_cons, ih]
    show (PyData.eqv (.str y) (.str z) || _) = _
    rw [eqv_str]
    by_cases e : y = z
    · subst e; simp
    · have e' : ¬ z = y := fun q => e q.symm
      simp [e, e']
/-- more unlike ones than there is room for -/
theorem some_out : ∀ {l fs : List Str}, l.Nodup → fs.length < l.length → ∃ z ∈ l, z ∉ fs
  | [], fs, _, h => by simp at h
  | x :: l, fs, hn, h => by
    by_cases hx : x ∈ fs
    · have hn' := List.nodup_cons.mp hn
      have hl : (fs.erase x).length < l.length := by
        rw [List.length_erase_of_mem hx]
        have : 0 < fs.length := List.length_pos_of_mem hx
        simp only [List.length_cons] at h
        omega
      obtain ⟨z, hz, hz2⟩ := some_out hn'.2 hl
      refine ⟨z, List.mem_cons_of_mem _ hz, fun hm => hz2 ?_⟩
      have hne : z ≠ x := fun e => hn'.1 (by rw [← e]; exact hz)
      exact (List.mem_erase_of_ne hne).mpr hm
    · exact ⟨x, List.mem_cons_self .., hx⟩

/-! ### the letters -/
abbrev letters : Str := "abcdefghijklmnopqrstuvwxyz"
theorem cs_letters : cs letters = (List.range 26).map (· + 97) := by decide +kernel
theorem letters_at {r : Int} (h0 : 0 ≤ r) (h1 : r < 26) : atI letters.cps.toList r = some (r.toNat + 97) := by
  obtain ⟨j, rfl⟩ : ∃ j : Nat, r = (j : Int) := ⟨r.toNat, by omega⟩
  refine atI_nat ?_
  show (cs letters)[j]? = _
  rw [cs_letters, List.getElem?_map, List.getElem?_range (by omega)]
  simp
theorem letters_len : letters.length ≤ sizeLine := by rw [← cs_len, cs_letters, sizeLine_eq]; simp
/-! cuts -/
theorem cs_cut5 (z : Str) : cs (cutS z none (some 5)) = (cs z).take 5 := by
  have e : cutS z none (some 5) = ⟨((z.cps.toList.drop (HT.sIx z.length 0 none)).take (HT.sIx z.length z.length (some 5) - HT.sIx z.length 0 none)).toArray⟩ := rfl
  rw [e]
  show (((cs z).drop _).take _).toArray.toList = _
  rw [List.toList_toArray, HT.sIx_none, List.drop_zero]
  have e2 : HT.sIx z.length z.length (some 5) = min 5 z.length := HT.sIx_nat z.length z.length 5
  rw [e2, ← cs_len]
  rcases Nat.le_total 5 (cs z).length with h | h
  · rw [Nat.min_eq_left h]
  · rw [Nat.min_eq_right h, Nat.sub_zero, List.take_of_length_le (Nat.le_refl _), List.take_of_length_le h]
/-- what may be the next name -/
def cands (z : Str) : List Str := z :: (cs letters).map fun c => cutS z none (some 5) ++ (⟨#[c]⟩ : Str)
theorem cs_cand (z : Str) (c : Nat) : cs (cutS z none (some 5) ++ (⟨#[c]⟩ : Str)) = (cs z).take 5 ++ [c] := by rw [cs_app, cs_cut5]
theorem cands_name {z : Str} (h : IsName z) : ∀ y ∈ cands z, IsName y := by
  intro y hy
  rcases List.mem_cons.mp hy with rfl | hy
  · exact h
  · obtain ⟨c, hc, rfl⟩ := List.mem_map.mp hy
    rw [cs_letters] at hc
    obtain ⟨i, hi, rfl⟩ := List.mem_map.mp hc
    rw [List.mem_range] at hi
    unfold IsName
    rw [cs_cand]
    refine ⟨by simp, by simp; omega, fun d hd => ?_⟩
    rcases List.mem_append.mp hd with hd | hd
    · exact h.2.2 d (List.mem_of_mem_take hd)
    · rw [List.mem_singleton] at hd; omega
theorem cands_out {z : Str} {fs : List Str} (h : fs.length < 26) : ∃ y ∈ cands z, y ∉ fs := by
  have nd : ((cs letters).map fun c => cutS z none (some 5) ++ (⟨#[c]⟩ : Str)).Nodup := by
    rw [cs_letters, List.map_map]
    unfold List.Nodup
    rw [List.pairwise_map]
    refine List.Pairwise.imp ?_ List.nodup_range
    intro a b hab e
    have e' := congrArg cs e
    simp only [Function.comp_apply, cs_cand] at e'
    have := List.append_cancel_left e'
    simp at this
    exact hab this
  obtain ⟨y, h1, h2⟩ := some_out nd (fs := fs) (by rw [cs_letters]; simpa using h)
  exact ⟨y, List.mem_cons_of_mem _ h1, h2⟩
theorem head_filter {l : List Str} {fs : List Str} (h : ∃ y ∈ l, y ∉ fs) : ∃ y ys, l.filter (fun z => !decide (z ∈ fs)) = y :: ys ∧ y ∈ l ∧ y ∉ fs := by
  obtain ⟨y, h1, h2⟩ := h
  have hm : y ∈ l.filter (fun z => !decide (z ∈ fs)) := List.mem_filter.mpr ⟨h1, by simp [h2]⟩
  cases e : l.filter (fun z => !decide (z ∈ fs)) with
  | nil => rw [e] at hm; cases hm
  | cons x xs =>
    have hx : x ∈ l.filter (fun z => !decide (z ∈ fs)) := by rw [e]; exact List.mem_cons_self ..
    obtain ⟨q1, q2⟩ := List.mem_filter.mp hx
    exact ⟨x, xs, rfl, q1, by simpa using q2⟩

/-! ### sorting names -/
theorem sortOk_strs {ns : List Str} (hl : ns.length ≤ sizeLine) : SortOk (ns.map .str) :=
  ⟨PySem.W.AllAlike.of fun _ _ => by rw [PySem.W.alike], PySem.W.Sortable.others fun b => ⟨(fun z => nomatch z), (fun _ z => nomatch z)⟩, fun x hx => by
    obtain ⟨z, _, rfl⟩ := List.mem_map.mp hx
    simp [PyData.depth], by rw [List.length_map]; exact hl⟩
def strLe (x y : Str) : Bool := decide (cs x ≤ cs y)
theorem dLe_str (x y : Str) : dLe (.str x) (.str y) = strLe x y := by
  have h := congrFun (congrFun (PySem.W.dataLe_str (fun z : Str => z)) x) y
  exact h
theorem sort_strs (ns : List Str) : (ns.map PyData.str).mergeSort dLe = (ns.mergeSort strLe).map .str :=
  (List.map_mergeSort fun a _ b _ => (dLe_str a b).symm).symm
theorem sorted_names {ns : List Str} (h : ∀ z ∈ ns, IsName z) (nd : ns.Nodup) : Names (ns.mergeSort strLe) ∧ (ns.mergeSort strLe).length = ns.length := by
  have pm := List.mergeSort_perm ns strLe
  refine ⟨⟨fun z hz => h z (pm.mem_iff.mp hz), ?_⟩, pm.length_eq⟩
  have srt : (ns.mergeSort strLe).Pairwise fun a b => strLe a b = true := by
    refine List.pairwise_mergeSort (fun a b c h1 h2 => ?_) (fun a b => ?_) ns
    · unfold strLe at *
      exact decide_eq_true (List.le_trans (of_decide_eq_true h1) (of_decide_eq_true h2))
    · unfold strLe
      rcases List.le_total (cs a) (cs b) with q | q
      · simp [q]
      · simp [q]
  have nd' : (ns.mergeSort strLe).Nodup := pm.nodup_iff.mpr nd
  refine (List.Pairwise.and srt nd').imp fun {a b} ⟨h1, h2⟩ => ?_
  have h1 := of_decide_eq_true h1
  rcases List.le_iff_lt_or_eq.mp h1 with q | q
  · exact q
  · exact absurd (cs_inj q) h2

/-! ### the walk -/
def IsLet (z : Str) : Prop := (cs z).length = 1 ∧ ∀ c ∈ cs z, 97 ≤ c ∧ c ≤ 122
/-- letters drawn one by one -/
theorem draw_letters {m k q a b : Option R} {fs : List PyData} {P : R → Kap → Prop} : ∀ (xs : List PyData) (zs : List Str) (bs : List PyData) (N : Int), Box N bs → N + (xs.length : Int) < 2 ^ 40 → (∀ z ∈ zs, IsLet z) → zs.length + xs.length ≤ 1000 →
    (∀ (zs' : List Str) (bs' : List PyData), zs'.length = zs.length + xs.length → (∀ z ∈ zs', IsLet z) → Box (N + (xs.length : Int)) bs' → P (.f (zs'.map .str)) [.l bs', .l fs]) →
    lcL (fun _ => True) (wName 6) wYes (wBin ixD (wVar 2) (wCallL Ph_law_take (wCons (wVar 0) (wCons (wC (.int 26)) wNil)))) [some (.c 0), m, some (.d (.str letters)), some (.c 1), k, q, none, a, b] P xs (zs.map .str) [.l bs, .l fs]
  | [], zs, bs, N, hb, _, hz, _, hp => by
    rw [lcL_nil]
    exact hp zs bs (by simp) hz (by simpa using hb)
  | x :: xs, zs, bs, N, hb, hN, hz, hl, hp => by
    simp only [List.length_cons] at hN hl
    rw [lcL_cons]
    simp
    refine ⟨N, 26, hb, by omega, rfl, by decide, by decide, fun r bs' h0 h1 hb' => ?_⟩
    have e : ixD (.str letters) (.int r) = some (.v (.str ⟨#[r.toNat + 97]⟩)) := by
      unfold ixD
      simp only [if_pos letters_len, letters_at h0 h1]
      rfl
    simp only [lab_d, st_d, val_d, Opt_some, e]
    simp
    refine ⟨by rw [sizeLine_eq]; omega, ?_⟩
    have z1 : (zs.map PyData.str) ++ [PyData.str ⟨#[r.toNat + 97]⟩] = (zs ++ [(⟨#[r.toNat + 97]⟩ : Str)]).map .str := by simp
    rw [z1]
    refine draw_letters xs _ bs' (N + 1) hb' (by omega) (fun z hm => ?_) (by simp; omega) fun zs' bs2 h2 h3 h4 => hp zs' bs2 (by simp at h2 ⊢; omega) h3 (h4.mono (by simp; omega))
    rcases List.mem_append.mp hm with hm | hm
    · exact hz z hm
    · rw [List.mem_singleton] at hm
      subst hm
      refine ⟨rfl, fun c hc => ?_⟩
      have : c = r.toNat + 97 := by simpa [cs] using hc
      omega
end SH
namespace SH
open PySem PySem.Spec PyProof.Rows L2 DL
def Ph_law_names (bs : List PyData) (rs : List R) (P : R → List PyData → Prop) : Prop := ∃ (N : Int) (m : Nat), Box N bs ∧ N ≤ 2 ^ 39 ∧ rs = [.d (.int m)] ∧ m ≤ 20 ∧ ∀ (ns : List Str) (bs' : List PyData), ns.length = m → Names ns → Box (N + 200) bs' → P (.f (ns.map .str)) bs'
def wb_names : DTS := (wSeq (wSet false 5 (wBM "str" joinC (wC (.str "")) (wCons (wLc (wRng1 (wCons (wBin ixD (wLst (wCons (wC (.int 1)) (wCons (wC (.int 1)) (wCons (wC (.int 2)) (wCons (wC (.int 6)) wNil))))) (wCallL Ph_law_take (wCons (wVar 0) (wCons (wC (.int 4)) wNil)))) wNil)) (wName 6) wYes (wBin ixD (wVar 2) (wCallL Ph_law_take (wCons (wVar 0) (wCons (wC (.int 26)) wNil)))) [6]) wNil)))
  (wDrop (wAppend (wVar 3) (wBin ixD (wLc (wSq (wBin addD (wLst (wCons (wVar 5) wNil)) (wLc (wSq (wVar 2)) (wName 8) wYes (wBin addD (wSl (wVar 5) wNoP (wP (wC (.int 5)))) (wVar 8)) [8]))) (wName 7) (wB (wBin (inD true) (wVar 7) (wVar 3))) (wVar 7) [7]) (wC (.int 0))))))
/-- _law_names -/
def w_law_names : DTS := (wSeq (wPar 2 3 (wConsM false (wC (.str "abcdefghijklmnopqrstuvwxyz")) (wConsM true (wLst wNil) wNil)))
  (wSeq (wFor (wRng1 (wCons (wVar 1) wNil)) (wName 4) wb_names)
  (wRet (wCB sortC (wCons (wVar 3) wNil)))))
theorem strL_map : ∀ zs : List Str, strL (zs.map PyData.str) = some zs
  | [] => rfl
  | z :: zs => by rw [List.map_cons]; unfold strL; rw [strL_map zs]; rfl
theorem sum_let : ∀ ys : List Str, (∀ z ∈ ys, IsLet z) → (ys.map (·.length)).sum = ys.length
  | [], _ => rfl
  | y :: ys, h => by rw [List.map_cons, List.sum_cons, sum_let ys fun z hz => h z (List.mem_cons_of_mem _ hz), ← cs_len, (h y (List.mem_cons_self ..)).1, List.length_cons, Nat.add_comm]
theorem join_let {zs : List Str} (h : ∀ z ∈ zs, IsLet z) (hl : zs.length ≤ 1000) : joinC (.str "") [.list (zs.map .str)] = some (.v (.str (Txt.join "" zs))) := by
  unfold joinC
  simp only [strL_map]
  rw [if_pos]
  rw [sum_let zs h]
  show zs.length + zs.length * 0 ≤ _
  omega
theorem name_let {zs : List Str} (h : ∀ z ∈ zs, IsLet z) (h1 : 1 ≤ zs.length) (h6 : zs.length ≤ 6) : IsName (Txt.join "" zs) := by
  have e1 : cs (Txt.join "" zs) = (zs.map cs).flatten := cs_join0 rfl zs
  unfold IsName
  rw [e1]
  have e2 : ∀ zs : List Str, (∀ z ∈ zs, IsLet z) → ((zs.map cs).flatten).length = zs.length := fun zs h => by
    induction zs with
    | nil => rfl
    | cons z zs ih =>
      rw [List.map_cons, List.flatten_cons, List.length_append, (h z (List.mem_cons_self ..)).1, List.length_cons]
      rw [ih (fun w hw => h w (List.mem_cons_of_mem _ hw)), Nat.add_comm]
  rw [e2 zs h]
  refine ⟨by omega, by omega, fun d hd => ?_⟩
  obtain ⟨l, hl1, hl2⟩ := List.mem_flatten.mp hd
  obtain ⟨z, hz1, rfl⟩ := List.mem_map.mp hl1
  exact (h z hz1).2 d hl2
theorem cands_map (y : Str) : [PyData.str y] ++ (cs letters).map (fun c => PyData.str (cutS y none (some 5) ++ (⟨#[c]⟩ : Str))) = (cands y).map .str := by
  unfold cands
  generalize cs letters = l
  rw [List.map_cons, List.map_map]
  rfl
theorem letters26 : (cs letters).length = 26 := by rw [cs_letters, List.length_map, List.length_range]
theorem cands_len (y : Str) : (cands y).length = 27 := by unfold cands; rw [List.length_cons, List.length_map, letters26]
theorem cands_fit (y : Str) : [PyData.str y].length + ((cs letters).map fun c => PyData.str (cutS y none (some 5) ++ (⟨#[c]⟩ : Str))).length ≤ sizeLine := by
  rw [List.length_map, letters26, sizeLine_eq, List.length_singleton]
  omega
theorem names_body {E : DEnds} {m x p5 : Option R} {fs : List Str} {bs : List PyData} {N : Int} (hb : Box N bs) (hN : N + 8 < 2 ^ 40) (hz : ∀ z ∈ fs, IsName z) (hl : fs.length < 26)
    (k : ∀ (y z : Str) (bs' : List PyData), IsName z → z ∉ fs → Box (N + 8) bs' → E.nx [some (.c 0), m, some (.d (.str letters)), some (.c 1), x, some (.d (.str y)), none, none, none] [.l bs', .l ((fs ++ [z]).map .str)]) :
    wb_names E [some (.c 0), m, some (.d (.str letters)), some (.c 1), x, p5, none, none, none] [.l bs, .l (fs.map .str)] := by
  simp [wb_names, sizeLine_eq, tyOk]
  refine ⟨N, 4, hb, by omega, rfl, by decide, by decide, fun r bs1 h0 h1 hb1 => ?_⟩
  obtain ⟨c, ec, hc0, hc6⟩ : ∃ c : Int, ixD (.list [.int 1, .int 1, .int 2, .int 6]) (.int r) = some (.v (.int c)) ∧ 1 ≤ c ∧ c ≤ 6 := by
    have : r = 0 ∨ r = 1 ∨ r = 2 ∨ r = 3 := by omega
    rcases this with rfl | rfl | rfl | rfl
    · exact ⟨1, rfl, by decide, by decide⟩
    · exact ⟨1, rfl, by decide, by decide⟩
    · exact ⟨2, rfl, by decide, by decide⟩
    · exact ⟨6, rfl, by decide, by decide⟩
  simp only [lab_d, st_d, val_d, Opt_some, ec]
  simp
  refine ⟨by omega, by omega, ?_⟩
  refine draw_letters _ [] bs1 (N + 1) hb1 ?_ (by simp) ?_ fun zs bs2 l1 l2 b2 => ?_
  · simp; omega
  · simp; omega
  simp at l1
  have ej := join_let l2 (by omega)
  have hy' := name_let l2 (by omega) (by omega)
  simp [ej]
  obtain ⟨y, ey⟩ : ∃ y, y = Txt.join "" zs := ⟨_, rfl⟩
  have hy : IsName y := by rw [ey]; exact hy'
  rw [← ey]
  have ly : y.length ≤ 6 := by rw [← cs_len]; exact hy.2.1
  have hl27 := cands_fit y
  have hcm := cands_map y
  have hcl := cands_len y
  have hcn := cands_name hy
  have hco := cands_out (z := y) hl
  have hl26 := letters26
  obtain ⟨C, hC⟩ : ∃ C, C = cands y := ⟨_, rfl⟩
  rw [← hC] at hcm hcl hcn hco
  have e1 : (List.map (fun c => PyData.str { cps := #[c] }) letters.cps.toList) = (cs letters).map fun c => PyData.str ⟨#[c]⟩ := rfl
  rw [e1]
  obtain ⟨L, hL⟩ : ∃ L, L = cs letters := ⟨_, rfl⟩
  rw [← hL] at hcm hl27 hl26 ⊢
  refine lc_map (fun c => PyData.str ⟨#[c]⟩) (fun c => PyData.str (cutS y none (some 5) ++ (⟨#[c]⟩ : Str))) trivial L [] (by rw [hl26, sizeLine_eq, List.length_nil]; omega) (fun c _ C hC => ?_) ?_
  · have l2 : (cutS y none (some 5)).length + (⟨#[c]⟩ : Str).length ≤ sizeLine := by
      rw [← cs_len, cs_cut5, sizeLine_eq]
      show ((cs y).take 5).length + 1 ≤ _
      rw [List.length_take]
      omega
    simp [slD_str none (some 5) (show y.length ≤ sizeLine by rw [sizeLine_eq]; omega), addD_str l2]
    exact hC
  simp only [List.nil_append, st_f, val_d, Opt_some, addD_list hl27, out_n]
  rw [hcm]
  refine lc_filter (κ := [Cell.l bs2, Cell.l (List.map PyData.str fs)]) PyData.str (fun z => !decide (z ∈ fs)) PyData.str trivial C [] (by rw [hcl, sizeLine_eq, List.length_nil]; omega) (fun z hz1 C hC => ?_) ?_
  · simp
    have sh := shaped_strs hz
    have sz := (hcn z hz1).shaped
    have ei : inD true (.str z) (.list (fs.map .str)) = some (.v (.bool (!decide (z ∈ fs)))) := by
      refine (show inD true (.str z) (.list (fs.map .str)) = some (.v (.bool (!(fs.map PyData.str).any fun y => PyData.eqv y (.str z)))) from ?_).trans (by rw [any_str])
      show (if SeqAt.shaped (.str z) = true ∧ SeqAt.shaped (.list (fs.map .str)) = true then _ else none) = _
      rw [if_pos ⟨sz, sh⟩]
      rfl
    rw [ei]
    simp
    refine hC _ fun _ D hD => ?_
    simp
    exact hD
  · obtain ⟨z, zs', ez, hz1, hz2⟩ := head_filter hco
    rw [ez]
    simp
    rw [ixD_list (i := 0) (x := .str z) (atI_nat (j := 0) rfl)]
    simp
    refine ⟨by omega, ?_⟩
    have e3 : fs.map PyData.str ++ [.str z] = (fs ++ [z]).map .str := by simp
    rw [e3]
    refine k y z bs2 (hcn z hz1) hz2 (b2.mono ?_)
    simp
    omega
theorem names_loop {E : DEnds} {m : Option R} : ∀ (xs : List PyData) (fs : List Str) (bs : List PyData) (N : Int) (p4 p5 : Option R), Box N bs → N + 8 * (xs.length : Int) < 2 ^ 40 → (∀ z ∈ fs, IsName z) → fs.Nodup → fs.length + xs.length ≤ 26 →
    (∀ (fs' : List Str) (bs' : List PyData) (q4 q5 : Option R), fs'.length = fs.length + xs.length → (∀ z ∈ fs', IsName z) → fs'.Nodup → Box (N + 8 * (xs.length : Int)) bs' → E.nx [some (.c 0), m, some (.d (.str letters)), some (.c 1), q4, q5, none, none, none] [.l bs', .l (fs'.map .str)]) →
    forL (fun _ => True) (wName 4) wb_names E xs [some (.c 0), m, some (.d (.str letters)), some (.c 1), p4, p5, none, none, none] [.l bs, .l (fs.map .str)]
  | [], fs, bs, N, p4, p5, hb, hN, hz, nd, hl, k => by
    rw [forL_nil]
    exact k fs bs p4 p5 (by simp) hz nd (by simpa using hb)
  | x :: xs, fs, bs, N, p4, p5, hb, hN, hz, nd, hl, k => by
    rw [forL_cons]
    simp only [List.length_cons] at hN hl k
    refine names_body (x := some (.d x)) hb (by omega) hz (by omega) fun y z bs' hz1 hz2 hb' => ⟨trivial, ?_⟩
    refine names_loop xs (fs ++ [z]) bs' (N + 8) _ _ hb' (by omega) (fun w hw => ?_) ?_ (by simp; omega) fun fs' bs2 q4 q5 h1 h2 h3 h4 => k fs' bs2 q4 q5 (by simp at h1; omega) h2 h3 (h4.mono (by omega))
    · rcases List.mem_append.mp hw with hw | hw
      · exact hz w hw
      · rw [List.mem_singleton] at hw; rw [hw]; exact hz1
    · rw [List.nodup_append]
      refine ⟨nd, by simp, fun a ha b hb2 => ?_⟩
      rw [List.mem_singleton] at hb2
      intro e
      exact hz2 (by rw [← hb2, ← e]; exact ha)
theorem r_law_names (bs : List PyData) (rs : List R) (Pd : R → List PyData → Prop) (h : Ph_law_names bs rs Pd) (hl : rs.length = 1) : w_law_names { nx := fun _ κ => endL κ (.d .none) Pd, rt := fun r κ => endL κ r Pd } (some (.c 0) :: (rs.map some ++ List.replicate 7 none)) [.l bs] := by
  obtain ⟨N, m, hb, hN, rfl, hm, k⟩ := h
  simp [w_law_names, sizeLine_eq]
  refine ⟨by omega, ?_⟩
  refine names_loop _ [] bs N none none hb ?_ (fun z hz => nomatch hz) List.nodup_nil ?_ fun fs' bs' q4 q5 h1 h2 h3 h4 => ?_
  · simp; omega
  · simp; omega
  simp at h1
  simp
  rw [sortC_list (sortOk_strs (by rw [sizeLine_eq]; omega))]
  obtain ⟨n1, n2⟩ := sorted_names h2 h3
  rw [sort_strs]
  simp
  refine k _ _ (by rw [n2, h1]) n1 (h4.mono ?_)
  simp
  omega
end SH
/-! SHe: the law's own comparison of what's found and what's due. -/
namespace SH
open PySem PySem.Spec PyProof.Rows L2 DL
def GoodN : Nat → PyData → Prop
  | 0, _ => False
  | n + 1, .list xs => xs.length ≤ sizeLine ∧ ∀ x ∈ xs, GoodN n x
  | n + 1, .tuple xs => xs.length ≤ sizeLine ∧ ∀ x ∈ xs, GoodN n x
  | _ + 1, .str z => SeqAt.shaped (.str z) = true
  | _ + 1, .int _ => True
  | _ + 1, .bool _ => True
  | _ + 1, .none => True
  | _, _ => False
def Ph_law_sameN (n : Nat) (rs : List R) (P : R → Prop) : Prop := ∃ x, rs = [.d x, .d x] ∧ GoodN n x ∧ P (.d (.bool true))
def Ph_law_sameLN (n : Nat) (bs : List PyData) (rs : List R) (P : R → List PyData → Prop) : Prop := rs = [.d (.list bs)] ∧ GoodN n (.list bs) ∧ P (.d (.bool true)) bs
theorem n_law_same {rs : List R} {P : R → Prop} (h : Ph_law_sameN 0 rs P) : False := by
  obtain ⟨x, _, g, _⟩ := h
  cases x <;> exact g.elim
/-- _law_same -/
def w_law_same (Ph_law_same : List R → (R → Prop) → Prop) : DTS := (wSeq (wIfS (wTru (wIsi2 .list .tuple (wVar 1))) (wSeq (wIfS (wOr (wB (wBin (eqD true) (wIsi .list (wVar 0)) (wIsi .list (wVar 1)))) (wB (wBin (eqD true) (wIsi .tuple (wVar 0)) (wIsi .tuple (wVar 1))))) (wRet (wC (.bool false))) wNext)
  (wRet (wAndV (wBin (eqD false) (wCB lenD (wCons (wVar 0) wNil)) (wCB lenD (wCons (wVar 1) wNil))) (wCB (allC fun bs => bs.all id) (wCons (wLc (wZip (wCons (wVar 0) (wCons (wVar 1) wNil))) (wTupG 2 (wgCons (wName 2) (wgCons (wName 3) wgNil))) wYes (wCall Ph_law_same (wCons (wVar 2) (wCons (wVar 3) wNil))) [2, 3]) wNil))))) wNext)
  (wSeq (wIfS (wOr (wB (wBin (isND false) (wVar 1) (wC .none))) (wTru (wIsi .str (wVar 1)))) (wRet (wAndV (wBin (eqD false) (wVar 0) (wVar 1)) (wBin (eqD false) (wIsi .str (wVar 0)) (wIsi .str (wVar 1))))) wNext)
  (wRet (wAndV (wIsi .int (wVar 0)) (wAndV (wBin (eqD false) (wIsi .bool (wVar 0)) (wIsi .bool (wVar 1))) (wBin (eqD false) (wVar 0) (wVar 1)))))))
theorem eqD_bool (neg a b : Bool) : eqD neg (.bool a) (.bool b) = some (.v (.bool (if neg then !(a == b) else a == b))) := by
  cases a <;> cases b <;> cases neg <;> rfl
theorem eqD_int (i : Int) : eqD false (.int i) (.int i) = some (.v (.bool true)) := by
  rw [eqD_of (by unfold SeqAt.shaped PyData.canLay0; simp [PyData.depth]) (by unfold SeqAt.shaped PyData.canLay0; simp [PyData.depth])]
  simp [PyData.eqv]
theorem eqD_str {z : Str} (h : SeqAt.shaped (.str z) = true) : eqD false (.str z) (.str z) = some (.v (.bool true)) := by
  rw [eqD_of h h]
  simp [PyData.eqv]
theorem isND_none : isND false .none .none = some (.v (.bool true)) := rfl
theorem isND_str (z : Str) : isND false (.str z) .none = some (.v (.bool false)) := rfl
theorem isND_int (i : Int) : isND false (.int i) .none = some (.v (.bool false)) := rfl
theorem isND_bool (b : Bool) : isND false (.bool b) .none = some (.v (.bool false)) := rfl
theorem eqD_none : eqD false .none .none = some (.v (.bool true)) := rfl
theorem zip_self : ∀ xs : List PyData, zipD xs xs = xs.map fun x => .tuple [x, x]
  | [] => rfl
  | x :: xs => by rw [List.map_cons, ← zip_self xs]; rfl
theorem bools_map {α : Type} (b : Bool) : ∀ xs : List α, bools (xs.map fun _ => PyData.bool b) = some (xs.map fun _ => b)
  | [] => rfl
  | x :: xs => by rw [List.map_cons]; unfold bools; rw [bools_map b xs]; rfl
theorem all_map {α : Type} (xs : List α) : allC (fun bs => bs.all id) [.list (xs.map fun _ => PyData.bool true)] = some (.v (.bool true)) := by
  unfold allC
  simp [bools_map]
theorem same_in {ok : Kap → Prop} {n : Nat} {xs : List PyData} {p q : Option R} {P : R → Kap → Prop} {κ : Kap} (hok : ok κ) (hl : xs.length ≤ sizeLine) (h : ∀ x ∈ xs, GoodN n x) (k : P (.f (xs.map fun _ => .bool true)) κ) :
    lcL ok (wTupG 2 (wgCons (wName 2) (wgCons (wName 3) wgNil))) wYes (wCall (Ph_law_sameN n) (wCons (wVar 2) (wCons (wVar 3) wNil))) [p, q, none, none] P (zipD xs xs) [] κ := by
  rw [zip_self]
  refine lc_map (fun x => .tuple [x, x]) (fun _ => .bool true) hok xs [] (by simpa using hl) (fun x hx C hC => ?_) (by simpa using k)
  simp
  exact ⟨x, rfl, h x hx, hC⟩
theorem r_law_same (n : Nat) (rs : List R) (Pd : R → Prop) (h : Ph_law_sameN (n + 1) rs Pd) (hl : rs.length = 2) : w_law_same (Ph_law_sameN n) { nx := fun _ _ => Pd (.d .none), rt := fun r κ => Opt (outR κ 0 r) Pd } (rs.map some ++ List.replicate 2 none) [] := by
  obtain ⟨x, rfl, g, k⟩ := h
  cases x with
  | list xs =>
    simp [w_law_same, isi, truth, eqD_bool, eqD_int]
    refine same_in trivial g.1 g.2 ?_
    simp [all_map]
    exact k
  | tuple xs =>
    simp [w_law_same, isi, truth, eqD_bool, eqD_int]
    refine same_in trivial g.1 g.2 ?_
    simp [all_map]
    exact k
  | none =>
    simp [w_law_same, isi, truth, eqD_bool, eqD_int, isND_none, eqD_none]
    exact k
  | str z =>
    simp [w_law_same, isi, truth, eqD_bool, eqD_int, isND_str, eqD_str g]
    exact k
  | int i =>
    simp [w_law_same, isi, truth, eqD_bool, eqD_int, isND_int]
    exact k
  | bool b =>
    simp [w_law_same, isi, truth, eqD_bool, eqD_int, isND_bool]
    exact k
  | _ => exact g.elim
theorem r_law_sameL (n : Nat) (bs : List PyData) (rs : List R) (Pd : R → List PyData → Prop) (h : Ph_law_sameLN (n + 1) bs rs Pd) (hl : rs.length = 1) : w_law_same (Ph_law_sameN n) { nx := fun _ κ => endL κ (.d .none) Pd, rt := fun r κ => endL κ r Pd } (some (.c 0) :: (rs.map some ++ List.replicate 2 none)) [.l bs] := by
  obtain ⟨rfl, g, k⟩ := h
  simp [w_law_same, isi, truth, eqD_bool, eqD_int]
  refine same_in (by simp) g.1 g.2 ?_
  simp [all_map]
  exact k
end SH
/-! SHf: knots, by the program and by the law. -/
namespace SH
open PySem PySem.Spec PyProof.Rows L2 DL
def kstep (r : Row) (l x : Str) : Row := r ++ [(l, x, 1)] ++ back r ++ [(l, x, -1)]
def knotL : Row → Str → List Str → Row
  | r, _, [] => r
  | r, l, x :: xs => knotL (kstep r l x) x xs
def knot : List Str → Row
  | a :: b :: ns => knotL [(a, b, 1)] b ns
  | _ => []
theorem kstep_len (r : Row) (l x : Str) : (kstep r l x).length = 2 * r.length + 2 := by
  unfold kstep
  simp [back_len]
  omega
theorem knotL_len : ∀ (ns : List Str) (r : Row) (l : Str), (knotL r l ns).length + 2 = (r.length + 2) * 2 ^ ns.length
  | [], r, l => by simp [knotL]
  | x :: xs, r, l => by
    rw [knotL, knotL_len xs, kstep_len, List.length_cons, Nat.pow_succ, Nat.mul_comm (2 ^ xs.length) 2, ← Nat.mul_assoc]
    congr 1
    omega
def Ph_knot (rs : List R) (P : R → Prop) : Prop := ∃ (a b : Str) (ns : List Str), rs = [.d (.tuple ((a :: b :: ns).map .str))] ∧ ns.length ≤ 16 ∧ P (.f ((knot (a :: b :: ns)).map hookD))
def Ph_law_knot (rs : List R) (P : R → Prop) : Prop := ∃ (a b : Str) (ns : List Str) (d : PyData), rs = [.d d] ∧ (d = .tuple ((a :: b :: ns).map .str) ∨ d = .list ((a :: b :: ns).map .str)) ∧ ns.length ≤ 16 ∧ P (.d (.list ((knot (a :: b :: ns)).map hookD)))
def wb_knot : DTS := (wSeq (wSet false 6 (wTup (wCons (wVar 2) (wCons (wVar 5) (wCons (wC (.int (1))) wNil)))))
  (wSeq (wSet true 4 (wBin addD (wBin addD (wBin addD (wVar 4) (wLst (wCons (wVar 6) wNil))) (wCall Ph_back (wCons (wVar 4) wNil))) (wLst (wCons (wCall Ph_turned (wCons (wVar 6) wNil)) wNil))))
  (wSet false 2 (wVar 5))))
/-- knot -/
def w_knot : DTS := (wSeq (wAsg (wVar 0) (wStar 3 2 (wgCons (wName 1) (wgCons (wName 2) (wgCons (wName 3) wgNil)))))
  (wSeq (wSet true 4 (wLst (wCons (wTup (wCons (wVar 1) (wCons (wVar 2) (wCons (wC (.int (1))) wNil)))) wNil)))
  (wSeq (wFor (wSq (wVar 3)) (wName 5) wb_knot)
  (wRet (wVar 4)))))
theorem arg_c {κ : Kap} {k : Nat} {xs : List PyData} (h : κ[k]? = some (.l xs)) : arg κ (.c k) = some (.d (.list xs), κ.set k (.z (.list xs))) := by
  unfold arg dat
  simp only [h]
theorem args_c1 {κ : Kap} {k : Nat} {xs : List PyData} (h : κ[k]? = some (.l xs)) : args κ [.c k] = some ([.d (.list xs)], κ.set k (.z (.list xs))) := by
  unfold args
  rw [arg_c h]
  rfl
theorem set_at {κ : Kap} {k : Nat} {c d : Cell} (h : κ[k]? = some c) : (κ.set k d)[k]? = some d := by
  have := (List.getElem?_eq_some_iff.mp h).1
  simp [this]
theorem knot_body {E : DEnds} {p0 p1 p3 p6 : Option R} {r : Row} {l x : Str} {κ : Kap} {k : Nat} (hk : κ[k]? = some (.l (r.map hookD))) (hr : 2 * r.length + 2 ≤ sizeLine)
    (kk : ∀ p6' κ' k', κ'[k']? = some (.l ((kstep r l x).map hookD)) → E.nx [p0, p1, some (.d (.str x)), p3, some (.c k'), some (.d (.str x)), p6'] κ') :
    wb_knot E [p0, p1, some (.d (.str l)), p3, some (.c k), some (.d (.str x)), p6] κ := by
  have hr' := hr
  rw [sizeLine_eq] at hr'
  have a1 : addD (.list (r.map hookD)) (.list [hookD (l, x, 1)]) = some (.n (r.map hookD ++ [hookD (l, x, 1)])) := addD_list (by simp; omega)
  have a2 : addD (.list (r.map hookD ++ [hookD (l, x, 1)])) (.list ((back r).map hookD)) = some (.n (r.map hookD ++ [hookD (l, x, 1)] ++ (back r).map hookD)) := addD_list (by simp [back_len]; omega)
  have a3 : addD (.list (r.map hookD ++ [hookD (l, x, 1)] ++ (back r).map hookD)) (.list [hookD (turned (l, x, 1))]) = some (.n ((kstep r l x).map hookD)) := by
    rw [addD_list (by simp [back_len]; omega)]; simp [kstep, turned]
  have e0 : PyData.tuple [.str l, .str x, .int 1] = hookD (l, x, 1) := rfl
  simp [wb_knot, sizeLine_eq, e0, a1, val_c hk, args_c1 hk]
  refine ⟨r, rfl, by omega, ?_⟩
  simp only [lab_f, st_f, val_f, val_d, Opt_some, a2, out_n]
  refine ⟨(l, x, 1), rfl, ?_⟩
  simp only [lab_d, st_d, dats_d, dats_nil, Opt_some, out_n, st_f, val_d, a3]
  simp
  exact kk _ _ _ (by simp)
theorem knot_loop {ok : Kap → Prop} {E : DEnds} {p0 p1 p3 : Option R} (hok : ∀ κ, ok κ) : ∀ (xs : List Str) (r : Row) (l : Str) (p5 p6 : Option R) (κ : Kap) (k : Nat), κ[k]? = some (.l (r.map hookD)) → (r.length + 2) * 2 ^ xs.length ≤ sizeLine →
    (∀ l' p5 p6 κ' k', κ'[k']? = some (.l ((knotL r l xs).map hookD)) → E.nx [p0, p1, some (.d (.str l')), p3, some (.c k'), p5, p6] κ') →
    forL ok (wName 5) wb_knot E (xs.map .str) [p0, p1, some (.d (.str l)), p3, some (.c k), p5, p6] κ
  | [], r, l, p5, p6, κ, k, hk, _, kk => by rw [List.map_nil, forL_nil]; exact kk _ _ _ _ _ hk
  | x :: xs, r, l, p5, p6, κ, k, hk, hl, kk => by
    rw [List.map_cons, forL_cons]
    have e : ((kstep r l x).length + 2) * 2 ^ xs.length = (r.length + 2) * 2 ^ (x :: xs).length := by
      rw [kstep_len, List.length_cons, Nat.pow_succ, Nat.mul_comm (2 ^ xs.length) 2, ← Nat.mul_assoc]
      congr 1
      omega
    rw [← e] at hl
    refine knot_body hk ?_ fun p6' κ' k' hk' => ⟨hok _, knot_loop hok xs _ x _ _ κ' k' hk' hl kk⟩
    have : 0 < 2 ^ xs.length := Nat.two_pow_pos _
    have := Nat.le_trans (Nat.le_mul_of_pos_right _ this) hl
    rw [kstep_len] at this
    omega
theorem r_knot (rs : List R) (Pd : R → Prop) (h : Ph_knot rs Pd) (hl : rs.length = 1) : w_knot { nx := fun _ _ => Pd (.d .none), rt := fun r κ => Opt (outR κ 0 r) Pd } (rs.map some ++ List.replicate 6 none) [] := by
  obtain ⟨a, b, ns, rfl, hn, k⟩ := h
  simp [w_knot, sizeLine_eq]
  have e1 : List.take ns.length (ns.map PyData.str) = ns.map .str := by rw [← List.length_map (f := PyData.str), List.take_length]
  have e2 : List.drop ns.length (ns.map PyData.str) = [] := by rw [← List.length_map (f := PyData.str), List.drop_length]
  refine ⟨by omega, ?_⟩
  rw [e1, e2]
  simp [sizeLine_eq]
  refine knot_loop (r := [(a, b, 1)]) (by simp) ns b none none _ _ rfl ?_ fun l' p5 p6 κ' k' hk' => ?_
  · show 3 * 2 ^ ns.length ≤ _
    have := Nat.pow_le_pow_right (n := 2) (by decide) hn
    rw [sizeLine_eq]
    omega
  · simp [outR, hk']
    exact k
end SH
/-! SHg: the law's own knots. -/
namespace SH
open PySem PySem.Spec PyProof.Rows L2 DL
theorem cut_1 {α : Type} (x : α) (xs : List α) : cut (x :: xs) (some 1) none = xs := by
  unfold cut
  rw [show HT.sIx (x :: xs).length 0 (some 1) = min 1 (x :: xs).length from HT.sIx_nat _ 0 1, HT.sIx_none]
  simp
theorem cut_2 {α : Type} (x y : α) (xs : List α) : cut (x :: y :: xs) (some 2) none = xs := by
  unfold cut
  rw [show HT.sIx (x :: y :: xs).length 0 (some 2) = min 2 (x :: y :: xs).length from HT.sIx_nat _ 0 2, HT.sIx_none]
  simp
/-- _law_back -/
def w_law_back : DTS := (wRet (wLc (wSq (wRevS (wVar 0))) (wTupG 3 (wgCons (wName 1) (wgCons (wName 2) (wgCons (wName 3) wgNil)))) wYes (wTup (wCons (wVar 1) (wCons (wVar 2) (wCons (wUn negD (wVar 3)) wNil)))) [1, 2, 3]))
theorem r_law_back (rs : List R) (Pd : R → Prop) (h : Ph_law_back rs Pd) (hl : rs.length = 1) : w_law_back { nx := fun _ _ => Pd (.d .none), rt := fun r κ => Opt (outR κ 0 r) Pd } (rs.map some ++ List.replicate 3 none) [] := by
  obtain ⟨r, rfl, hr, k⟩ := h
  simp [w_law_back]
  rw [← List.map_reverse]
  refine lc_map hookD (fun h => hookD (turned h)) (by simp) r.reverse [] (by simpa using hr) (fun h _ C hC => ?_) ?_
  · simp [hookD, sizeLine_eq]
    exact hC
  · have e : (back r).map hookD = r.reverse.map (fun h => hookD (turned h)) := by
      unfold back; rw [List.map_map]; rfl
    rw [e] at k
    simpa only [outR_f, Opt_some, List.nil_append] using k
def wb_law_knot : DTS := (wSet false 1 (wBin addD (wBin addD (wBin addD (wVar 1) (wLst (wCons (wTup (wCons (wVar 2) (wCons (wVar 3) (wCons (wC (.int 1)) wNil)))) wNil))) (wCall Ph_law_back (wCons (wVar 1) wNil))) (wLst (wCons (wTup (wCons (wVar 2) (wCons (wVar 3) (wCons (wUn negD (wC (.int 1))) wNil)))) wNil))))
/-- _law_knot -/
def w_law_knot : DTS := (wSeq (wSet false 1 (wLst (wCons (wTup (wCons (wBin ixD (wVar 0) (wC (.int 0))) (wCons (wBin ixD (wVar 0) (wC (.int 1))) (wCons (wC (.int 1)) wNil)))) wNil)))
  (wSeq (wFor (wZip (wCons (wSl (wVar 0) (wP (wC (.int 1))) wNoP) (wCons (wSl (wVar 0) (wP (wC (.int 2))) wNoP) wNil))) (wTupG 2 (wgCons (wName 2) (wgCons (wName 3) wgNil))) wb_law_knot)
  (wRet (wVar 1))))
theorem law_knot_body {E : DEnds} {p0 : Option R} {r : Row} {l x : Str} {κ : Kap} (hr : 2 * r.length + 2 ≤ sizeLine)
    (kk : E.nx [p0, some (.d (.list ((kstep r l x).map hookD))), some (.d (.str l)), some (.d (.str x))] κ) :
    wb_law_knot E [p0, some (.d (.list (r.map hookD))), some (.d (.str l)), some (.d (.str x))] κ := by
  have hr' := hr
  rw [sizeLine_eq] at hr'
  have a1 : addD (.list (r.map hookD)) (.list [hookD (l, x, 1)]) = some (.n (r.map hookD ++ [hookD (l, x, 1)])) := addD_list (by simp; omega)
  have a2 : addD (.list (r.map hookD ++ [hookD (l, x, 1)])) (.list ((back r).map hookD)) = some (.n (r.map hookD ++ [hookD (l, x, 1)] ++ (back r).map hookD)) := addD_list (by simp [back_len]; omega)
  have a3 : addD (.list (r.map hookD ++ [hookD (l, x, 1)] ++ (back r).map hookD)) (.list [hookD (l, x, -1)]) = some (.n ((kstep r l x).map hookD)) := by
    rw [addD_list (by simp [back_len]; omega)]; simp [kstep, turned]
  have e0 : PyData.tuple [.str l, .str x, .int 1] = hookD (l, x, 1) := rfl
  have e1 : PyData.tuple [.str l, .str x, .int (-1)] = hookD (l, x, -1) := rfl
  simp [wb_law_knot, sizeLine_eq, e0, a1, e1]
  refine ⟨r, rfl, by omega, ?_⟩
  simp only [lab_f, st_f, val_f, val_d, Opt_some, a2, out_n, a3]
  exact kk
theorem law_knot_loop {ok : Kap → Prop} {E : DEnds} {p0 : Option R} {κ : Kap} (hok : ok κ) : ∀ (xs : List Str) (r : Row) (l : Str) (p2 p3 : Option R), (r.length + 2) * 2 ^ xs.length ≤ sizeLine →
    (∀ p2 p3, E.nx [p0, some (.d (.list ((knotL r l xs).map hookD))), p2, p3] κ) →
    forL ok (wTupG 2 (wgCons (wName 2) (wgCons (wName 3) wgNil))) wb_law_knot E (zipD ((l :: xs).map .str) (xs.map .str)) [p0, some (.d (.list (r.map hookD))), p2, p3] κ
  | [], r, l, p2, p3, _, kk => by
    show forL _ _ _ _ [] _ _
    rw [forL_nil]; exact kk _ _
  | x :: xs, r, l, p2, p3, hl, kk => by
    show forL _ _ _ _ (.tuple [.str l, .str x] :: zipD ((x :: xs).map .str) (xs.map .str)) _ _
    have e : ((kstep r l x).length + 2) * 2 ^ xs.length = (r.length + 2) * 2 ^ (x :: xs).length := by
      rw [kstep_len, List.length_cons, Nat.pow_succ, Nat.mul_comm (2 ^ xs.length) 2, ← Nat.mul_assoc]
      congr 1
      omega
    rw [← e] at hl
    rw [forL_cons, s_tupG]
    refine ⟨rfl, ?_⟩
    refine law_knot_body ?_ ⟨hok, law_knot_loop hok xs _ x _ _ hl kk⟩
    have : 0 < 2 ^ xs.length := Nat.two_pow_pos _
    have := Nat.le_trans (Nat.le_mul_of_pos_right _ this) hl
    rw [kstep_len] at this
    omega
theorem r_law_knot (rs : List R) (Pd : R → Prop) (h : Ph_law_knot rs Pd) (hl : rs.length = 1) : w_law_knot { nx := fun _ _ => Pd (.d .none), rt := fun r κ => Opt (outR κ 0 r) Pd } (rs.map some ++ List.replicate 3 none) [] := by
  obtain ⟨a, b, ns, d, rfl, hd, hn, k⟩ := h
  clear hl
  rcases hd with rfl | rfl
  · have i0 : ixD (.tuple (.str a :: .str b :: ns.map .str)) (.int 0) = some (.v (.str a)) := ixD_tuple (atI_nat (j := 0) rfl)
    have i1 : ixD (.tuple (.str a :: .str b :: ns.map .str)) (.int 1) = some (.v (.str b)) := ixD_tuple (atI_nat (j := 1) rfl)
    simp [w_law_knot, sizeLine_eq, i0, i1, cut_1, cut_2]
    refine law_knot_loop (r := [(a, b, 1)]) trivial ns b none none ?_ fun p2 p3 => ?_
    · show 3 * 2 ^ ns.length ≤ _
      have := Nat.pow_le_pow_right (n := 2) (by decide) hn
      rw [sizeLine_eq]
      omega
    · simp
      exact k
  · have i0 : ixD (.list (.str a :: .str b :: ns.map .str)) (.int 0) = some (.v (.str a)) := ixD_list (atI_nat (j := 0) rfl)
    have i1 : ixD (.list (.str a :: .str b :: ns.map .str)) (.int 1) = some (.v (.str b)) := ixD_list (atI_nat (j := 1) rfl)
    simp [w_law_knot, sizeLine_eq, i0, i1, cut_1, cut_2]
    refine law_knot_loop (r := [(a, b, 1)]) trivial ns b none none ?_ fun p2 p3 => ?_
    · show 3 * 2 ^ ns.length ≤ _
      have := Nat.pow_le_pow_right (n := 2) (by decide) hn
      rw [sizeLine_eq]
      omega
    · simp
      exact k
abbrev Ph_law_same := Ph_law_sameN 8
abbrev Ph_law_sameL := Ph_law_sameLN 8
theorem good_hook {a b : Str} {i : Int} {n : Nat} (ha : IsName a) (hb : IsName b) : GoodN (n + 2) (hookD (a, b, i)) :=
  ⟨by rw [sizeLine_eq]; show 3 ≤ 16777216; decide, fun x hx => by
    rcases List.mem_cons.mp hx with rfl | hx
    · exact ha.shaped
    rcases List.mem_cons.mp hx with rfl | hx
    · exact hb.shaped
    rw [List.mem_singleton.mp hx]
    trivial⟩
def RowOk (r : Row) : Prop := ∀ h ∈ r, IsName h.1 ∧ IsName h.2.1
theorem RowOk.back {r : Row} (h : RowOk r) : RowOk (back r) := fun x hx => by
  obtain ⟨y, hy, rfl⟩ := List.mem_map.mp hx
  exact h y (List.mem_reverse.mp hy)
theorem RowOk.step {r : Row} {l x : Str} (h : RowOk r) (hl : IsName l) (hx : IsName x) : RowOk (kstep r l x) := fun y hy => by
  unfold kstep at hy
  simp only [List.mem_append, List.mem_singleton] at hy
  rcases hy with ((hy | rfl) | hy) | rfl
  · exact h y hy
  · exact ⟨hl, hx⟩
  · exact h.back y hy
  · exact ⟨hl, hx⟩
theorem knotL_ok : ∀ (ns : List Str) (r : Row) (l : Str), RowOk r → IsName l → (∀ z ∈ ns, IsName z) → RowOk (knotL r l ns)
  | [], r, l, h, _, _ => h
  | x :: xs, r, l, h, hl, hn => knotL_ok xs _ x (h.step hl (hn x (List.mem_cons_self ..))) (hn x (List.mem_cons_self ..)) fun z hz => hn z (List.mem_cons_of_mem _ hz)
theorem knot_ok {a b : Str} {ns : List Str} (h : ∀ z ∈ a :: b :: ns, IsName z) : RowOk (knot (a :: b :: ns)) :=
  knotL_ok ns _ b (fun y hy => by rw [List.mem_singleton.mp hy]; exact ⟨h a (by simp), h b (by simp)⟩) (h b (by simp)) fun z hz => h z (by simp [hz])
theorem good_row {r : Row} {n : Nat} (h : RowOk r) (hl : r.length ≤ sizeLine) : GoodN (n + 3) (.list (r.map hookD)) :=
  ⟨by simpa using hl, fun x hx => by
    obtain ⟨y, hy, rfl⟩ := List.mem_map.mp hx
    exact good_hook (h y hy).1 (h y hy).2⟩
theorem for_each {ok : Kap → Prop} {g : DTG} {b : DTS} {E : DEnds} (Inv : Rho → Kap → Prop) (hok : ∀ κ, ok κ) : ∀ (xs : List PyData) (ρ : Rho) (κ : Kap), Inv ρ κ →
    (∀ x ∈ xs, ∀ ρ κ, Inv ρ κ → ∀ E' : DEnds, E'.rt = E.rt → E'.bk = E.nx → (∀ ρ' κ', Inv ρ' κ' → E'.nx ρ' κ') → (∀ ρ' κ', Inv ρ' κ' → E'.ct ρ' κ') → g (.d x) ρ κ fun ρ1 κ1 => b E' ρ1 κ1) →
    (∀ ρ κ, Inv ρ κ → E.nx ρ κ) → forL ok g b E xs ρ κ
  | [], ρ, κ, h, _, k => by rw [forL_nil]; exact k ρ κ h
  | x :: xs, ρ, κ, h, hb, k => by
    rw [forL_cons]
    exact hb x (List.mem_cons_self ..) ρ κ h _ rfl rfl (fun ρ' κ' h' => ⟨hok _, for_each Inv hok xs ρ' κ' h' (fun y hy => hb y (List.mem_cons_of_mem _ hy)) k⟩)
      (fun ρ' κ' h' => ⟨hok _, for_each Inv hok xs ρ' κ' h' (fun y hy => hb y (List.mem_cons_of_mem _ hy)) k⟩)
end SH
/-! DLm: dicts that live: {}, setdefault, d[k] = v, del d[k], d[k]; xs.pop(); names = a list of lists that live. -/
namespace DL
open PySem PySem.Spec PyProof.Rows L2

/-! ### entries -/
def keyD : PyData → Option Key
  | .int i => some (.inl i)
  | .str z => some (.inr z)
  | _ => none
def lookM (es : List (Key × R)) (k : Key) : Option R := (es.find? fun e => decide (e.1 = k)).map (·.2)
def putM (es : List (Key × R)) (k : Key) (r : R) : List (Key × R) :=
  if (es.any fun e => decide (e.1 = k)) = true then es.map (fun e => if e.1 = k then (e.1, r) else e) else es ++ [(k, r)]
def dropM (es : List (Key × R)) (k : Key) : List (Key × R) := es.filter fun e => decide (e.1 ≠ k)
section
variable {K : PySem.W.Frag} {G H G' H' : Hp} {As : List Addr} {kvs : List (Key × V)} {es : List (Key × R)} {k : Key} {v : V} {r : R}
theorem key_rel {x : PyData} (e : keyD x = some k) (h : Rp K G v x) : v = kV k := by
  cases h with
  | int i => cases e; rfl
  | str z => cases e; rfl
  | _ => cases e
theorem Mp.look (h : Mp K G As kvs es) (e : lookM es k = some r) : ∃ v, valV kvs k = some v ∧ It K G As v r := by
  unfold Mp at h
  induction h with
  | nil => simp [lookM] at e
  | cons q t ih =>
    rename_i kv en kvs es
    obtain ⟨q1, q2⟩ := q
    by_cases hk : en.1 = k
    · have e0 : lookM (en :: es) k = some en.2 := by simp [lookM, List.find?_cons, hk]
      rw [e0] at e
      cases e
      exact ⟨kv.2, valV_pos (q1.trans hk), q2⟩
    · have e0 : lookM (en :: es) k = lookM es k := by simp [lookM, List.find?_cons, hk]
      rw [e0] at e
      obtain ⟨v, z1, z2⟩ := ih e
      exact ⟨v, by rw [valV_neg (fun z => hk (q1.symm.trans z))]; exact z1, z2⟩
theorem Mp.lookN (h : Mp K G As kvs es) (e : lookM es k = none) : valV kvs k = none := by
  unfold Mp at h
  induction h with
  | nil => rfl
  | cons q t ih =>
    rename_i kv en kvs es
    obtain ⟨q1, q2⟩ := q
    by_cases hk : en.1 = k
    · have e0 : lookM (en :: es) k = some en.2 := by simp [lookM, List.find?_cons, hk]
      rw [e0] at e
      cases e
    · have e0 : lookM (en :: es) k = lookM es k := by simp [lookM, List.find?_cons, hk]
      rw [e0] at e
      rw [valV_neg (fun z => hk (q1.symm.trans z))]
      exact ih e
theorem Mp.snoc (h : Mp K G As kvs es) (hv : It K G As v r) : Mp K G As (kvs ++ [(k, v)]) (es ++ [(k, r)]) := by
  unfold Mp at h ⊢
  induction h with
  | nil => exact .cons ⟨rfl, hv⟩ .nil
  | cons q t ih => exact .cons q ih
theorem Mp.len (h : Mp K G As kvs es) : kvs.length = es.length := Paired.length h
theorem Mp.any (h : Mp K G As kvs es) : (kvs.any fun kv => decide (kv.1 = k)) = es.any fun e => decide (e.1 = k) := by
  unfold Mp at h
  induction h with
  | nil => rfl
  | cons q t ih => rw [List.any_cons, List.any_cons, ih, q.1]
theorem Mp.put (h : Mp K G As kvs es) (hv : It K G As v r) : Mp K G As (putK kvs k v) (putM es k r) := by
  unfold putK putM
  rw [h.any]
  split
  · have go : ∀ {kvs : List (Key × V)} {es : List (Key × R)}, Mp K G As kvs es → Mp K G As (kvs.map fun kv => if kv.1 = k then (kv.1, v) else kv) (es.map fun e => if e.1 = k then (e.1, r) else e) := by
      intro kvs es h
      unfold Mp at h ⊢
      induction h with
      | nil => exact .nil
      | cons q t ih =>
        rename_i kv en kvs es
        obtain ⟨q1, q2⟩ := q
        refine .cons ?_ ih
        dsimp only
        by_cases hk : en.1 = k
        · rw [if_pos hk, if_pos (q1.trans hk)]; exact ⟨q1, hv⟩
        · rw [if_neg hk, if_neg (fun z => hk (q1.symm.trans z))]; exact ⟨q1, q2⟩
    exact go h
  · exact h.snoc hv
theorem Mp.drop (h : Mp K G As kvs es) : Mp K G As (dropK kvs k) (dropM es k) := by
  unfold dropK dropM
  unfold Mp at h ⊢
  induction h with
  | nil => exact .nil
  | cons q t ih =>
    rename_i kv en kvs es
    obtain ⟨q1, q2⟩ := q
    rw [List.filter_cons, List.filter_cons, q1]
    split
    · exact .cons ⟨q1, q2⟩ ih
    · exact ih
end

/-! ### {} -/
def wDict0 : DTE := fun _ κ P => P (.c κ.length) (κ ++ [.m []])
section
variable {X : Cx} {pos : Pos}
theorem Step.more {G H : Hp} {As : List Addr} {q : Addr} {o : HO} (hq : H q = none) : Step G H As G (upd H q o) (As ++ [q]) :=
  ⟨Ex.refl G, ⟨[q], rfl⟩, fun a ha => by
    rcases List.mem_append.mp ha with z | z
    · exact .inl z
    · rw [List.mem_singleton] at z; subst z; exact .inr hq, fun b u _ e => by rw [upd_ne (ne_of_none e hq)]; exact e, fun b e => by
    by_cases q' : b = q
    · subst q'; exact hq
    · rw [upd_ne q'] at e; exact e, fun _ e => .inl e⟩
theorem de_dict0 : DE X (.Dict [] [] pos) wDict0 := by
  refine ⟨_, pe_dnewK, fun G H As σ ρ κ P Q c p w k => fun q hq => ?_⟩
  have st : Step G H As G (upd H q (.dK [])) (As ++ [q]) := Step.more hq
  have c' : Cells X.K G (upd H q (.dK [])) As κ := c.fresh hq
  refine k (.ref q) (.c κ.length) G _ (As ++ [q]) _ st (c'.moreC (c2 := .m []) (c.notin hq) upd_same ⟨c.ext.free hq, [], upd_same, .nil⟩) (p.step st) ⟨q, ?_, rfl⟩ w
  rw [← c.len, List.getElem?_append_right (Nat.le_refl _), Nat.sub_self]
  rfl

/-! ### d.setdefault(k, []) -/
def wSetd (wd wk : DTE) : DTE := fun ρ κ P => wd ρ κ fun rd κ1 => match rd with
  | .c d => (∃ es, κ1[d]? = some (.m es)) ∧ wk ρ κ1 fun rk κ2 => match rk, κ2[d]? with
    | .d x, some (.m es) => Opt (keyD x) fun q => es.length < sizeLine ∧ match lookM es q with
      | some r => P r κ2
      | none => P (.c κ2.length) ((κ2 ++ [Cell.l []]).set d (Cell.m (es ++ [(q, R.c κ2.length)])))
    | _, _ => False
  | _ => False
theorem de_setd {o e : Expr} {wo we : DTE} {p2 apos cpos : Pos} (ho : DE X o wo) (he : DE X e we) (m : M2 X o "setdefault" apos e (.List [] p2) cpos) : DE X (.Call (.Attribute o "setdefault" apos) [e, .List [] p2] [] cpos) (wSetd wo we) := by
  obtain ⟨to, po, ho⟩ := ho
  obtain ⟨te, pe, he⟩ := he
  refine ⟨_, pe_dsetd po pe (pe_lst pa_nil) m, fun G H As σ ρ κ P Q c p w k => ?_⟩
  refine ho G H As σ ρ κ _ _ c p w fun v1 r1 G1 H1 As1 κ1 s1 c1 p1 i1 w1 => ?_
  cases r1 with
  | c d =>
    obtain ⟨a, ha, rfl⟩ := i1
    obtain ⟨⟨es1, e1⟩, w1⟩ := w1
    obtain ⟨_, kvs1, hq1, _⟩ := c1.ok d _ a e1 ha
    refine ⟨a, rfl, .inl ⟨kvs1, .inl hq1⟩, ?_⟩
    refine he G1 H1 As1 σ ρ κ1 _ _ c1 p1 w1 fun v2 r2 G2 H2 As2 κ2 s2 c2 p2 i2 w2 => ?_
    split at w2
    · rename_i o1 o2 x es hk
      obtain ⟨q, eq, hl, w3⟩ := w2.ex
      have i2 : Rp X.K G2 v2 x := i2
      have ek := key_rel eq i2
      refine ⟨Nat.zero_le _, fun b hb => ?_⟩
      obtain ⟨bs, eb⟩ := s2.pre
      have ha2 : As2[d]? = some a := by rw [eb, List.getElem?_append_left (List.getElem?_eq_some_iff.mp ha).1]; exact ha
      obtain ⟨g2, kvs, hq, mp⟩ := c2.ok d _ a hk ha2
      have nb : a ≠ b := ne_of_none hq hb
      have st : Step G2 H2 As2 G2 (upd H2 b (.lst [])) As2 := Step.fresh hb
      have st2 : Step G2 H2 As2 G2 (upd H2 b (.lst [])) (As2 ++ [b]) := Step.more hb
      refine ⟨kvs, q, by rw [upd_ne nb]; exact hq, ek, by rw [mp.len]; exact hl, fun v hv => ?_, fun hn => ?_⟩
      · cases lk : lookM es q with
        | none => rw [mp.lookN lk] at hv; cases hv
        | some r =>
          rw [lk] at w3
          obtain ⟨v', z1, z2⟩ := mp.look lk
          rw [hv] at z1
          cases z1
          have sa := (s1.trans s2).trans st
          cases r with
          | f ys => exact z2.elim
          | d y => exact k v (.d y) G2 _ As2 κ2 sa (c2.fresh hb) (p.step sa) z2 w3
          | c j => exact k v (.c j) G2 _ As2 κ2 sa (c2.fresh hb) (p.step sa) z2 w3
          | s y => exact k v (.s y) G2 _ As2 κ2 sa (c2.fresh hb) (p.step sa) z2 w3
          | b y => exact k v (.b y) G2 _ As2 κ2 sa (c2.fresh hb) (p.step sa) z2 w3
          | h y => exact k v (.h y) G2 _ As2 κ2 sa (c2.fresh hb) (p.step sa) z2 w3
          | o y => exact k v (.o y) G2 _ As2 κ2 sa (c2.fresh hb) (p.step sa) z2 w3
      · cases lk : lookM es q with
        | some r =>
          obtain ⟨v', z1, z2⟩ := mp.look lk
          rw [hn] at z1
          cases z1
        | none =>
          rw [lk] at w3
          have c3 : Cells X.K G2 (upd H2 b (.lst [])) As2 κ2 := c2.fresh hb
          have c4 : Cells X.K G2 (upd H2 b (.lst [])) (As2 ++ [b]) (κ2 ++ [.l []]) := c3.more (c2.ext.free hb) (c2.notin hb) upd_same .nil
          have hd : d < κ2.length := (List.getElem?_eq_some_iff.mp hk).1
          have ha4 : (As2 ++ [b])[d]? = some a := by rw [List.getElem?_append_left (by rw [c2.len]; exact hd)]; exact ha2
          have hk4 : (κ2 ++ [Cell.l []])[d]? = some (.m es) := by rw [List.getElem?_append_left hd]; exact hk
          have ib : It X.K G2 (As2 ++ [b]) (.ref b) (.c κ2.length) := ⟨b, by rw [← c2.len, List.getElem?_append_right (Nat.le_refl _), Nat.sub_self]; rfl, rfl⟩
          have mp4 : Mp X.K G2 (As2 ++ [b]) (kvs ++ [(q, .ref b)]) (es ++ [(q, .c κ2.length)]) := (mp.mono (Ex.refl G2) ⟨[b], rfl⟩).snoc ib
          have ma : a ∈ As2 ++ [b] := List.mem_of_getElem? ha4
          rw [putK_new _ hn]
          have hq' : (upd H2 b (.lst [])) a = some (.dK kvs) := by rw [upd_ne nb]; exact hq
          have sw : Step G2 (upd H2 b (.lst [])) (As2 ++ [b]) G2 (upd (upd H2 b (.lst [])) a (.dK (kvs ++ [(q, .ref b)]))) (As2 ++ [b]) := Step.write ma hq'
          have sa := ((s1.trans s2).trans st2).trans sw
          exact k (.ref b) (.c κ2.length) G2 _ (As2 ++ [b]) _ sa (c4.put (c2 := .m (es ++ [(q, .c κ2.length)])) hk4 ha4 g2 ⟨g2, _, upd_same, mp4⟩) (p.step sa) ib w3
    · exact w2.elim
  | _ => exact w1.elim

/-! ### d[k] = v -/
def wSubD (wo wi : DTE) : DTG := fun r ρ κ P => Opt (dat κ r) fun q => wo ρ q.2 fun ro κ1 => match ro with
  | .c d => wi ρ κ1 fun ri κ2 => match ri, κ2[d]? with
    | .d x, some (.m es) => Opt (keyD x) fun k => es.length < sizeLine ∧ P ρ (κ2.set d (Cell.m (putM es k (R.d q.1))))
    | _, _ => False
  | _ => False
theorem dg_subD {o i : Expr} {wo wi : DTE} (hu : X.A.units + 65 < cLine) (ho : DE X o wo) (hi : DE X i wi) (hx : ∀ v, assign (.Subscript o i pos) X.env v = (do
      let ov ← holding [v] (eval o X.env)
      let iv ← holding [v, ov] (eval i X.env)
      standAt pos
      holding [v, ov, iv] (setItem ov iv v)
      release [v, ov, iv] []) := by intro _; rfl) : DG X (.Subscript o i pos) [] (wSubD wo wi) := by
  obtain ⟨to, po, ho⟩ := ho
  obtain ⟨ti, pi, hi⟩ := hi
  refine ⟨_, pg_sub po pi (set_dict (by omega)) hx, fun G H As σ ρ κ v r P Q c p i0 w k => ?_⟩
  obtain ⟨⟨x, κ0⟩, e0, w⟩ := w.ex
  obtain ⟨G0, s0, c0, r0⟩ := dat_ok c i0 e0
  refine ho G0 H As σ ρ κ0 _ _ c0 (p.step s0) w fun v1 r1 G1 H1 As1 κ1 s1 c1 p1 i1 w1 => ?_
  cases r1 with
  | c kk =>
    obtain ⟨l, hl, rfl⟩ := i1
    refine hi G1 H1 As1 σ ρ κ1 _ _ c1 p1 w1 fun v2 r2 G2 H2 As2 κ2 s2 c2 p2 i2 w2 => ?_
    split at w2
    · rename_i o1 o2 y es hk
      obtain ⟨q, eq, hlen, w3⟩ := w2.ex
      have i2 : Rp X.K G2 v2 y := i2
      have ek := key_rel eq i2
      obtain ⟨bs, eb⟩ := s2.pre
      have hl2 : As2[kk]? = some l := by rw [eb, List.getElem?_append_left (List.getElem?_eq_some_iff.mp hl).1]; exact hl
      obtain ⟨g0, kvs, hq, mp⟩ := c2.ok kk _ l hk hl2
      have r02 : It X.K G2 As2 v (.d x) := Rp.mono (s1.trans s2).ex _ _ r0
      refine ⟨l, _, rfl, by rw [ek]; exact DPut.k hq (by rw [mp.len]; exact hlen), ?_⟩
      have sw : Step G2 H2 As2 G2 (upd H2 l (.dK (putK kvs q v))) As2 := Step.write (List.mem_of_getElem? hl2) hq
      have sa := ((s0.trans s1).trans s2).trans sw
      exact k σ ρ G2 _ As2 _ Wr.refl sa (c2.put (c2 := .m (putM es q (.d x))) hk hl2 g0 ⟨g0, _, upd_same, mp.put r02⟩) (p.step sa) w3
    · exact w2.elim
  | _ => exact w1.elim

/-! ### del d[k] -/
def wDelD (wo wi : DTE) : DTS := fun E ρ κ => wo ρ κ fun ro κ1 => match ro with
  | .c d => wi ρ κ1 fun ri κ2 => match ri.st, κ2[d]? with
    | .d x, some (.m es) => Opt (keyD x) fun k => (∃ r, lookM es k = some r) ∧ E.nx ρ (κ2.set d (Cell.m (dropM es k)))
    | _, _ => False
  | _ => False
theorem ds_delD {o i : Expr} {wo wi : DTE} {tpos : Pos} (ho : DE X o wo) (hi : DE X i wi) : DS X (.Delete [.Subscript o i tpos] pos) (wDelD wo wi) := by
  obtain ⟨to, po, ho⟩ := ho
  obtain ⟨ti, pi, hi⟩ := hi
  refine ⟨_, ps_ddel po pi, fun G H As σ ρ κ E D c p w r => ?_⟩
  refine ho G H As σ ρ κ _ _ c p w fun v1 r1 G1 H1 As1 κ1 s1 c1 p1 i1 w1 => ?_
  cases r1 with
  | c kk =>
    obtain ⟨l, hl, rfl⟩ := i1
    refine hi G1 H1 As1 σ ρ κ1 _ _ c1 p1 w1 fun v2 r2 G2 H2 As2 κ2 s2 c2 p2 i2 w2 => ?_
    obtain ⟨G2', s2', c2', p2', i2', _⟩ := settle s2 c2 p2 i2
    split at w2
    · rename_i o1 o2 y es he hk
      obtain ⟨q, eq, ⟨rr, lk⟩, w3⟩ := w2.ex
      rw [he] at i2'
      have i2' : Rp X.K G2' v2 y := i2'
      have ek := key_rel eq i2'
      obtain ⟨bs, eb⟩ := s2'.pre
      have hl2 : As2[kk]? = some l := by rw [eb, List.getElem?_append_left (List.getElem?_eq_some_iff.mp hl).1]; exact hl
      obtain ⟨g0, kvs, hq, mp⟩ := c2'.ok kk _ l hk hl2
      obtain ⟨v', z1, _⟩ := mp.look lk
      refine ⟨l, kvs, q, rfl, hq, ek, by rw [z1]; rfl, ?_⟩
      have sw : Step G2' H2 As2 G2' (upd H2 l (.dK (dropK kvs q))) As2 := Step.write (List.mem_of_getElem? hl2) hq
      have sa := (s1.trans s2').trans sw
      exact r.nx σ ρ G2' _ As2 _ sa (c2'.put (c2 := .m (dropM es q)) hk hl2 g0 ⟨g0, _, upd_same, mp.drop⟩) (p.step sa) w3
    · exact w2.elim
  | _ => exact w1.elim

/-! ### xs.pop() -/
def wPop0 (wo : DTE) : DTE := fun ρ κ P => wo ρ κ fun ro κ1 => match ro with
  | .c k => match κ1[k]? with
    | some (.l xs) => Opt (xs[xs.length - 1]?) fun y => P (.d y) (κ1.set k (Cell.l xs.dropLast))
    | _ => False
  | _ => False
theorem RpA.dropLast {K : PySem.W.Frag} {G : Hp} {vs : List V} {ds : List PyData} (h : RpA K G vs ds) : RpA K G vs.dropLast ds.dropLast := by
  rw [List.dropLast_eq_take, List.dropLast_eq_take, h.len]
  exact h.take _
theorem de_pop0 {o : Expr} {wo : DTE} {apos cpos : Pos} (ho : DE X o wo) (hbase : attributeBase o "pop" X.env (eval o X.env) = eval o X.env := by rfl) (hline : (apos.endLine == cpos.line) = true := by rfl) : DE X (.Call (.Attribute o "pop" apos) [] [] cpos) (wPop0 wo) := by
  obtain ⟨to, po, ho⟩ := ho
  refine ⟨_, pe_bm0 PySem.F.plainAttrs_list PySem.F.slot_list_pop PySem.F.type_list_pop mt_pop po hbase hline, fun G H As σ ρ κ P Q c p w k => ?_⟩
  refine ho G H As σ ρ κ _ _ c p w fun v1 r1 G1 H1 As1 κ1 s1 c1 p1 i1 w1 => ?_
  cases r1 with
  | c kk =>
    obtain ⟨l, hl, rfl⟩ := i1
    dsimp only at w1
    split at w1
    · rename_i xs hk
      obtain ⟨y, ey, w2⟩ := w1.ex
      obtain ⟨g0, vs, hq, rp⟩ := c1.ok kk _ l hk hl
      obtain ⟨v, e1, e2⟩ := rp.get ey
      refine ⟨.inl ⟨rfl, vs, sql_of hq⟩, l, vs, v, rfl, rfl, hq, by rw [rp.len]; exact e1, ?_⟩
      have sw : Step G1 H1 As1 G1 (upd H1 l (.lst vs.dropLast)) As1 := Step.write (List.mem_of_getElem? hl) hq
      have sa := s1.trans sw
      exact k v (.d y) G1 _ As1 _ sa (c1.write hk hl rp.dropLast) (p.step sa) e2 w2
    · exact w1.elim
  | _ => exact w1.elim
end
end DL
/-! DLn: list(d.values()); two names of a list of lists that live. -/
namespace DL
open PySem PySem.Spec PyProof.Rows L2
def valsO (p d : Addr) : HO := .ext fun h => h.IsValuesView p d
theorem valsO_ok {P : Program} {w : World} {H : Hp} {h : Heap} {p d : Addr} (e : h.IsValuesView p d) : ObjOk P w H h p (valsO p d) :=
  ⟨e, let ⟨o, ho, _⟩ := e; ⟨o, ho⟩, fun h1 h2 x k => let ⟨o, ho, r⟩ := x; ⟨o, k o ho, r⟩⟩
section
variable {X : Cx}
def rVals : V → List V → Hp → VK → Prop := fun x xs H Q => ∃ (a : Addr) (kvs : List (Key × V)), x = .ref a ∧ xs = [] ∧ H a = some (.dK kvs) ∧ ∀ p, H p = none → Q (.ref p) (upd H p (valsO p a))
theorem mt_values : MtR X "dict.values" rVals := by
  intro pins s σ H x xs v us Q I rx rxs h
  obtain ⟨a, kvs, rfl, rfl, ha, q⟩ := h
  cases rx
  cases rxs
  obtain ⟨z, hd, vs, rel, dd⟩ := dk_of I.hok ha
  refine call_meetsIn PySem.F.slot_dict_values dd.typeIs PySem.F.entry_dict_values (PySem.F.args_dict_values_1 _) (meets_dict_values (mixKind X.prog X.w) a hd) ⟨⟨vs, dd⟩, ?_⟩
  have hf : H s.heap.objs.size = none := I.hok.fresh (Nat.le_refl _)
  exact ⟨.ref s.heap.objs.size, upd H s.heap.objs.size (valsO s.heap.objs.size a), I.laid (t' := s.toks) (fun b u e => Heap.get?_push_of_some _ e) (Nat.le_refl _) (valsO_ok ⟨_, Heap.get?_push_size _ rfl, rfl, rfl⟩), rfl, q _ hf⟩
theorem kv_vals : ∀ {kvs : List (Key × V)} {vs : List (Key × Value)}, KV kvs vs → Vals (kvs.map (·.2)) (vs.map (·.2))
  | _, _, .nil => .nil
  | _, _, .cons r t => .cons r.2 (kv_vals t)
def rListVals : List V → Hp → VK → Prop := fun xs H Q => ∃ (p a : Addr) (kvs : List (Key × V)), xs = [.ref p] ∧ H p = some (valsO p a) ∧ H a = some (.dK kvs) ∧ ∀ q, H q = none → Q (.ref q) (upd H q (.lst (kvs.map (·.2))))
theorem call_list_vals (hc : X.calm = true) : CallR X (.type "list") rListVals := by
  intro pins s σ H xs us Q I r h
  obtain ⟨p, a, kvs, rfl, hp, ha, q⟩ := h
  obtain ⟨u, rfl, rx⟩ := vals1 r
  cases rx
  have view : s.heap.IsValuesView p a := (show ObjOk X.prog X.w H s.heap p (valsO p a) from I.hok p _ hp).1
  obtain ⟨z, hd, vs, rel, dd⟩ := dk_of I.hok ha
  obtain ⟨ep, dat⟩ := dd.dictAt
  have hh : X.A.handled = none := I.ok.hd hc
  have hl : kvs.length = vs.length := rel.length
  refine PySem.W.kdl_call (PySem.W.kdl_values (knd := mixKind X.prog X.w) (d := a) (r := p) (kvs := vs) (ep := ep)) hh ⟨view, dat⟩ (by rw [← hl]; exact z) fun h' tk acc' c' hk hS hacc => ?_
  have hf : H s.heap.objs.size = none := I.hok.fresh (Nat.le_refl _)
  have ev : acc'.toList = vs.map (·.2) := PySem.W.kdl_vals_eq acc'.toList (by rw [Array.length_toList]; exact hacc.1) fun j v e => hacc.2 j v (by rw [← Array.getElem?_toList]; exact e)
  refine ⟨.ref s.heap.objs.size, upd H s.heap.objs.size (.lst (kvs.map (·.2))), I.laid hk (Nat.le_refl _) (show ObjOk X.prog X.w _ h' _ (.lst (kvs.map (·.2))) from ⟨by rw [List.length_map]; exact z, vs.map (·.2), c', kv_vals rel, ?_⟩), rfl, q _ hf⟩
  rw [← ev, Array.toArray_toList]
  exact hS
/-! over plain data -/
/-- the values of a dict, all known for good -/
def datM : List (Key × R) → Option (List PyData)
  | [] => some []
  | (_, .d x) :: es => match datM es with
    | some xs => some (x :: xs)
    | none => none
  | _ => none
theorem Mp.dats {K : PySem.W.Frag} {G : Hp} {As : List Addr} : ∀ {kvs : List (Key × V)} {es : List (Key × R)} {xs : List PyData}, Mp K G As kvs es → datM es = some xs → RpA K G (kvs.map (·.2)) xs
  | _, _, _, .nil, e => by cases e; exact .nil
  | _, _, _, .cons (b := en) q t, e => by
    obtain ⟨k, r⟩ := en
    cases r with
    | d x =>
      unfold datM at e
      split at e
      · rename_i ys ey
        cases e
        exact .cons q.2 (Mp.dats t ey)
      · cases e
    | _ => cases e
def wListVals (wo : DTE) : DTE := fun ρ κ P => wo ρ κ fun ro κ1 => match ro with
  | .c d => match κ1[d]? with
    | some (.m es) => Opt (datM es) fun xs => P (.f xs) κ1
    | _ => False
  | _ => False
theorem de_listVals {o : Expr} {wo : DTE} {apos mpos pos : Pos} {p : Pos} (hc : X.calm = true) (hz : X.mg "list" = none) (ho : DE X o wo) (hg : Gl X "list" := by rfl)
    (hbase : attributeBase o "values" X.env (eval o X.env) = eval o X.env := by rfl) (hline : (apos.endLine == mpos.line) = true := by rfl)
    (he : starEach [.Call (.Attribute o "values" apos) [] [] mpos] X.env = (false, eval (.Call (.Attribute o "values" apos) [] [] mpos) X.env) :: starEach [] X.env := by rfl)
    (hpl : (backTo pos (starEach [] X.env)).any (·.1) = false := by rfl) :
    DE X (.Call (.Name "list" p) [.Call (.Attribute o "values" apos) [] [] mpos] [] pos) (wListVals wo) := by
  obtain ⟨to, po, ho⟩ := ho
  refine ⟨_, pe_callTy (call_list_vals hc) hg hz (by decide +kernel) (pa_cons (pe_bm0 PySem.F.plainAttrs_dict PySem.F.slot_dict_values PySem.F.type_dict_values mt_values po hbase hline) pa_nil he) (by decide) (by decide) he hpl, fun G H As σ ρ κ P Q c p w k => ?_⟩
  refine ho G H As σ ρ κ _ _ c p w fun v1 r1 G1 H1 As1 κ1 s1 c1 p1 i1 w1 => ?_
  cases r1 with
  | c d =>
    obtain ⟨a, ha, rfl⟩ := i1
    dsimp only at w1
    split at w1
    · rename_i es hk
      obtain ⟨xs, ex, w2⟩ := w1.ex
      obtain ⟨g0, kvs, hq, mp⟩ := c1.ok d _ a hk ha
      refine ⟨?_, ?_⟩
      · exact .inr (.inr (.inl ⟨rfl, .inl ⟨kvs, hq⟩⟩))
      · refine ⟨a, kvs, rfl, rfl, hq, fun pv hpv => ?_⟩
        refine ⟨pv, a, kvs, rfl, upd_same, by rw [upd_ne (ne_of_none hq hpv)]; exact hq, fun q hq' => ?_⟩
        have st : Step G1 H1 As1 G1 (upd H1 pv (valsO pv a)) As1 := Step.fresh hpv
        have c2 : Cells X.K G1 (upd H1 pv (valsO pv a)) As1 κ1 := c1.fresh hpv
        have st2 : Step G1 (upd H1 pv (valsO pv a)) As1 G1 (upd (upd H1 pv (valsO pv a)) q (.lst (kvs.map (·.2)))) As1 := Step.fresh hq'
        have sa := (s1.trans st).trans st2
        exact k (.ref q) (.f xs) G1 _ As1 κ1 sa (c2.fresh hq') (p.step sa) ⟨q, _, rfl, (s1.trans st).dom q hq', c2.ext.free hq', c2.notin hq', upd_same, mp.dats ex⟩ w2
    · exact w1.elim
  | _ => exact w1.elim
end
/-! near, far = a list of two lists that live -/
def wTwo (i j : Nat) : DTG := fun r ρ κ P => match r with
  | .b [a, b] => P ((ρ.set i (some (R.c a))).set j (some (R.c b))) κ
  | _ => False
theorem dg_two {X : Cx} (i j : Nat) {x y : Str} {px py pos : Pos} {k : Nat} (hc : X.calm = true) (hN : X.N.Nodup) (hi : X.N[i]? = some x := by rfl) (hj : X.N[j]? = some y := by rfl)
    (hx : Loc X.env.scope x := by first | exact Or.inl rfl | exact Or.inr rfl) (hy : Loc X.env.scope y := by first | exact Or.inl rfl | exact Or.inr rfl)
    (hf : X.fn x = true ∨ X.env.scope.names.lookup x = some .local := by first | exact .inl rfl | exact .inr rfl) (hf' : X.fn y = true ∨ X.env.scope.names.lookup y = some .local := by first | exact .inl rfl | exact .inr rfl)
    : DG X (.Tuple [.Name x px, .Name y py] k pos) [i, j] (wTwo i j) := by
  refine ⟨_, pg_unl (n := 2) hc (pgs_cons (pg_name hN hi hx hf) (pgs_cons (pg_name hN hj hy hf') pgs_nil)), fun G H As σ ρ κ v r P Q c p i0 w kk => ?_⟩
  unfold wTwo at w
  split at w
  · rename_i a b
    obtain ⟨q, vs, rfl, h1, h2, h3⟩ := i0
    obtain ⟨c1, e1, f1⟩ := h3 0 a rfl
    obtain ⟨c2, e2, f2⟩ := h3 1 b rfl
    match vs, h2, f1, f2, h1 with
    | [v1, v2], _, f1, f2, h1 =>
      cases f1
      cases f2
      refine ⟨q, _, rfl, sql_of (c.ext _ _ h1), rfl, _, _, rfl, _, _, rfl, rfl, ?_⟩
      refine kk _ _ G H As κ ⟨by rw [List.length_set, List.length_set], fun m hm => ?_⟩ Step.refl c ((p.put i (r := .c a) ⟨c1, e1, rfl⟩).put j (r := .c b) ⟨c2, e2, rfl⟩) w
      simp only [List.mem_cons, List.not_mem_nil, or_false, not_or] at hm
      rw [List.getElem?_set_ne (fun z => hm.2 z.symm), List.getElem?_set_ne (fun z => hm.1 z.symm)]
  · exact w.elim
end DL
/-! SHh: settled: what it computes. -/
namespace SH
open PySem PySem.Spec PyProof.Rows L2 DL
abbrev KR := List (Nat × Hook)
def touches (r : Str) (h : Hook) : Bool := decide (h.1 = r) || decide (h.2.1 = r)
def posOf (r : Str) (ks : KR) : List Nat := (ks.filter fun p => touches r p.2).map (·.1)
def sStep (row : Row) (ks : KR) (i : Nat) (h : Hook) : KR :=
  match (posOf h.1 ks).getLast?, (posOf h.2.1 ks).getLast? with
  | some p, some q => if p = q ∧ row[p]? = some (turned h) then ks.filter (fun e => decide (e.1 ≠ p)) else ks ++ [(i, h)]
  | _, _ => ks ++ [(i, h)]
def sLoop (row : Row) : KR → Nat → Row → KR
  | ks, _, [] => ks
  | ks, i, h :: hs => sLoop row (sStep row ks i h) (i + 1) hs
def settledF (row : Row) : Row := (sLoop row [] 0 row).map (·.2)
/-- hooks of unlike ropes -/
def RowIn (r : Row) : Prop := ∀ h ∈ r, IsName h.1 ∧ IsName h.2.1 ∧ h.1 ≠ h.2.1
/-- a row as a list or a tuple -/
def RowD (D : PyData) (row : Row) : Prop := D = .list (row.map hookD) ∨ D = .tuple (row.map hookD)
def Ph_settled (rs : List R) (P : R → Prop) : Prop := ∃ (row : Row) (D : PyData), RowD D row ∧ rs = [.d D] ∧ row.length ≤ 1000000 ∧ RowIn row ∧ P (.f ((settledF row).map hookD))
def natsD (l : List Nat) : List PyData := l.map fun (i : Nat) => .int (i : Int)
def keptE (f : Hook → PyData) (ks : KR) : List (Key × R) := ks.map fun p => (Sum.inl (p.1 : Int), R.d (f p.2))
/-- the stacks and what is kept, as they stand -/
structure SInv (f : Hook → PyData) (n : Nat) (κ : Kap) (st : List (Key × R)) (ks : KR) : Prop where
  s0 : κ[0]? = some (.m st)
  s1 : κ[1]? = some (.m (keptE f ks))
  ln : st.length ≤ n
  at_ : ∀ r j, lookM st (.inr r) = some (.c j) → 2 ≤ j ∧ κ[j]? = some (.l (natsD (posOf r ks)))
  no : ∀ r, lookM st (.inr r) = none → posOf r ks = []
  only : ∀ r x, lookM st (.inr r) = some x → ∃ j, x = .c j
  apart : ∀ r r' j, lookM st (.inr r) = some (.c j) → lookM st (.inr r') = some (.c j) → r = r'
variable {f : Hook → PyData}
theorem look_snoc {es : List (Key × R)} {k k' : Key} {r : R} (h : lookM es k = none) : lookM (es ++ [(k, r)]) k' = if k' = k then some r else lookM es k' := by
  unfold lookM at *
  rw [List.find?_append]
  by_cases e : k' = k
  · subst e
    rw [if_pos rfl]
    have : es.find? (fun e => decide (e.1 = k')) = none := by
      cases q : es.find? (fun e => decide (e.1 = k')) with
      | none => rfl
      | some x => rw [q] at h; cases h
    rw [this]
    simp
  · rw [if_neg e]
    have : List.find? (fun e => decide (e.1 = k')) [(k, r)] = none := by
      rw [List.find?_cons_of_neg (by simpa using fun z => e (Eq.symm z))]
      rfl
    rw [this, Option.or_none]
theorem setd_step {n v : Nat} {κ : Kap} {st : List (Key × R)} {ks : KR} {r : Str} {ρ : Rho} {P : R → Kap → Prop} (I : SInv f n κ st ks) (hn : n < 1000000 * 10) (h1 : ρ[1]? = some (some (.c 0))) (h7 : ρ[v]? = some (some (.d (.str r))))
    (k : ∀ j κ' st', SInv f (n + 1) κ' st' ks → lookM st' (.inr r) = some (.c j) → (∀ r' j', lookM st (.inr r') = some (.c j') → lookM st' (.inr r') = some (.c j')) → P (.c j) κ') :
    wSetd (wVar 1) (wVar v) ρ κ P := by
  unfold wSetd wVar
  simp only [h1, h7]
  refine ⟨⟨st, I.s0⟩, ?_⟩
  simp only [I.s0, keyD, Opt_some]
  refine ⟨by have := I.ln; rw [sizeLine_eq]; omega, ?_⟩
  cases lk : lookM st (.inr r) with
  | some x =>
    obtain ⟨j, rfl⟩ := I.only r x lk
    exact k j κ st ⟨I.s0, I.s1, by have := I.ln; omega, I.at_, I.no, I.only, I.apart⟩ lk fun _ _ h => h
  | none =>
    have hlen : 2 ≤ κ.length := by
      have := (List.getElem?_eq_some_iff.mp I.s1).1
      omega
    refine k κ.length _ (st ++ [(.inr r, .c κ.length)]) ⟨?_, ?_, ?_, ?_, ?_, ?_, ?_⟩ ?_ ?_
    · simp
    · rw [List.getElem?_set_ne (by decide), List.getElem?_append_left (by omega)]; exact I.s1
    · rw [List.length_append, List.length_singleton]; have := I.ln; omega
    · intro r' j' h
      rw [look_snoc lk] at h
      by_cases e : (Sum.inr r' : Key) = .inr r
      · rw [if_pos e] at h
        cases h
        cases e
        refine ⟨hlen, ?_⟩
        rw [List.getElem?_set_ne (by omega), List.getElem?_append_right (Nat.le_refl _), Nat.sub_self, I.no r lk]
        rfl
      · rw [if_neg e] at h
        obtain ⟨q1, q2⟩ := I.at_ r' j' h
        refine ⟨q1, ?_⟩
        rw [List.getElem?_set_ne (by omega), List.getElem?_append_left (List.getElem?_eq_some_iff.mp q2).1]
        exact q2
    · intro r' h
      rw [look_snoc lk] at h
      by_cases e : (Sum.inr r' : Key) = .inr r
      · rw [if_pos e] at h; cases h
      · rw [if_neg e] at h; exact I.no r' h
    · intro r' x h
      rw [look_snoc lk] at h
      by_cases e : (Sum.inr r' : Key) = .inr r
      · rw [if_pos e] at h; cases h; exact ⟨_, rfl⟩
      · rw [if_neg e] at h; exact I.only r' x h
    · intro r' r'' j h h'
      rw [look_snoc lk] at h h'
      have big : ∀ q, lookM st (.inr q) = some (.c κ.length) → False := fun q hq => by
        have := (List.getElem?_eq_some_iff.mp (I.at_ q _ hq).2).1
        omega
      by_cases e : (Sum.inr r' : Key) = .inr r <;> by_cases e' : (Sum.inr r'' : Key) = .inr r
      · cases e; cases e'; rfl
      · rw [if_pos e] at h
        rw [if_neg e'] at h'
        cases h
        exact (big _ h').elim
      · rw [if_neg e] at h
        rw [if_pos e'] at h'
        cases h'
        exact (big _ h).elim
      · rw [if_neg e] at h
        rw [if_neg e'] at h'
        exact I.apart r' r'' j h h'
    · rw [look_snoc lk, if_pos rfl]
    · intro r' j' h
      rw [look_snoc lk]
      by_cases e : (Sum.inr r' : Key) = .inr r
      · cases e
        rw [lk] at h; cases h
      · rw [if_neg e]; exact h

theorem SInv.grow {n m : Nat} {κ : Kap} {st : List (Key × R)} {ks : KR} (I : SInv f n κ st ks) (h : n ≤ m) : SInv f m κ st ks := ⟨I.s0, I.s1, Nat.le_trans I.ln h, I.at_, I.no, I.only, I.apart⟩
theorem two_setd {n : Nat} {κ : Kap} {st : List (Key × R)} {ks : KR} {h : Hook} {rowD p3 p5 p6 : Option R} {E : DEnds} (I : SInv f n κ st ks) (hn : n < 4000000)
    (k : ∀ j1 j2 κ' st', SInv f (n + 2) κ' st' ks → lookM st' (.inr h.1) = some (.c j1) → lookM st' (.inr h.2.1) = some (.c j2) → E.nx [rowD, some (.c 0), some (.c 1), p3, some (.d (hookD h)), some (.c j1), some (.c j2), none] κ') :
    wAsg (wLcB (wSq (wSl (wVar 4) wNoP (wP (wC (.int 2))))) (wName 7) wYes (wSetd (wVar 1) (wVar 7)) [7]) (wTwo 5 6) E [rowD, some (.c 0), some (.c 1), p3, some (.d (hookD h)), p5, p6, none] κ := by
  have e2 : cut [PyData.str h.1, PyData.str h.2.1, PyData.int h.2.2] none (some 2) = [.str h.1, .str h.2.1] := rfl
  simp [hookD, e2]
  unfold lcB
  simp
  refine setd_step I (by omega) rfl rfl fun j1 κ1 st1 I1 l1 _ => ?_
  simp
  refine ⟨by rw [sizeLine_eq]; decide, ?_⟩
  unfold lcB
  simp
  refine setd_step I1 (by omega) rfl rfl fun j2 κ2 st2 I2 l2 keep => ?_
  simp
  refine ⟨by rw [sizeLine_eq]; decide, ?_⟩
  exact k j1 j2 κ2 st2 I2 (keep _ _ l1) l2

/-! ### the plain side -/
/-- what is kept stands in the row at its place -/
structure KOk (row : Row) (i : Nat) (ks : KR) : Prop where
  lt : ∀ p ∈ ks, p.1 < i
  inr : ∀ p ∈ ks, row[p.1]? = some p.2
  nd : (ks.map (·.1)).Nodup
theorem posOf_app (r : Str) (ks : KR) (i : Nat) (h : Hook) : posOf r (ks ++ [(i, h)]) = if touches r h then posOf r ks ++ [i] else posOf r ks := by
  unfold posOf
  rw [List.filter_append]
  by_cases e : touches r h = true
  · rw [if_pos e, List.filter_cons_of_pos (by simpa using e)]; simp
  · rw [if_neg e, List.filter_cons_of_neg (by simpa using e)]; simp
theorem posOf_mem {r : Str} {ks : KR} {p : Nat} (h : p ∈ posOf r ks) : ∃ g, (p, g) ∈ ks ∧ touches r g = true := by
  unfold posOf at h
  obtain ⟨q, hq, rfl⟩ := List.mem_map.mp h
  obtain ⟨h1, h2⟩ := List.mem_filter.mp hq
  exact ⟨q.2, h1, h2⟩
theorem posOf_drop (r : Str) (ks : KR) (p : Nat) : posOf r (ks.filter fun e => decide (e.1 ≠ p)) = (posOf r ks).filter fun i => decide (i ≠ p) := by
  unfold posOf
  rw [List.filter_map, List.filter_filter, List.filter_filter]
  congr 1
  refine List.filter_congr fun q _ => ?_
  simp only [Function.comp_apply]
  rw [Bool.and_comm]
theorem posOf_nd {r : Str} {ks : KR} (h : (ks.map (·.1)).Nodup) : (posOf r ks).Nodup := by
  unfold posOf
  exact h.sublist (List.Sublist.map _ List.filter_sublist)
theorem filter_last {l : List Nat} {p : Nat} (nd : l.Nodup) (e : l.getLast? = some p) : l.filter (fun i => decide (i ≠ p)) = l.dropLast := by
  obtain ⟨l', rfl⟩ := List.getLast?_eq_some_iff.mp e
  rw [List.dropLast_concat, List.filter_append, List.filter_cons_of_neg (by simp)]
  rw [List.nodup_append] at nd
  have : l'.filter (fun i => decide (i ≠ p)) = l' := by
    rw [List.filter_eq_self]
    intro a ha
    exact decide_eq_true (nd.2.2 a ha p (by simp))
  rw [this]
  simp
theorem KOk.get {row : Row} {i p : Nat} {ks : KR} {r : Str} (K : KOk row i ks) (h : p ∈ posOf r ks) : ∃ g, (p, g) ∈ ks ∧ row[p]? = some g ∧ touches r g = true ∧ p < i := by
  obtain ⟨g, h1, h2⟩ := posOf_mem h
  exact ⟨g, h1, K.inr _ h1, h2, K.lt _ h1⟩
theorem KOk.app {row : Row} {i : Nat} {ks : KR} {h : Hook} (K : KOk row i ks) (e : row[i]? = some h) : KOk row (i + 1) (ks ++ [(i, h)]) where
  lt := fun p hp => by
    rcases List.mem_append.mp hp with hp | hp
    · have := K.lt p hp; omega
    · rw [List.mem_singleton.mp hp]; exact Nat.lt_succ_self _
  inr := fun p hp => by
    rcases List.mem_append.mp hp with hp | hp
    · exact K.inr p hp
    · rw [List.mem_singleton.mp hp]; exact e
  nd := by
    rw [List.map_append, List.nodup_append]
    refine ⟨K.nd, by simp, fun a ha b hb => ?_⟩
    obtain ⟨q, hq, rfl⟩ := List.mem_map.mp ha
    have := K.lt q hq
    simp at hb
    omega
theorem KOk.del {row : Row} {i p : Nat} {ks : KR} (K : KOk row i ks) : KOk row (i + 1) (ks.filter fun e => decide (e.1 ≠ p)) where
  lt := fun q hq => by have := K.lt q (List.mem_filter.mp hq).1; omega
  inr := fun q hq => K.inr q (List.mem_filter.mp hq).1
  nd := K.nd.sublist (List.Sublist.map _ List.filter_sublist)
theorem keptE_drop (ks : KR) (p : Nat) : dropM (keptE f ks) (.inl (p : Int)) = keptE f (ks.filter fun e => decide (e.1 ≠ p)) := by
  unfold dropM keptE
  rw [List.filter_map]
  congr 1
  refine List.filter_congr fun q _ => ?_
  simp only [Function.comp_apply]
  by_cases e : q.1 = p
  · simp [e]
  · have : ¬ ((q.1 : Int) = (p : Int)) := by omega
    simp [e, this]
theorem keptE_look {ks : KR} {p : Nat} {g : Hook} (h : (p, g) ∈ ks) : ∃ r, lookM (keptE f ks) (.inl (p : Int)) = some r := by
  unfold lookM
  cases q : (keptE f ks).find? fun e => decide (e.1 = Sum.inl (p : Int)) with
  | some x => exact ⟨x.2, rfl⟩
  | none =>
    have := List.find?_eq_none.mp q (Sum.inl (p : Int), R.d (f g)) (List.mem_map.mpr ⟨(p, g), h, rfl⟩)
    simp at this
theorem keptE_put {ks : KR} {i : Nat} {h : Hook} (lt : ∀ p ∈ ks, p.1 < i) : putM (keptE f ks) (.inl (i : Int)) (.d (f h)) = keptE f (ks ++ [(i, h)]) := by
  unfold putM
  rw [if_neg ?_]
  · unfold keptE
    rw [List.map_append]
    rfl
  · intro q
    obtain ⟨e, he, hk⟩ := List.any_eq_true.mp q
    obtain ⟨p, hp, rfl⟩ := List.mem_map.mp he
    have hk := of_decide_eq_true hk
    have := lt p hp
    have hk : (p.1 : Int) = (i : Int) := Sum.inl.inj hk
    omega
end SH
/-! SHi: settled: the walk. -/
namespace SH
open PySem PySem.Spec PyProof.Rows L2 DL
def wt_settled : DTT := (wAnd (wB (wBin (ciD gtI) (wCB lenD (wCons (wVar 5) wNil)) (wC (.int 0)))) (wAnd (wB (wBin (ciD gtI) (wCB lenD (wCons (wVar 6) wNil)) (wC (.int 0)))) (wAnd (wB (wBin (eqD false) (wBin ixD (wVar 5) (wUn negD (wC (.int 1)))) (wBin ixD (wVar 6) (wUn negD (wC (.int 1)))))) (wB (wBin (eqD false) (wBin ixD (wVar 0) (wBin ixD (wVar 5) (wUn negD (wC (.int 1))))) (wCall Ph_turned (wCons (wVar 4) wNil)))))))
def wd_settled : DTS := (wSeq (wDelD (wVar 2) (wPop0 (wVar 5)))
  (wDrop (wPop0 (wVar 6))))
def wa_settled : DTS := (wSeq (wDrop (wAppend (wVar 5) (wVar 3)))
  (wSeq (wDrop (wAppend (wVar 6) (wVar 3)))
  (wAsg (wVar 4) (wSubD (wVar 2) (wVar 3)))))
def wb_settled : DTS := (wSeq (wAsg (wLcB (wSq (wSl (wVar 4) wNoP (wP (wC (.int 2))))) (wName 7) wYes (wSetd (wVar 1) (wVar 7)) [7]) (wTwo 5 6))
  (wIfS wt_settled wd_settled wa_settled))
/-- settled -/
def w_settled : DTS := (wSeq (wPar 1 2 (wConsM false wDict0 (wConsM true wDict0 wNil)))
  (wSeq (wFor (wEnum (wCons (wVar 0) wNil)) (wTupG 2 (wgCons (wName 3) (wgCons (wName 4) wgNil))) wb_settled)
  (wRet (wListVals (wVar 2)))))
theorem SInv.upd {f : Hook → PyData} {n : Nat} {κ κ' : Kap} {st : List (Key × R)} {ks ks' : KR} (I : SInv f n κ st ks) (h0 : κ'[0]? = κ[0]?) (h1 : κ'[1]? = some (.m (keptE f ks'))) (ha : ∀ r j, lookM st (.inr r) = some (.c j) → κ'[j]? = some (.l (natsD (posOf r ks'))))
    (hn : ∀ r, lookM st (.inr r) = none → posOf r ks' = []) : SInv f n κ' st ks' :=
  ⟨h0.trans I.s0, h1, I.ln, fun r j h => ⟨(I.at_ r j h).1, ha r j h⟩, hn, I.only, I.apart⟩
theorem natsD_snoc (l : List Nat) (i : Nat) : natsD l ++ [.int (i : Int)] = natsD (l ++ [i]) := by unfold natsD; rw [List.map_append]; rfl
theorem natsD_len (l : List Nat) : (natsD l).length = l.length := by unfold natsD; rw [List.length_map]
theorem pos_len (r : Str) (ks : KR) : (posOf r ks).length ≤ ks.length := by
  unfold posOf
  rw [List.length_map]
  exact List.length_filter_le _ _
theorem SInv.app {f : Hook → PyData} {n i : Nat} {κ : Kap} {st : List (Key × R)} {ks : KR} {h : Hook} {j1 j2 : Nat} (I : SInv f n κ st ks) (l1 : lookM st (.inr h.1) = some (.c j1)) (l2 : lookM st (.inr h.2.1) = some (.c j2)) :
    SInv f n (((κ.set j1 (Cell.l (natsD (posOf h.1 ks) ++ [.int (i : Int)]))).set j2 (Cell.l (natsD (posOf h.2.1 ks) ++ [.int (i : Int)]))).set 1 (Cell.m (keptE f (ks ++ [(i, h)])))) st (ks ++ [(i, h)]) := by
  obtain ⟨g1, a1⟩ := I.at_ _ _ l1
  obtain ⟨g2, a2⟩ := I.at_ _ _ l2
  have b2 : ((κ.set j1 (Cell.l (natsD (posOf h.1 ks) ++ [.int (i : Int)]))).set j2 (Cell.l (natsD (posOf h.2.1 ks) ++ [.int (i : Int)])))[1]? = some (.m (keptE f ks)) := by
    rw [List.getElem?_set_ne (by omega), List.getElem?_set_ne (by omega)]; exact I.s1
  refine I.upd ?_ ?_ (fun r j lr => ?_) fun r lr => ?_
  · rw [List.getElem?_set_ne (by decide), List.getElem?_set_ne (by omega), List.getElem?_set_ne (by omega)]
  · rw [List.getElem?_set_self]
    have := (List.getElem?_eq_some_iff.mp b2).1
    exact this
  · obtain ⟨gj, aj⟩ := I.at_ r j lr
    rw [List.getElem?_set_ne (by omega), posOf_app]
    by_cases e2 : j = j2
    · subst e2
      have er := I.apart _ _ _ lr l2
      subst er
      rw [List.getElem?_set_self (by rw [List.length_set]; exact (List.getElem?_eq_some_iff.mp a2).1), if_pos (by simp [touches]), natsD_snoc]
    · rw [List.getElem?_set_ne (fun z => e2 z.symm)]
      by_cases e1 : j = j1
      · subst e1
        have er := I.apart _ _ _ lr l1
        subst er
        rw [List.getElem?_set_self (List.getElem?_eq_some_iff.mp a1).1, if_pos (by simp [touches]), natsD_snoc]
      · rw [List.getElem?_set_ne (fun z => e1 z.symm), aj, if_neg]
        intro ht
        unfold touches at ht
        rw [Bool.or_eq_true] at ht
        rcases ht with ht | ht
        · have := of_decide_eq_true ht
          subst this
          rw [l1] at lr; cases lr; exact e1 rfl
        · have := of_decide_eq_true ht
          subst this
          rw [l2] at lr; cases lr; exact e2 rfl
  · rw [posOf_app, if_neg, I.no r lr]
    intro ht
    unfold touches at ht
    rw [Bool.or_eq_true] at ht
    rcases ht with ht | ht
    · have := of_decide_eq_true ht
      subst this
      rw [l1] at lr; cases lr
    · have := of_decide_eq_true ht
      subst this
      rw [l2] at lr; cases lr

theorem app_branch {n i : Nat} {κ : Kap} {st : List (Key × R)} {ks : KR} {h : Hook} {j1 j2 : Nat} {p0 p7 : Option R} {E : DEnds} (I : SInv hookD n κ st ks) (l1 : lookM st (.inr h.1) = some (.c j1)) (l2 : lookM st (.inr h.2.1) = some (.c j2)) (hne : h.1 ≠ h.2.1)
    (lt : ∀ p ∈ ks, p.1 < i) (hk : ks.length ≤ 1000000)
    (k : ∀ κ', SInv hookD n κ' st (ks ++ [(i, h)]) → E.nx [p0, some (.c 0), some (.c 1), some (.d (.int i)), some (.d (hookD h)), some (.c j1), some (.c j2), p7] κ') :
    wa_settled E [p0, some (.c 0), some (.c 1), some (.d (.int i)), some (.d (hookD h)), some (.c j1), some (.c j2), p7] κ := by
  obtain ⟨g1, a1⟩ := I.at_ _ _ l1
  obtain ⟨g2, a2⟩ := I.at_ _ _ l2
  have j12 : j1 ≠ j2 := fun e => by
    subst e
    exact hne (I.apart _ _ _ l1 l2)
  have pl : ∀ r, (posOf r ks).length ≤ ks.length := fun r => by
    unfold posOf
    rw [List.length_map]
    exact List.length_filter_le _ _
  have b1 : (κ.set j1 (Cell.l (natsD (posOf h.1 ks) ++ [.int (i : Int)])))[j2]? = some (.l (natsD (posOf h.2.1 ks))) := by rw [List.getElem?_set_ne j12]; exact a2
  have b2 : ((κ.set j1 (Cell.l (natsD (posOf h.1 ks) ++ [.int (i : Int)]))).set j2 (Cell.l (natsD (posOf h.2.1 ks) ++ [.int (i : Int)])))[1]? = some (.m (keptE hookD ks)) := by
    rw [List.getElem?_set_ne (by omega), List.getElem?_set_ne (by omega)]; exact I.s1
  have f1 := pl h.1
  have f2 := pl h.2.1
  have kl : (keptE hookD ks).length = ks.length := by unfold keptE; rw [List.length_map]
  simp [wa_settled, a1, b1]
  refine ⟨by rw [sizeLine_eq, natsD_len]; omega, by rw [sizeLine_eq, natsD_len]; omega, ?_⟩
  unfold wSubD
  simp only [dat_d, Opt_some, s_var, List.getElem?_cons_succ, List.getElem?_cons_zero]
  simp only [b2, keyD, Opt_some]
  refine ⟨by rw [sizeLine_eq, kl]; omega, ?_⟩
  rw [keptE_put lt]
  exact k _ (I.app l1 l2)
theorem last_natsD {l : List Nat} {p : Nat} (e : l.getLast? = some p) : (natsD l)[(natsD l).length - 1]? = some (.int (p : Int)) ∧ (natsD l).dropLast = natsD l.dropLast := by
  obtain ⟨l', rfl⟩ := List.getLast?_eq_some_iff.mp e
  rw [← natsD_snoc, List.dropLast_concat, List.dropLast_concat]
  refine ⟨?_, rfl⟩
  rw [List.length_append, List.length_singleton, Nat.add_sub_cancel, List.getElem?_append_right (Nat.le_refl _), Nat.sub_self]
  rfl
theorem SInv.del {f : Hook → PyData} {n i p : Nat} {κ : Kap} {st : List (Key × R)} {ks : KR} {h g : Hook} {row : Row} {j1 j2 : Nat} (I : SInv f n κ st ks) (K : KOk row i ks) (l1 : lookM st (.inr h.1) = some (.c j1)) (l2 : lookM st (.inr h.2.1) = some (.c j2)) (hne : h.1 ≠ h.2.1)
    (e1 : (posOf h.1 ks).getLast? = some p) (e2 : (posOf h.2.1 ks).getLast? = some p) (hg : (p, g) ∈ ks) (hgt : g = turned h) :
    SInv f n (((κ.set j1 (Cell.l (natsD (posOf h.1 ks).dropLast))).set 1 (Cell.m (keptE f (ks.filter fun e => decide (e.1 ≠ p))))).set j2 (Cell.l (natsD (posOf h.2.1 ks).dropLast))) st (ks.filter fun e => decide (e.1 ≠ p)) := by
  obtain ⟨g1, a1⟩ := I.at_ _ _ l1
  obtain ⟨g2, a2⟩ := I.at_ _ _ l2
  have j12 : j1 ≠ j2 := fun e => by
    subst e
    exact hne (I.apart _ _ _ l1 l2)
  have b1 : (κ.set j1 (Cell.l (natsD (posOf h.1 ks).dropLast)))[1]? = some (.m (keptE f ks)) := by rw [List.getElem?_set_ne (by omega)]; exact I.s1
  have b2 : ((κ.set j1 (Cell.l (natsD (posOf h.1 ks).dropLast))).set 1 (Cell.m (keptE f (ks.filter fun e => decide (e.1 ≠ p)))))[j2]? = some (.l (natsD (posOf h.2.1 ks))) := by
    rw [List.getElem?_set_ne (by omega), List.getElem?_set_ne j12]; exact a2
  have nd := K.nd
  have fl1 : (posOf h.1 ks).filter (fun i => decide (i ≠ p)) = (posOf h.1 ks).dropLast := filter_last (posOf_nd nd) e1
  have fl2 : (posOf h.2.1 ks).filter (fun i => decide (i ≠ p)) = (posOf h.2.1 ks).dropLast := filter_last (posOf_nd nd) e2
  refine I.upd ?_ ?_ (fun r j lr => ?_) fun r lr => ?_
  · rw [List.getElem?_set_ne (by omega), List.getElem?_set_ne (by decide), List.getElem?_set_ne (by omega)]
  · rw [List.getElem?_set_ne (by omega), List.getElem?_set_self (by
      have := (List.getElem?_eq_some_iff.mp b1).1
      exact this)]
  · obtain ⟨gj, aj⟩ := I.at_ r j lr
    rw [posOf_drop]
    by_cases q2 : j = j2
    · subst q2
      have er := I.apart _ _ _ lr l2
      subst er
      rw [List.getElem?_set_self (by have := (List.getElem?_eq_some_iff.mp b2).1; exact this), fl2]
    · rw [List.getElem?_set_ne (fun z => q2 z.symm), List.getElem?_set_ne (by omega)]
      by_cases q1 : j = j1
      · subst q1
        have er := I.apart _ _ _ lr l1
        subst er
        rw [List.getElem?_set_self (List.getElem?_eq_some_iff.mp a1).1, fl1]
      · rw [List.getElem?_set_ne (fun z => q1 z.symm), aj]
        have : (posOf r ks).filter (fun i => decide (i ≠ p)) = posOf r ks := by
          rw [List.filter_eq_self]
          intro a ha
          refine decide_eq_true fun z => ?_
          subst z
          obtain ⟨g', hg', ht⟩ := posOf_mem ha
          have eg : g' = g := by
            have x1 := K.inr _ hg'
            have x2 := K.inr _ hg
            rw [x1] at x2
            exact Option.some.inj x2
          rw [eg, hgt] at ht
          unfold touches turned at ht
          rw [Bool.or_eq_true] at ht
          rcases ht with ht | ht
          · have ht := of_decide_eq_true ht
            have ht : h.1 = r := ht
            subst ht
            rw [l1] at lr; cases lr; exact q1 rfl
          · have ht := of_decide_eq_true ht
            have ht : h.2.1 = r := ht
            subst ht
            rw [l2] at lr; cases lr; exact q2 rfl
        rw [this]
  · rw [posOf_drop, I.no r lr]
    rfl
theorem del_branch {n i p : Nat} {κ : Kap} {st : List (Key × R)} {ks : KR} {h g : Hook} {row : Row} {j1 j2 : Nat} {p0 p3 p7 : Option R} {E : DEnds} (I : SInv hookD n κ st ks) (K : KOk row i ks) (l1 : lookM st (.inr h.1) = some (.c j1)) (l2 : lookM st (.inr h.2.1) = some (.c j2)) (hne : h.1 ≠ h.2.1)
    (e1 : (posOf h.1 ks).getLast? = some p) (e2 : (posOf h.2.1 ks).getLast? = some p) (hg : (p, g) ∈ ks) (hgt : g = turned h)
    (k : ∀ κ', SInv hookD n κ' st (ks.filter fun e => decide (e.1 ≠ p)) → E.nx [p0, some (.c 0), some (.c 1), p3, some (.d (hookD h)), some (.c j1), some (.c j2), p7] κ') :
    wd_settled E [p0, some (.c 0), some (.c 1), p3, some (.d (hookD h)), some (.c j1), some (.c j2), p7] κ := by
  obtain ⟨g1, a1⟩ := I.at_ _ _ l1
  obtain ⟨g2, a2⟩ := I.at_ _ _ l2
  have j12 : j1 ≠ j2 := fun e => by
    subst e
    exact hne (I.apart _ _ _ l1 l2)
  obtain ⟨t1, d1⟩ := last_natsD e1
  obtain ⟨t2, d2⟩ := last_natsD e2
  have b1 : (κ.set j1 (Cell.l (natsD (posOf h.1 ks).dropLast)))[1]? = some (.m (keptE hookD ks)) := by rw [List.getElem?_set_ne (by omega)]; exact I.s1
  have lk := keptE_look (f := hookD) hg
  have b2 : ((κ.set j1 (Cell.l (natsD (posOf h.1 ks).dropLast))).set 1 (Cell.m (keptE hookD (ks.filter fun e => decide (e.1 ≠ p)))))[j2]? = some (.l (natsD (posOf h.2.1 ks))) := by
    rw [List.getElem?_set_ne (by omega), List.getElem?_set_ne j12]; exact a2
  unfold wd_settled
  rw [s_seq]
  unfold wDelD wPop0
  simp only [s_var, List.getElem?_cons_succ, List.getElem?_cons_zero, a1, t1, Opt_some, d1, st_d, b1, keyD]
  refine ⟨lk, ?_⟩
  rw [keptE_drop]
  simp only [s_drop, s_var, List.getElem?_cons_succ, List.getElem?_cons_zero, b2, t2, Opt_some, d2]
  have nd := K.nd
  have fl1 : (posOf h.1 ks).filter (fun i => decide (i ≠ p)) = (posOf h.1 ks).dropLast := filter_last (posOf_nd nd) e1
  have fl2 : (posOf h.2.1 ks).filter (fun i => decide (i ≠ p)) = (posOf h.2.1 ks).dropLast := filter_last (posOf_nd nd) e2
  exact k _ (I.del K l1 l2 hne e1 e2 hg hgt)
/-! ### the test -/
theorem shaped_hook {h : Hook} (a : IsName h.1) (b : IsName h.2.1) : SeqAt.shaped (hookD h) = true := by
  have s1 := a.shaped
  have s2 := b.shaped
  unfold SeqAt.shaped at s1 s2
  rw [Bool.and_eq_true] at s1 s2
  unfold SeqAt.shaped hookD PyData.canLay0
  rw [Bool.and_eq_true]
  refine ⟨?_, ?_⟩
  · have q1 := s1.1
    have q2 := s2.1
    simp [PyData.canLay0] at q1 q2
    simp [PyData.canLayAll0, PyData.canLay0, q1, q2]
  · simp [PyData.depth, PyData.depthAll]
theorem eqv_hook (g h : Hook) : PyData.eqv (hookD g) (hookD h) = decide (g = h) := by
  obtain ⟨a, b, c⟩ := g
  obtain ⟨a', b', c'⟩ := h
  unfold hookD
  simp only [PyData.eqv, PyData.eqvAll, Bool.and_true]
  by_cases h1 : a = a' <;> by_cases h2 : b = b' <;> by_cases h3 : c = c' <;> simp [h1, h2, h3]
theorem eqD_hook {g h : Hook} (a : IsName g.1) (b : IsName g.2.1) (a' : IsName h.1) (b' : IsName h.2.1) : eqD false (hookD g) (hookD h) = some (.v (.bool (decide (g = h)))) := by
  rw [eqD_of (shaped_hook a b) (shaped_hook a' b'), eqv_hook]
  rfl

theorem ix_natsD {l : List Nat} {p : Nat} (e : l.getLast? = some p) : ixD (.list (natsD l)) (.int (-1)) = some (.v (.int (p : Int))) := by
  obtain ⟨l', rfl⟩ := List.getLast?_eq_some_iff.mp e
  rw [← natsD_snoc]
  exact ixD_list (L2.atI_last _ _)
theorem len_pos {l : List Nat} {p : Nat} (e : l.getLast? = some p) : gtI (l.length : Int) 0 = true := by
  obtain ⟨l', rfl⟩ := List.getLast?_eq_some_iff.mp e
  refine decide_eq_true ?_
  simp
theorem eqD_int3 (i j : Int) : eqD false (.int i) (.int j) = some (.v (.bool (decide (i = j)))) := by
  rw [eqD_of (by unfold SeqAt.shaped PyData.canLay0; simp [PyData.depth]) (by unfold SeqAt.shaped PyData.canLay0; simp [PyData.depth])]
  have e : PyData.eqv (.int i) (.int j) = decide (i = j) := by
    rw [PyData.eqv]
    by_cases q : i = j <;> simp [q]
  rw [e]
  rfl
theorem test_settled {n i : Nat} {κ : Kap} {st : List (Key × R)} {ks : KR} {h : Hook} {row : Row} {D : PyData} {j1 j2 : Nat} {p1 p2 p3 p7 : Option R} {P : Bool → Kap → Prop} (hD : RowD D row) (I : SInv hookD n κ st ks) (K : KOk row i ks) (hin : RowIn row) (hh : IsName h.1 ∧ IsName h.2.1 ∧ h.1 ≠ h.2.1)
    (l1 : lookM st (.inr h.1) = some (.c j1)) (l2 : lookM st (.inr h.2.1) = some (.c j2))
    (kt : ∀ p, (posOf h.1 ks).getLast? = some p → (posOf h.2.1 ks).getLast? = some p → row[p]? = some (turned h) → P true κ)
    (kf : (¬ ∃ p, (posOf h.1 ks).getLast? = some p ∧ (posOf h.2.1 ks).getLast? = some p ∧ row[p]? = some (turned h)) → P false κ) :
    wt_settled [some (.d D), p1, p2, p3, some (.d (hookD h)), some (.c j1), some (.c j2), p7] κ P := by
  obtain ⟨g1, a1⟩ := I.at_ _ _ l1
  obtain ⟨g2, a2⟩ := I.at_ _ _ l2
  have z0 : gtI ((0 : Nat) : Int) 0 = false := rfl
  cases e1 : (posOf h.1 ks).getLast? with
  | none =>
    have n1 := List.getLast?_eq_none_iff.mp e1
    have f := kf fun ⟨p, q, _⟩ => by rw [e1] at q; cases q
    rw [n1] at a1
    simp [wt_settled, val_c a1, natsD]
    exact f
  | some p =>
    cases e2 : (posOf h.2.1 ks).getLast? with
    | none =>
      have n2 := List.getLast?_eq_none_iff.mp e2
      have f := kf fun ⟨p, _, q, _⟩ => by rw [e2] at q; cases q
      rw [n2] at a2
      simp [wt_settled, val_c a1, val_c a2, natsD_len, len_pos e1]
      exact f
    | some q =>
      obtain ⟨g, hg, hrow, _, _⟩ := K.get (List.mem_of_getLast? e1)
      have ixr : ixD D (.int (p : Int)) = some (.v (hookD g)) := by
        have e : (row.map hookD)[p]? = some (hookD g) := by
          rw [List.getElem?_map, hrow]
          rfl
        rcases hD with rfl | rfl
        · exact ixD_list (atI_nat e)
        · exact ixD_tuple (atI_nat e)
      have hgin := hin g (List.mem_of_getElem? hrow)
      by_cases epq : p = q
      · subst epq
        have ed := eqD_hook hgin.1 hgin.2.1 (h := turned h) hh.1 hh.2.1
        simp [wt_settled, val_c a1, val_c a2, natsD_len, len_pos e1, len_pos e2, ix_natsD e1, ix_natsD e2, eqD_int3, ixr]
        refine ⟨h, rfl, ?_⟩
        simp only [st_d, val_d, Opt_some, ed, out_v]
        by_cases eg : g = turned h
        · rw [decide_eq_true eg]
          exact kt p e1 e2 (by rw [hrow, eg])
        · rw [decide_eq_false eg]
          refine kf fun ⟨p', q1, _, q3⟩ => ?_
          rw [e1] at q1
          cases q1
          rw [hrow] at q3
          exact eg (Option.some.inj q3)
      · have f := kf fun ⟨p', q1, q2, _⟩ => by
          rw [e1] at q1
          rw [e2] at q2
          cases q1
          cases q2
          exact epq rfl
        simp [wt_settled, val_c a1, val_c a2, natsD_len, len_pos e1, len_pos e2, ix_natsD e1, ix_natsD e2, eqD_int3, epq]
        rw [if_neg (by omega)]
        exact f

theorem sStep_true {row : Row} {ks : KR} {i p : Nat} {h : Hook} (e1 : (posOf h.1 ks).getLast? = some p) (e2 : (posOf h.2.1 ks).getLast? = some p) (e3 : row[p]? = some (turned h)) : sStep row ks i h = ks.filter fun e => decide (e.1 ≠ p) := by
  unfold sStep
  rw [e1, e2]
  simp only
  rw [if_pos ⟨trivial, e3⟩]
theorem sStep_false {row : Row} {ks : KR} {i : Nat} {h : Hook} (e : ¬ ∃ p, (posOf h.1 ks).getLast? = some p ∧ (posOf h.2.1 ks).getLast? = some p ∧ row[p]? = some (turned h)) : sStep row ks i h = ks ++ [(i, h)] := by
  unfold sStep
  cases e1 : (posOf h.1 ks).getLast? with
  | none => rfl
  | some p =>
    cases e2 : (posOf h.2.1 ks).getLast? with
    | none => rfl
    | some q =>
      simp only
      rw [if_neg]
      intro z
      obtain ⟨z1, z2⟩ := z
      subst z1
      exact e ⟨p, e1, e2, z2⟩
theorem sStep_ok {row : Row} {ks : KR} {i : Nat} {h : Hook} (K : KOk row i ks) (e : row[i]? = some h) : KOk row (i + 1) (sStep row ks i h) := by
  by_cases q : ∃ p, (posOf h.1 ks).getLast? = some p ∧ (posOf h.2.1 ks).getLast? = some p ∧ row[p]? = some (turned h)
  · obtain ⟨p, e1, e2, e3⟩ := q
    rw [sStep_true e1 e2 e3]
    exact K.del
  · rw [sStep_false q]
    exact K.app e
theorem nd_len : ∀ (i : Nat) (l : List Nat), l.Nodup → (∀ x ∈ l, x < i) → l.length ≤ i
  | 0, [], _, _ => Nat.le_refl _
  | 0, x :: l, _, h => absurd (h x (List.mem_cons_self ..)) (by omega)
  | i + 1, l, nd, h => by
    have ih := nd_len i (l.erase i) (nd.sublist List.erase_sublist) fun x hx => by
      have h1 := h x (List.mem_of_mem_erase hx)
      have h2 : x ≠ i := fun e => by
        subst e
        exact nd.not_mem_erase hx
      omega
    by_cases hm : i ∈ l
    · rw [List.length_erase_of_mem hm] at ih
      omega
    · rw [List.erase_of_not_mem hm] at ih
      omega
theorem KOk.len {row : Row} {i : Nat} {ks : KR} (K : KOk row i ks) : ks.length ≤ i := by
  have := nd_len i (ks.map (·.1)) K.nd fun x hx => by
    obtain ⟨q, hq, rfl⟩ := List.mem_map.mp hx
    exact K.lt q hq
  rwa [List.length_map] at this
theorem settled_body {n i : Nat} {κ : Kap} {st : List (Key × R)} {ks : KR} {h : Hook} {row : Row} {D : PyData} {p5 p6 : Option R} {E : DEnds} (hD : RowD D row) (I : SInv hookD n κ st ks) (K : KOk row i ks) (hin : RowIn row) (hi : row[i]? = some h) (hn : n < 4000000) (hl : row.length ≤ 1000000)
    (k : ∀ κ' st' q5 q6, SInv hookD (n + 2) κ' st' (sStep row ks i h) → E.nx [some (.d D), some (.c 0), some (.c 1), some (.d (.int i)), some (.d (hookD h)), q5, q6, none] κ') :
    wb_settled E [some (.d D), some (.c 0), some (.c 1), some (.d (.int i)), some (.d (hookD h)), p5, p6, none] κ := by
  have hh := hin h (List.mem_of_getElem? hi)
  have il : i < row.length := (List.getElem?_eq_some_iff.mp hi).1
  unfold wb_settled
  rw [s_seq]
  refine two_setd I hn fun j1 j2 κ1 st1 I1 l1 l2 => ?_
  simp only [s_if]
  refine test_settled hD I1 K hin hh l1 l2 (fun p e1 e2 e3 => ?_) fun ne => ?_
  · rw [if_pos rfl]
    obtain ⟨g, hg, hrow, _, _⟩ := K.get (List.mem_of_getLast? e1)
    have eg : g = turned h := by
      rw [hrow] at e3
      exact Option.some.inj e3
    refine del_branch I1 K l1 l2 hh.2.2 e1 e2 hg eg fun κ2 I2 => ?_
    rw [← sStep_true (row := row) (i := i) e1 e2 e3] at I2
    exact k κ2 st1 _ _ I2
  · rw [if_neg (by decide)]
    have kl := K.len
    refine app_branch I1 l1 l2 hh.2.2 K.lt (by omega) fun κ2 I2 => ?_
    rw [← sStep_false (row := row) ne] at I2
    exact k κ2 st1 _ _ I2
theorem settled_loop {ok : Kap → Prop} {E : DEnds} {row : Row} {D : PyData} (hD : RowD D row) (hok : ∀ κ, ok κ) (hin : RowIn row) (hl : row.length ≤ 1000000) : ∀ (hs : Row) (i n : Nat) (κ : Kap) (st : List (Key × R)) (ks : KR) (p3 p4 p5 p6 : Option R), row.drop i = hs → i + hs.length = row.length → n ≤ 2 * i → SInv hookD n κ st ks → KOk row i ks →
    (∀ n κ st p3 p4 p5 p6, SInv hookD n κ st (sLoop row ks i hs) → E.nx [some (.d D), some (.c 0), some (.c 1), p3, p4, p5, p6, none] κ) →
    forL ok (wTupG 2 (wgCons (wName 3) (wgCons (wName 4) wgNil))) wb_settled E (enumD i (hs.map hookD)) [some (.d D), some (.c 0), some (.c 1), p3, p4, p5, p6, none] κ
  | [], i, n, κ, st, ks, p3, p4, p5, p6, _, _, _, I, _, k => k n κ st p3 p4 p5 p6 I
  | h :: hs, i, n, κ, st, ks, p3, p4, p5, p6, hd, hlen, hn, I, K, k => by
    show forL _ _ _ _ (.tuple [.int i, hookD h] :: enumD (i + 1) (hs.map hookD)) _ _
    rw [forL_cons, s_tupG]
    refine ⟨rfl, ?_⟩
    simp only [List.length_cons] at hlen
    have hi : row[i]? = some h := by
      have := congrArg List.head? hd
      rw [List.head?_drop] at this
      exact this
    have hd2 : row.drop (i + 1) = hs := by
      have := congrArg List.tail hd
      rw [List.tail_drop] at this
      exact this
    refine settled_body hD I K hin hi (by omega) hl fun κ' st' q5 q6 I' => ⟨hok _, ?_⟩
    exact settled_loop hD hok hin hl hs (i + 1) (n + 2) κ' st' _ _ _ _ _ hd2 (by omega) (by omega) I' (sStep_ok K hi) k
theorem keptE_dat (ks : KR) : datM (keptE hookD ks) = some ((ks.map (·.2)).map hookD) := by
  induction ks with
  | nil => rfl
  | cons p ks ih =>
    show (match datM (keptE hookD ks) with
      | some xs => some (hookD p.2 :: xs)
      | none => none) = _
    rw [ih]
    rfl
theorem r_settled (rs : List R) (Pd : R → Prop) (h : Ph_settled rs Pd) (hl : rs.length = 1) : w_settled { nx := fun _ _ => Pd (.d .none), rt := fun r κ => Opt (outR κ 0 r) Pd } (rs.map some ++ List.replicate 7 none) [] := by
  obtain ⟨row, D, hD, rfl, hlen, hin, k⟩ := h
  clear hl
  have I0 : SInv hookD 0 [Cell.m [], Cell.m (keptE hookD [])] [] [] := ⟨rfl, rfl, Nat.le_refl _, (fun r j h => nomatch h), (fun r _ => rfl), (fun r x h => nomatch h), (fun r r' j h _ => nomatch h)⟩
  have K0 : KOk row 0 [] := ⟨(fun p h => nomatch h), (fun p h => nomatch h), List.nodup_nil⟩
  unfold w_settled
  rw [s_seq]
  rcases hD with rfl | rfl
  all_goals simp [wDict0]
  all_goals refine settled_loop (ok := fun _ => True) (by first | exact .inl rfl | exact .inr rfl) (fun _ => trivial) hin hlen row 0 0 _ _ _ _ _ _ _ rfl (by omega) (by omega) I0 K0 fun n κ st p3 p4 p5 p6 I => ?_
  all_goals unfold wListVals
  all_goals simp only [s_ret, s_var, List.getElem?_cons_succ, List.getElem?_cons_zero, I.s1, keptE_dat, Opt_some]
  all_goals exact k
end SH
/-! DLq: xs.pop(i), d.pop(k). -/
namespace DL
open PySem PySem.Spec PyProof.Rows L2
/-- xs.pop(i), i from the front -/
def wPop1 (wo wi : DTE) : DTE := fun ρ κ P => wo ρ κ fun ro κ1 => match ro with
  | .c k => (∃ zs, κ1[k]? = some (.l zs)) ∧ wi ρ κ1 fun ri κ2 => match ri, κ2[k]? with
    | .d (.int i), some (.l xs) => 0 ≤ i ∧ i < 2 ^ 62 ∧ Opt (xs[i.toNat]?) fun y => P (.d y) (κ2.set k (Cell.l (xs.eraseIdx i.toNat)))
    | _, _ => False
  | _ => False
theorem RpA.erase {K : PySem.W.Frag} {G : Hp} : ∀ {vs : List V} {ds : List PyData} (i : Nat), RpA K G vs ds → RpA K G (vs.eraseIdx i) (ds.eraseIdx i)
  | _, _, _, .nil => .nil
  | _, _, 0, .cons _ t => t
  | _, _, i + 1, .cons r t => .cons r (RpA.erase i t)
section
variable {X : Cx} {o e : Expr} {wo we : DTE} {apos cpos : Pos}
theorem de_pop1 (ho : DE X o wo) (ha : DE X e we) (hbase : attributeBase o "pop" X.env (eval o X.env) = eval o X.env := by rfl)
    (hfew : ((backTo cpos (starEach [e] X.env)).all (fun x => !x.1) && (backToKw cpos (keywordEach [] X.env)).all (fun x => x.1.isSome) && decide (([e] : List Expr).length + ([] : List Keyword).length + (if ([] : List Keyword).isEmpty then 0 else 1) < 30)) = true := by rfl)
    (hline : (apos.endLine == cpos.line) = true := by rfl) (hs : starEach [e] X.env = (false, eval e X.env) :: starEach [] X.env := by rfl) (hplain : (backTo cpos (starEach [] X.env)).any (·.1) = false := by rfl) :
    DE X (.Call (.Attribute o "pop" apos) [e] [] cpos) (wPop1 wo we) := by
  obtain ⟨to, po, ho⟩ := ho
  obtain ⟨ta, pa, ha⟩ := ha
  refine ⟨_, pe_bm PySem.F.plainAttrs_list PySem.F.slot_list_pop PySem.F.type_list_pop mt_popAt po (pa_cons pa pa_nil hs) hbase hfew hline hs hplain, fun G H As σ ρ κ P Q c p w k => ?_⟩
  refine ho G H As σ ρ κ _ _ c p w fun v1 r1 G1 H1 As1 κ1 s1 c1 p1 i1 w1 => ?_
  cases r1 with
  | c kk =>
    obtain ⟨l, hl, rfl⟩ := i1
    obtain ⟨⟨zs, ez⟩, w1⟩ := w1
    obtain ⟨_, zv, z2, _⟩ := c1.ok kk _ l ez hl
    refine ⟨.inl ⟨rfl, zv, sql_of z2⟩, ?_⟩
    refine ha G1 H1 As1 σ ρ κ1 _ _ c1 p1 w1 fun v2 r2 G2 H2 As2 κ2 s2 c2 p2 i2 w2 => ?_
    split at w2
    · rename_i o1 o2 i xs hk
      obtain ⟨h0, h1, w3⟩ := w2
      obtain ⟨y, ey, w4⟩ := w3.ex
      have i2 : Rp X.K G2 v2 (.int i) := i2
      cases i2
      obtain ⟨bs, eb⟩ := s2.pre
      have hl2 : As2[kk]? = some l := by rw [eb, List.getElem?_append_left (List.getElem?_eq_some_iff.mp hl).1]; exact hl
      obtain ⟨g0, vs, hq, rp⟩ := c2.ok kk _ l hk hl2
      obtain ⟨v, e1, e2⟩ := rp.get ey
      have hlt : i.toNat < vs.length := (List.getElem?_eq_some_iff.mp e1).1
      refine ⟨l, vs, i, i.toNat, v, rfl, rfl, hq, by omega, by omega, seqIndex_of h0 (by omega), e1, ?_⟩
      have sw : Step G2 H2 As2 G2 (upd H2 l (.lst (vs.eraseIdx i.toNat))) As2 := Step.write (List.mem_of_getElem? hl2) hq
      have sa := (s1.trans s2).trans sw
      exact k v (.d y) G2 _ As2 _ sa (c2.write hk hl2 (rp.erase _)) (p.step sa) e2 w4
    · exact w2.elim
  | _ => exact w1.elim
/-- d.pop(k), it is there and known for good -/
def wPopD (wo wi : DTE) : DTE := fun ρ κ P => wo ρ κ fun ro κ1 => match ro with
  | .c d => (∃ es, κ1[d]? = some (.m es)) ∧ wi ρ κ1 fun ri κ2 => match ri.st, κ2[d]? with
    | .d x, some (.m es) => Opt (keyD x) fun q => Opt (lookM es q) fun r => match r with
      | .d y => P (.d y) (κ2.set d (Cell.m (dropM es q)))
      | _ => False
    | _, _ => False
  | _ => False
theorem de_popD (ho : DE X o wo) (hi : DE X e we) (m : M1 X o "pop" apos e cpos) : DE X (.Call (.Attribute o "pop" apos) [e] [] cpos) (wPopD wo we) := by
  obtain ⟨to, po, ho⟩ := ho
  obtain ⟨ti, pi, hi⟩ := hi
  refine ⟨_, pe_dpop1 po pi m, fun G H As σ ρ κ P Q c p w k => ?_⟩
  refine ho G H As σ ρ κ _ _ c p w fun v1 r1 G1 H1 As1 κ1 s1 c1 p1 i1 w1 => ?_
  cases r1 with
  | c kk =>
    obtain ⟨l, hl, rfl⟩ := i1
    obtain ⟨⟨es1, e1⟩, w1⟩ := w1
    obtain ⟨_, kvs1, hq1, _⟩ := c1.ok kk _ l e1 hl
    refine ⟨l, rfl, .inl ⟨kvs1, .inl hq1⟩, ?_⟩
    refine hi G1 H1 As1 σ ρ κ1 _ _ c1 p1 w1 fun v2 r2 G2 H2 As2 κ2 s2 c2 p2 i2 w2 => ?_
    obtain ⟨G2', s2', c2', p2', i2', _⟩ := settle s2 c2 p2 i2
    split at w2
    · rename_i o1 o2 y es he hk
      obtain ⟨q, eq, w3⟩ := w2.ex
      obtain ⟨rr, lk, w4⟩ := w3.ex
      rw [he] at i2'
      have i2' : Rp X.K G2' v2 y := i2'
      have ek := key_rel eq i2'
      obtain ⟨bs, eb⟩ := s2'.pre
      have hl2 : As2[kk]? = some l := by rw [eb, List.getElem?_append_left (List.getElem?_eq_some_iff.mp hl).1]; exact hl
      obtain ⟨g0, kvs, hq, mp⟩ := c2'.ok kk _ l hk hl2
      obtain ⟨v', z1, z2⟩ := mp.look lk
      refine ⟨kvs, q, v', hq, ek, z1, ?_⟩
      have sw : Step G2' H2 As2 G2' (upd H2 l (.dK (dropK kvs q))) As2 := Step.write (List.mem_of_getElem? hl2) hq
      have sa := (s1.trans s2').trans sw
      cases rr with
      | d x => exact k v' (.d x) G2' _ As2 _ sa (c2'.put (c2 := .m (dropM es q)) hk hl2 g0 ⟨g0, _, upd_same, mp.drop⟩) (p.step sa) z2 w4
      | _ => exact w4.elim
    · exact w2.elim
  | _ => exact w1.elim
end
end DL
/-! DLu: a, b, c = x, y, z. -/
namespace DL
open PySem PySem.Spec PyProof.Rows L2
def wPar3 (i j l : Nat) (wa : DTA) : DTS := fun E ρ κ => wa ρ κ fun rs κ1 => match rs with
  | [q1, q2, q3] => E.nx (((ρ.set i (some q1)).set j (some q2)).set l (some q3)) κ1
  | _ => False
section
variable {X : Cx} {a b c : Expr} {wr : DTA} {pos : Pos}
theorem ds_par3 (i j l : Nat) {x y z : Str} {px py pz pt : Pos} {kt k2 : Nat} {pt2 : Pos} (hc : X.calm = true) (hN : X.N.Nodup) (ha : DA X [a, b, c] wr) (hi : X.N[i]? = some x := by rfl) (hj : X.N[j]? = some y := by rfl) (hl : X.N[l]? = some z := by rfl) (hij : i ≠ j := by decide) (hil : i ≠ l := by decide) (hjl : j ≠ l := by decide)
    (hx : X.env.scope.names.lookup x = some .local := by rfl) (hy : X.env.scope.names.lookup y = some .local := by rfl) (hz : X.env.scope.names.lookup z = some .local := by rfl)
    (hw : swappedStores [.Tuple [.Name x px, .Name y py, .Name z pz] kt pt] (.Tuple [a, b, c] k2 pt2) X.env = pure (some [x, y, z]) := by rfl)
    (hs : swapsWithSole [.Tuple [.Name x px, .Name y py, .Name z pz] kt pt] (.Tuple [a, b, c] k2 pt2) pos.line X.env = pure false := by rfl) :
    DS X (.Assign [.Tuple [.Name x px, .Name y py, .Name z pz] kt pt] (.Tuple [a, b, c] k2 pt2) pos) (wPar3 i j l wr) := by
  obtain ⟨t, ptt, ha⟩ := ha
  refine ⟨_, ps_par3 hc hN hi hj hl hij hil hjl hx hy hz ptt hw hs, fun G H As σ ρ κ E D c p w r => ?_⟩
  refine ha G H As σ ρ κ _ _ c p w fun vs rs G1 H1 As1 κ1 s1 c1 p1 i1 l1 w1 => ?_
  match rs, vs, i1, w1 with
  | [q1, q2, q3], _, .cons h1 (.cons h2 (.cons h3 .nil)), w1 => exact ⟨_, _, _, rfl, r.nx _ _ G1 H1 As1 κ1 s1 c1 (((p1.put i h1).put j h2).put l h3) w1⟩
  | [], _, _, w1 => exact w1.elim
  | [_], _, _, w1 => exact w1.elim
  | [_, _], _, _, w1 => exact w1.elim
  | _ :: _ :: _ :: _ :: _, _, _, w1 => exact w1.elim
end
end DL
/-! SHj: hooks and choices by draws. -/
namespace SH
open PySem PySem.Spec PyProof.Rows L2 DL
/-- a hook of these names -/
def HookOf (ns : List Str) (h : Hook) : Prop := h.1 ∈ ns ∧ h.2.1 ∈ ns ∧ cs h.1 < cs h.2.1 ∧ (h.2.2 = 1 ∨ h.2.2 = -1)
def Ph_law_hook (bs : List PyData) (rs : List R) (P : R → List PyData → Prop) : Prop := ∃ (N : Int) (ns : List Str), Box N bs ∧ N ≤ 2 ^ 39 ∧ rs = [.d (.list (ns.map .str))] ∧ 2 ≤ ns.length ∧ ns.length ≤ 1000 ∧ Names ns ∧ ∀ (h : Hook) (bs' : List PyData), HookOf ns h → Box (N + 3) bs' → P (.d (hookD h)) bs'
/-- _law_hook -/
def w_law_hook : DTS := (wSeq (wPar 2 3 (wConsM false (wCallL Ph_law_take (wCons (wVar 0) (wCons (wCB lenD (wCons (wVar 1) wNil)) wNil))) (wConsM false (wCallL Ph_law_take (wCons (wVar 0) (wCons (wBin subD (wCB lenD (wCons (wVar 1) wNil)) (wC (.int 1))) wNil))) wNil)))
  (wSeq (wSet false 3 (wBin addD (wVar 3) (wCB intC (wCons (wBin (ciD geI) (wVar 3) (wVar 2)) wNil))))
  (wRet (wTup (wCons (wBin ixD (wVar 1) (wCB min2D (wCons (wVar 2) (wCons (wVar 3) wNil)))) (wCons (wBin ixD (wVar 1) (wCB max2D (wCons (wVar 2) (wCons (wVar 3) wNil)))) (wCons (wBin subD (wC (.int 1)) (wBin mulD (wC (.int 2)) (wCallL Ph_law_take (wCons (wVar 0) (wCons (wC (.int 2)) wNil))))) wNil)))))))
theorem ix_names {ns : List Str} {i : Nat} {z : Str} (h : ns[i]? = some z) : ixD (.list (ns.map .str)) (.int (i : Int)) = some (.v (.str z)) := by
  refine ixD_list (atI_nat ?_)
  rw [List.getElem?_map, h]
  rfl
theorem names_lt {ns : List Str} (hn : Names ns) {i j : Nat} {x y : Str} (hi : ns[i]? = some x) (hj : ns[j]? = some y) (h : i < j) : cs x < cs y := by
  obtain ⟨l1, q1⟩ := List.getElem?_eq_some_iff.mp hi
  obtain ⟨l2, q2⟩ := List.getElem?_eq_some_iff.mp hj
  have := List.pairwise_iff_getElem.mp hn.2 i j l1 l2 h
  rw [q1, q2] at this
  exact this
theorem r_law_hook (bs : List PyData) (rs : List R) (Pd : R → List PyData → Prop) (h : Ph_law_hook bs rs Pd) (hl : rs.length = 1) : w_law_hook { nx := fun _ κ => endL κ (.d .none) Pd, rt := fun r κ => endL κ r Pd } (some (.c 0) :: (rs.map some ++ List.replicate 2 none)) [.l bs] := by
  obtain ⟨N, ns, hb, hN, rfl, h2, h3, hn, k⟩ := h
  clear hl
  simp [w_law_hook, sizeLine_eq]
  refine ⟨N, ns.length, hb, by omega, rfl, by omega, by omega, fun a bs1 a0 a1 hb1 => ?_⟩
  simp
  refine ⟨N + 1, (ns.length : Int) - 1, hb1, by omega, rfl, by omega, by omega, fun b bs2 b0 b1 hb2 => ?_⟩
  obtain ⟨a, rfl⟩ : ∃ q : Nat, a = (q : Int) := ⟨a.toNat, by omega⟩
  obtain ⟨b, rfl⟩ : ∃ q : Nat, b = (q : Int) := ⟨b.toNat, by omega⟩
  -- the two places, the lower one first
  obtain ⟨c, hc, hac⟩ : ∃ c : Nat, ((b : Int) + if geI (b : Int) (a : Int) = true then 1 else 0) = (c : Int) ∧ c < ns.length ∧ c ≠ a := by
    by_cases q : a ≤ b
    · have d : geI (b : Int) (a : Int) = true := decide_eq_true (by omega)
      rw [if_pos d]
      exact ⟨b + 1, by omega, by omega, by omega⟩
    · have d : ¬ geI (b : Int) (a : Int) = true := fun z => absurd (of_decide_eq_true z) (by omega)
      rw [if_neg d]
      exact ⟨b, by omega, by omega, by omega⟩
  obtain ⟨i, hi1, hi2⟩ : ∃ i : Nat, (if c < a then (c : Int) else (a : Int)) = (i : Int) ∧ i = min a c := by
    by_cases q : c < a
    · rw [if_pos q]; exact ⟨c, rfl, by omega⟩
    · rw [if_neg q]; exact ⟨a, rfl, by omega⟩
  obtain ⟨j, hj1, hj2⟩ : ∃ j : Nat, (if a < c then (c : Int) else (a : Int)) = (j : Int) ∧ j = max a c := by
    by_cases q : a < c
    · rw [if_pos q]; exact ⟨c, rfl, by omega⟩
    · rw [if_neg q]; exact ⟨a, rfl, by omega⟩
  have hij : i < j := by omega
  have li : i < ns.length := by omega
  have lj : j < ns.length := by omega
  have ei := ix_names (List.getElem?_eq_getElem li)
  have ej := ix_names (List.getElem?_eq_getElem lj)
  have hlt := names_lt hn (List.getElem?_eq_getElem li) (List.getElem?_eq_getElem lj) hij
  simp [hc, hi1, hj1, ei, ej]
  refine ⟨N + 1 + 1, 2, hb2, by omega, rfl, by decide, by decide, fun z bs3 z0 z1 hb3 => ?_⟩
  simp [mulD_int (i := 2) (j := z) (.inl (by decide))]
  refine k (ns[i], ns[j], 1 - 2 * z) bs3 ⟨List.getElem_mem li, List.getElem_mem lj, hlt, ?_⟩ (hb3.mono (by omega))
  show 1 - 2 * z = 1 ∨ 1 - 2 * z = -1
  omega

/-! ### some of these names -/
def Ph_law_some (bs : List PyData) (rs : List R) (P : R → List PyData → Prop) : Prop := ∃ (N : Int) (ns : List Str) (few : Nat), Box N bs ∧ N ≤ 2 ^ 39 ∧ rs = [.d (.list (ns.map .str)), .d (.int few)] ∧ few ≤ ns.length ∧ ns.length ≤ 1000 ∧ Names ns ∧
  ∀ (ms : List Str) (bs' : List PyData), Names ms → few ≤ ms.length → ms.length ≤ ns.length → (∀ z ∈ ms, z ∈ ns) → Box (N + 1001) bs' → P (.f (ms.map .str)) bs'
def wb_some : DTS := (wDrop (wAppend (wVar 4) (wPop1 (wVar 3) (wCallL Ph_law_take (wCons (wVar 0) (wCons (wCB lenD (wCons (wVar 3) wNil)) wNil))))))
/-- _law_some -/
def w_law_some : DTS := (wSeq (wPar 3 4 (wConsM true (wCB listC (wCons (wVar 1) wNil)) (wConsM true (wLst wNil) wNil)))
  (wSeq (wFor (wRng1 (wCons (wBin addD (wVar 2) (wCallL Ph_law_take (wCons (wVar 0) (wCons (wBin addD (wBin subD (wCB lenD (wCons (wVar 1) wNil)) (wVar 2)) (wC (.int 1))) wNil)))) wNil)) (wName 5) wb_some)
  (wRet (wCB sortC (wCons (wVar 4) wNil)))))
@[simp] theorem s_pop1 (wo wi : DTE) (ρ : Rho) (κ : Kap) (P : R → Kap → Prop) : wPop1 wo wi ρ κ P = wo ρ κ fun ro κ1 => match ro with
  | .c k => (∃ zs, κ1[k]? = some (.l zs)) ∧ wi ρ κ1 fun ri κ2 => match ri, κ2[k]? with
    | .d (.int i), some (.l xs) => 0 ≤ i ∧ i < 2 ^ 62 ∧ Opt (xs[i.toNat]?) fun y => P (.d y) (κ2.set k (Cell.l (xs.eraseIdx i.toNat)))
    | _, _ => False
  | _ => False := rfl
theorem erase_map {α β : Type} (f : α → β) : ∀ (xs : List α) (i : Nat), (xs.map f).eraseIdx i = (xs.eraseIdx i).map f
  | [], _ => rfl
  | _ :: _, 0 => rfl
  | x :: xs, i + 1 => by
    show f x :: (xs.map f).eraseIdx i = f x :: (xs.eraseIdx i).map f
    rw [erase_map f xs i]
theorem el_perm {α : Type} : ∀ (st : List α) (i : Nat) (hi : i < st.length), (st[i] :: st.eraseIdx i).Perm st
  | x :: st, 0, _ => List.Perm.refl _
  | x :: st, i + 1, hi => by
    have ih := el_perm st i (by simpa using hi)
    exact (List.Perm.swap x _ _).trans (ih.cons x)
theorem val_c2 (c d : Cell) (xs : List PyData) (κ : Kap) : val (c :: d :: .l xs :: κ) (.c 2) = some (.list xs) := rfl
theorem some_loop {E : DEnds} {p1 p2 : Option R} {ns : List Str} (hns : ns.length ≤ 1000) : ∀ (xs : List PyData) (st fs : List Str) (bs : List PyData) (N : Int) (p5 : Option R), Box N bs → N + (xs.length : Int) < 2 ^ 40 → xs.length ≤ st.length → (fs ++ st).Perm ns →
    (∀ (st' fs' : List Str) (bs' : List PyData) (p5 : Option R), (fs' ++ st').Perm ns → fs'.length = fs.length + xs.length → Box (N + (xs.length : Int)) bs' → E.nx [some (.c 0), p1, p2, some (.c 1), some (.c 2), p5] [.l bs', .l (st'.map .str), .l (fs'.map .str)]) →
    forL (fun _ => True) (wName 5) wb_some E xs [some (.c 0), p1, p2, some (.c 1), some (.c 2), p5] [.l bs, .l (st.map .str), .l (fs.map .str)]
  | [], st, fs, bs, N, p5, hb, _, _, hp, k => by
    rw [forL_nil]
    exact k st fs bs p5 hp (by simp) (by simpa using hb)
  | x :: xs, st, fs, bs, N, p5, hb, hN, hl, hp, k => by
    rw [forL_cons]
    simp only [List.length_cons] at hN hl k
    have hlen : fs.length + st.length = ns.length := by
      have := hp.length_eq
      simpa using this
    simp [wb_some]
    refine ⟨N, st.length, hb, by omega, rfl, by omega, by omega, fun r bs' r0 r1 hb' => ?_⟩
    obtain ⟨i, rfl⟩ : ∃ i : Nat, r = (i : Int) := ⟨r.toNat, by omega⟩
    have hi : i < st.length := by omega
    have e1 : (st.map PyData.str)[i]? = some (.str st[i]) := by rw [List.getElem?_map, List.getElem?_eq_getElem hi]; rfl
    simp [e1, erase_map]
    refine ⟨by omega, by rw [sizeLine_eq]; omega, ?_⟩
    have e2 : fs.map PyData.str ++ [.str st[i]] = (fs ++ [st[i]]).map .str := by simp
    rw [e2]
    have pm : (fs ++ [st[i]] ++ st.eraseIdx i).Perm ns := by
      refine List.Perm.trans ?_ hp
      rw [List.append_assoc]
      refine List.Perm.append_left fs ?_
      exact el_perm st i hi
    refine some_loop hns xs (st.eraseIdx i) (fs ++ [st[i]]) bs' (N + 1) _ hb' (by omega) ?_ pm fun st' fs' bs2 p5 q1 q2 q3 => k st' fs' bs2 p5 q1 (by simp at q2; omega) (q3.mono (by omega))
    rw [List.length_eraseIdx, if_pos hi]
    omega
theorem r_law_some (bs : List PyData) (rs : List R) (Pd : R → List PyData → Prop) (h : Ph_law_some bs rs Pd) (hl : rs.length = 2) : w_law_some { nx := fun _ κ => endL κ (.d .none) Pd, rt := fun r κ => endL κ r Pd } (some (.c 0) :: (rs.map some ++ List.replicate 3 none)) [.l bs] := by
  obtain ⟨N, ns, few, hb, hN, rfl, hf, hl1, hn, k⟩ := h
  clear hl
  simp [w_law_some, sizeLine_eq]
  refine ⟨N, (ns.length : Int) - few + 1, hb, by omega, rfl, by omega, by omega, fun r bs1 r0 r1 hb1 => ?_⟩
  simp
  obtain ⟨m, hm⟩ : ∃ m : Nat, (few : Int) + r = (m : Int) := ⟨((few : Int) + r).toNat, by omega⟩
  rw [hm]
  refine ⟨by omega, by omega, ?_⟩
  have e0 : ([] : List PyData) = (([] : List Str).map .str) := rfl
  rw [e0]
  refine some_loop (ns := ns) hl1 _ ns [] bs1 (N + 1) _ hb1 (by simp; omega) (by simp; omega) (List.Perm.refl _) fun st' fs' bs2 p5 q1 q2 q3 => ?_
  simp at q2
  have nd : (fs' ++ st').Nodup := q1.nodup_iff.mpr (hn.2.imp fun {a b} z e => by subst e; exact absurd z (List.lt_irrefl _))
  have nd1 : fs'.Nodup := (List.nodup_append.mp nd).1
  have sub : ∀ z ∈ fs', z ∈ ns := fun z hz => q1.mem_iff.mp (List.mem_append_left _ hz)
  have ll := q1.length_eq
  rw [List.length_append] at ll
  obtain ⟨n1, n2⟩ := sorted_names (fun z hz => hn.1 z (sub z hz)) nd1
  simp [val_c2]
  rw [sortC_list (sortOk_strs (by rw [sizeLine_eq]; omega)), sort_strs]
  simp
  refine k _ bs2 n1 (by omega) (by omega) (fun z hz => sub z ((List.mergeSort_perm _ _).mem_iff.mp hz)) (q3.mono (by simp; omega))
end SH
/-! DLv: dicts that are locked for good, their walks, dict comprehensions. -/
namespace DL
open PySem PySem.Spec PyProof.Rows L2

/-! ### a new thing that only the maker knows -/
section
variable {K : PySem.W.Frag} {G H G' H' G1 H1 : Hp} {As As' As1 : List Addr} {κ κ' : Kap} {D : Addr} {o u : HO}
theorem Step.keepD (s : Step G H As G' H' As') (g0 : G D = none) (n0 : D ∉ As) (h0 : H D = some o) : G' D = none ∧ D ∉ As' ∧ H' D = some o := by
  refine ⟨?_, fun hm => ?_, s.fr D _ n0 h0⟩
  · rcases s.gn D g0 with z | z | z
    · exact z
    · rw [h0] at z; cases z
    · exact absurd z n0
  · rcases s.new D hm with z | z
    · exact n0 z
    · rw [h0] at z; cases z
theorem Step.growD (s : Step G1 H1 As1 G' H' As') (c : Cells K G' H' As' κ') (hD : H1 D = none) (g0 : G' D = none) (n0 : D ∉ As') : Step G1 H1 As1 G' (upd H' D u) As' ∧ Cells K G' (upd H' D u) As' κ' := by
  refine ⟨⟨s.ex, s.pre, s.new, fun b u hb e => ?_, fun b e => ?_, s.gn⟩, ⟨c.ext.mut g0, c.len, c.nd, fun a ha => ?_, fun j x a e1 e2 => ?_⟩⟩
  · by_cases q : b = D
    · subst q; rw [hD] at e; cases e
    · rw [upd_ne q]; exact s.fr b u hb e
  · by_cases q : b = D
    · subst q; rw [upd_same] at e; cases e
    · rw [upd_ne q] at e; exact s.dom b e
  · by_cases q : a = D
    · subst q; exact ⟨_, upd_same⟩
    · rw [upd_ne q]; exact c.al a ha
  · have z := c.ok j x a e1 e2
    cases x with
    | l ds =>
      obtain ⟨z1, ws, z2, z3⟩ := z
      have ne : a ≠ D := fun q => n0 (by rw [← q]; exact List.mem_of_getElem? e2)
      exact ⟨z1, ws, by rw [upd_ne ne]; exact z2, z3⟩
    | m ds =>
      obtain ⟨z1, ws, z2, z3⟩ := z
      have ne : a ≠ D := fun q => n0 (by rw [← q]; exact List.mem_of_getElem? e2)
      exact ⟨z1, ws, by rw [upd_ne ne]; exact z2, z3⟩
    | z x => exact z
    | k es => exact z
    | x u =>
      obtain ⟨z1, z2⟩ := z
      have ne : a ≠ D := fun q => n0 (by rw [← q]; exact List.mem_of_getElem? e2)
      exact ⟨z1, by rw [upd_ne ne]; exact z2⟩
theorem prd_get {α β : Type} {S : α → β → Prop} : ∀ {xs : List α} {ys : List β} {i : Nat} {x : α}, Paired S xs ys → xs[i]? = some x → ∃ y, ys[i]? = some y ∧ S x y
  | _, _, _, _, .nil, e => by simp at e
  | _, _, 0, _, .cons r _, e => by simp at e; subst e; exact ⟨_, rfl, r⟩
  | _, _, i + 1, x, .cons _ t, e => by
    obtain ⟨y, h1, h2⟩ := prd_get (i := i) (x := x) t (by simpa using e)
    exact ⟨y, by simpa using h1, h2⟩
end

/-! ### a dict that lives is locked for good -/
def hdats (κ : Kap) : List (Key × R) → Option (List (Key × PyData) × Kap)
  | [] => some ([], κ)
  | e :: es => match dat κ e.2 with
    | some (x, κ1) => match hdats κ1 es with
      | some (xs, κ2) => some ((e.1, x) :: xs, κ2)
      | none => none
    | none => none
section
variable {K : PySem.W.Frag} {G H G' H' G1 H1 : Hp} {As As' As1 : List Addr} {κ κ' : Kap}
abbrev EnH (K : PySem.W.Frag) (G : Hp) (kvs : List (Key × V)) (es : List (Key × PyData)) : Prop := Paired (fun (kv : Key × V) (e : Key × PyData) => kv.1 = e.1 ∧ Rp K G kv.2 e.2) kvs es
theorem EnH.mono {kvs : List (Key × V)} {es : List (Key × PyData)} (e : Ex G G') (h : EnH K G kvs es) : EnH K G' kvs es := Paired.mapP h fun _ _ z => ⟨z.1, Rp.mono e _ _ z.2⟩
theorem hdats_ok : ∀ {es : List (Key × R)} {kvs : List (Key × V)} {G : Hp} {κ : Kap} {xs : List (Key × PyData)}, Cells K G H As κ → Mp K G As kvs es → hdats κ es = some (xs, κ') → ∃ G', Step G H As G' H As ∧ Cells K G' H As κ' ∧ EnH K G' kvs xs
  | [], _, G, κ, xs, c, h, e => by
    cases h
    cases e
    exact ⟨G, Step.refl, c, .nil⟩
  | r :: rs, _, G, κ, xs, c, h, e => by
    cases h with
    | cons h1 h2 =>
      unfold hdats at e
      cases q : dat κ r.2 with
      | none => rw [q] at e; cases e
      | some p =>
        obtain ⟨x, κ1⟩ := p
        rw [q] at e
        simp only at e
        cases q2 : hdats κ1 rs with
        | none => rw [q2] at e; cases e
        | some p2 =>
          obtain ⟨ys, κ2⟩ := p2
          rw [q2] at e
          cases e
          obtain ⟨G1, s1, c1, r1⟩ := dat_ok c h1.2 q
          obtain ⟨G2, s2, c2, r2⟩ := hdats_ok c1 (Mp.mono s1.ex s1.pre h2) q2
          exact ⟨G2, s1.trans s2, c2, .cons ⟨h1.1, Rp.mono s2.ex _ _ r1⟩ r2⟩
theorem dat_keepM {r : R} {x : PyData} {k : Nat} {es : List (Key × R)} (e : dat κ r = some (x, κ')) (h : κ[k]? = some (.m es)) : κ'[k]? = some (.m es) := by
  cases r with
  | d y => cases e; exact h
  | f y => cases e; exact h
  | s y => cases e
  | b y => cases e
  | h y => cases e
  | o y => cases e
  | c j =>
    unfold dat at e
    simp only at e
    cases q : κ[j]? with
    | none => rw [q] at e; cases e
    | some cc =>
      rw [q] at e
      cases cc with
      | l ds =>
        cases e
        have ne : j ≠ k := fun z => by subst z; rw [h] at q; cases q
        rw [List.getElem?_set_ne ne]; exact h
      | m es => cases e
      | k es => cases e
      | x u => cases e
      | z y => cases e; exact h
theorem hdats_keepM {k : Nat} {es0 : List (Key × R)} : ∀ {es : List (Key × R)} {κ : Kap} {xs : List (Key × PyData)}, hdats κ es = some (xs, κ') → κ[k]? = some (.m es0) → κ'[k]? = some (.m es0)
  | [], κ, xs, e, h => by cases e; exact h
  | r :: rs, κ, xs, e, h => by
    unfold hdats at e
    cases q : dat κ r.2 with
    | none => rw [q] at e; cases e
    | some p =>
      obtain ⟨x, κ1⟩ := p
      rw [q] at e
      simp only at e
      cases q2 : hdats κ1 rs with
      | none => rw [q2] at e; cases e
      | some p2 =>
        obtain ⟨ys, κ2⟩ := p2
        rw [q2] at e
        cases e
        exact hdats_keepM q2 (dat_keepM q h)
theorem Cells.lock {k : Nat} {a : Addr} {o : Obj} {es0 : List (Key × R)} {kvs : List (Key × V)} {es : List (Key × PyData)} (c : Cells K G H As κ) (hk : κ[k]? = some (.m es0)) (ha : As[k]? = some a) (hq : H a = some (.dK kvs)) (hp : EnH K G kvs es) :
    Step G H As (upd G a (.frz o (.dK kvs))) (upd H a (.frz o (.dK kvs))) As ∧ Cells K (upd G a (.frz o (.dK kvs))) (upd H a (.frz o (.dK kvs))) As (κ.set k (.k es)) ∧ ItH K (upd G a (.frz o (.dK kvs))) (.ref a) es := by
  have g0 : G a = none := (c.ok k _ a hk ha).1
  have hm : a ∈ As := List.mem_of_getElem? ha
  have eG : Ex G (upd G a (.frz o (.dK kvs))) := Ex.new g0
  have it : ItH K (upd G a (.frz o (.dK kvs))) (.ref a) es := ⟨a, o, kvs, rfl, upd_same, EnH.mono eG hp⟩
  refine ⟨⟨eG, ⟨[], by simp⟩, fun _ h => .inl h, fun b u hb e => ?_, fun b e => ?_, fun b hb => ?_⟩, ⟨c.ext.upd2, by rw [List.length_set]; exact c.len, c.nd, fun b hb => ?_, fun j x b e1 e2 => ?_⟩, it⟩
  · have ne : b ≠ a := fun z => hb (by rw [z]; exact hm)
    rw [upd_ne ne]; exact e
  · by_cases q : b = a
    · subst q; rw [upd_same] at e; cases e
    · rw [upd_ne q] at e; exact e
  · by_cases e : b = a
    · subst e; exact .inr (.inr hm)
    · exact .inl (by rw [upd_ne e]; exact hb)
  · by_cases e : b = a
    · subst e; exact ⟨_, upd_same⟩
    · rw [upd_ne e]; exact c.al b hb
  · by_cases hj : j = k
    · subst hj
      rw [ha] at e2; cases e2
      rw [List.getElem?_set_self (List.getElem?_eq_some_iff.mp hk).1] at e1
      cases e1
      exact it
    · rw [List.getElem?_set_ne (fun z => hj z.symm)] at e1
      have w := c.ok j x b e1 e2
      have ne : b ≠ a := fun z => hj (by
        subst z
        obtain ⟨l1, q1⟩ := List.getElem?_eq_some_iff.mp e2
        obtain ⟨l2, q2⟩ := List.getElem?_eq_some_iff.mp ha
        exact (List.getElem_inj c.nd).mp (q1.trans q2.symm))
      cases x with
      | l ds' =>
        obtain ⟨w1, ws, w2, w3⟩ := w
        exact ⟨by rw [upd_ne ne]; exact w1, ws, by rw [upd_ne ne]; exact w2, RpA.mono eG _ _ w3⟩
      | m es =>
        obtain ⟨w1, ws, w2, w3⟩ := w
        exact ⟨by rw [upd_ne ne]; exact w1, ws, by rw [upd_ne ne]; exact w2, w3.mono eG ⟨[], by simp⟩⟩
      | z x => exact Rp.mono eG _ _ w
      | k es => exact ItH.mono eG w
      | x u => exact ⟨by rw [upd_ne ne]; exact w.1, by rw [upd_ne ne]; exact w.2⟩
end
def tFrz (t : TE) : TE := fun σ H Q => t σ H fun v H1 => Q v H1 ∨ ∃ d kvs, v = .ref d ∧ H1 d = some (.dK kvs) ∧ ∀ o, Q v (upd H1 d (.frz o (.dK kvs)))
def wFrz (we : DTE) : DTE := fun ρ κ P => we ρ κ fun r κ1 => match r with
  | .c k => match κ1[k]? with
    | some (.m es) => Opt (hdats κ1 es) fun q => P (.h q.1) (q.2.set k (.k q.1))
    | some (.k es) => P (.h es) κ1
    | _ => False
  | .h es => P (.h es) κ1
  | _ => False
section
variable {X : Cx} {e tg : Expr} {t : TE} {we : DTE} {pos apos cpos : Pos}
theorem pe_frz (h : PE X e t) : PE X e (tFrz t) := by
  refine ⟨fun pins s σ H Q I hw => thn (h.run pins s σ H _ I hw) fun v s1 ⟨x, H1, I1, r, q⟩ => ?_⟩
  rcases q with q | ⟨d, kvs, rfl, hd, q⟩
  · exact ⟨x, H1, I1, r, q⟩
  · obtain ⟨od, I2⟩ := I1.lock hd trivial
    exact ⟨_, _, I2, r, q od⟩
theorem de_frz (he : DE X e we) : DE X e (wFrz we) := by
  obtain ⟨t, pt, he⟩ := he
  refine ⟨_, pe_frz pt, fun G H As σ ρ κ P Q c p w k => ?_⟩
  refine he G H As σ ρ κ _ _ c p w fun v1 r1 G1 H1 As1 κ1 s1 c1 p1 i1 w1 => ?_
  cases r1 with
  | h es => exact .inl (k v1 (.h es) G1 H1 As1 κ1 s1 c1 p1 i1 w1)
  | c j =>
    obtain ⟨a, ha, rfl⟩ := i1
    dsimp only at w1
    split at w1
    · rename_i es hk
      obtain ⟨⟨xs, κ2⟩, e2, w2⟩ := w1.ex
      obtain ⟨_, kvs, hq, mp⟩ := c1.ok j _ a hk ha
      obtain ⟨G2, s2, c2, en⟩ := hdats_ok c1 mp e2
      have hk2 := hdats_keepM e2 hk
      refine .inr ⟨a, kvs, rfl, hq, fun o => ?_⟩
      obtain ⟨s3, c3, i3⟩ := c2.lock (o := o) hk2 ha hq en
      have st := (s1.trans s2).trans s3
      exact k (.ref a) (.h xs) _ _ As1 _ st c3 (p.step st) i3 w2
    · rename_i es hk
      exact .inl (k (.ref a) (.h es) G1 H1 As1 κ1 s1 c1 p1 (c1.ok j _ a hk ha) w1)
    · exact w1.elim
  | _ => exact w1.elim
end

/-! ### walks over its keys, its items, its values -/
section
variable {K : PySem.W.Frag} {G H : Hp} {As : List Addr} {a : Addr} {o : Obj} {kvs : List (Key × V)} {es : List (Key × PyData)}
theorem rp_key (k : Key) : Rp K G (kV k) (keyP k) := by
  cases k with
  | inl i => exact .int i
  | inr z => exact .str z
theorem walk_keysK (ha : G a = some (.frz o (.dK kvs))) (en : EnH K G kvs es) : WalkOk K G As (Itk a o kvs) (es.map fun e => keyP e.1) fun _ => True := by
  intro G' H' As' κ' e p c _
  have hl := Paired.length en
  have h1 : H' a = some (.frz o (.dK kvs)) := c.ext _ _ (e _ _ ha)
  refine ⟨fun i hi => ⟨h1, by rw [List.length_map] at hi; omega⟩, ⟨h1, by rw [List.length_map]; omega⟩, fun i v H'' x y hx => ?_⟩
  obtain ⟨rfl, k, u, hk, rfl⟩ := y
  obtain ⟨z, e1, e2, _⟩ := prd_get en hk
  rw [List.getElem?_map, e1] at hx
  cases hx
  refine ⟨G', Step.refl, c, ?_⟩
  dsimp only
  rw [← show k = z.1 from e2]
  exact rp_key k
theorem walk_itemsK (ha : G a = some (.frz o (.dK kvs))) (en : EnH K G kvs es) : WalkOk K G As (Iti a o kvs) (es.map fun e => .tuple [keyP e.1, e.2]) fun _ => True := by
  intro G' H' As' κ' e p c _
  have hl := Paired.length en
  have h1 : H' a = some (.frz o (.dK kvs)) := c.ext _ _ (e _ _ ha)
  refine ⟨fun i hi => ⟨h1, by rw [List.length_map] at hi; omega⟩, ⟨h1, by rw [List.length_map]; omega⟩, fun i v H'' x y hx => ?_⟩
  obtain ⟨T, k, u, hk, rfl, hT, rfl⟩ := y
  obtain ⟨z, e1, e2, e3⟩ := prd_get (EnH.mono e en) hk
  rw [List.getElem?_map, e1] at hx
  cases hx
  dsimp only
  rw [← show k = z.1 from e2]
  exact pair_new (H' := H') c hT (rp_key k) e3
theorem walk_valsK (ha : G a = some (.frz o (.dK kvs))) (en : EnH K G kvs es) : WalkOk K G As (Itd a o kvs) (es.map fun e => e.2) fun _ => True := by
  intro G' H' As' κ' e p c _
  have hl := Paired.length en
  have h1 : H' a = some (.frz o (.dK kvs)) := c.ext _ _ (e _ _ ha)
  refine ⟨fun i hi => ⟨h1, by rw [List.length_map] at hi; omega⟩, ⟨h1, by rw [List.length_map]; omega⟩, fun i v H'' x y hx => ?_⟩
  obtain ⟨rfl, k, hk⟩ := y
  obtain ⟨z, e1, e2, e3⟩ := prd_get (EnH.mono e en) hk
  rw [List.getElem?_map, e1] at hx
  cases hx
  exact ⟨G', Step.refl, c, e3⟩
end
def wWalkH (f : List (Key × PyData) → List PyData) (we : DTE) : DTI := fun ρ κ P => wFrz we ρ κ fun r κ1 => match r with
  | .h es => P (f es) (fun _ => True) κ1
  | _ => False
def keysH (es : List (Key × PyData)) : List PyData := es.map fun e => keyP e.1
def itemsH (es : List (Key × PyData)) : List PyData := es.map fun e => .tuple [keyP e.1, e.2]
def valsH (es : List (Key × PyData)) : List PyData := es.map fun e => e.2
section
variable {X : Cx} {e tg : Expr} {we : DTE} {pos apos cpos : Pos}
theorem di_keysK (he : DE X e we) : DI X tg e (wWalkH keysH we) := by
  obtain ⟨t, pt, he⟩ := de_frz he
  refine ⟨_, pi_keys pt, fun G H As σ ρ κ P R c p w k => ?_⟩
  refine he G H As σ ρ κ _ _ c p w fun v r G1 H1 As1 κ1 s1 c1 p1 i1 w1 => ?_
  cases r with
  | h es =>
    obtain ⟨a, o, kvs, rfl, h1, h2⟩ := i1
    exact ⟨a, o, rfl, .inl ⟨kvs, c1.ext _ _ h1, k _ _ _ G1 H1 As1 κ1 s1 c1 p1 (walk_keysK h1 h2) trivial w1⟩⟩
  | _ => exact w1.elim
theorem di_keysM (he : DE X e we) (hbase : attributeBase e "keys" X.env (eval e X.env) = eval e X.env := by rfl) (hline : (apos.endLine == cpos.line) = true := by rfl) : DI X tg (.Call (.Attribute e "keys" apos) [] [] cpos) (wWalkH keysH we) := by
  obtain ⟨t, pt, he⟩ := de_frz he
  refine ⟨_, pi_keysM pt hbase hline, fun G H As σ ρ κ P R c p w k => ?_⟩
  refine he G H As σ ρ κ _ _ c p w fun v r G1 H1 As1 κ1 s1 c1 p1 i1 w1 => ?_
  cases r with
  | h es =>
    obtain ⟨a, o, kvs, rfl, h1, h2⟩ := i1
    exact ⟨a, o, kvs, rfl, c1.ext _ _ h1, k _ _ _ G1 H1 As1 κ1 s1 c1 p1 (walk_keysK h1 h2) trivial w1⟩
  | _ => exact w1.elim
theorem di_valsM (he : DE X e we) (hbase : attributeBase e "values" X.env (eval e X.env) = eval e X.env := by rfl) (hline : (apos.endLine == cpos.line) = true := by rfl) : DI X tg (.Call (.Attribute e "values" apos) [] [] cpos) (wWalkH valsH we) := by
  obtain ⟨t, pt, he⟩ := de_frz he
  refine ⟨_, pi_values pt hbase hline, fun G H As σ ρ κ P R c p w k => ?_⟩
  refine he G H As σ ρ κ _ _ c p w fun v r G1 H1 As1 κ1 s1 c1 p1 i1 w1 => ?_
  cases r with
  | h es =>
    obtain ⟨a, o, kvs, rfl, h1, h2⟩ := i1
    exact ⟨a, o, kvs, rfl, c1.ext _ _ h1, k _ _ _ G1 H1 As1 κ1 s1 c1 p1 (walk_valsK h1 h2) trivial w1⟩
  | _ => exact w1.elim
theorem di_itemsM {elts : List Expr} {kk : Nat} {tpos : Pos} (he : DE X e we) (hbase : attributeBase e "items" X.env (eval e X.env) = eval e X.env := by rfl) (hline : (apos.endLine == cpos.line) = true := by rfl) : DI X (.Tuple elts kk tpos) (.Call (.Attribute e "items" apos) [] [] cpos) (wWalkH itemsH we) := by
  obtain ⟨t, pt, he⟩ := de_frz he
  refine ⟨_, pi_items pt hbase hline, fun G H As σ ρ κ P R c p w k => ?_⟩
  refine he G H As σ ρ κ _ _ c p w fun v r G1 H1 As1 κ1 s1 c1 p1 i1 w1 => ?_
  cases r with
  | h es =>
    obtain ⟨a, o, kvs, rfl, h1, h2⟩ := i1
    exact ⟨a, o, kvs, rfl, c1.ext _ _ h1, k _ _ _ G1 H1 As1 κ1 s1 c1 p1 (walk_itemsK h1 h2) trivial w1⟩
  | _ => exact w1.elim
end

/-! ### {k: v for ..} -/
def keyR : R → Option Key
  | .d x => keyD x
  | _ => none
def dcL (ok : Kap → Prop) (m : Bool) (g : DTG) (t : DTT) (wk wv : DTE) (ρw : Rho) (P : R → Kap → Prop) : List PyData → List (Key × R) → Kap → Prop
  | [], acc, κ => P (.c κ.length) (κ ++ [.m acc])
  | x :: xs, acc, κ => g (.d x) ρw κ fun ρ1 κ1 => t ρ1 κ1 fun b κ2 => if b = true then wk ρ1 κ2 fun rk κ3 => Opt (keyR rk) fun q => wv ρ1 κ3 fun rv κ4 => acc.length < sizeLine ∧ ok (sto m rv κ4).2 ∧ dcL ok m g t wk wv ρw P xs (putM acc q (sto m rv κ4).1) (sto m rv κ4).2 else ok κ2 ∧ dcL ok m g t wk wv ρw P xs acc κ2
def wDc (m : Bool) (wi : DTI) (g : DTG) (t : DTT) (wk wv : DTE) (vs : List Nat) : DTE := fun ρ κ P => wi ρ κ fun xs ok κ1 => dcL ok m g t wk wv (wipeR ρ vs) P xs [] κ1
section
variable {X : Cx} {kx vx tg iter : Expr} {ifs : List Expr} {scope : Scope} {own : List (Str × Nat)} {pos : Pos} {wi : DTI} {g : DTG} {wt : DTT} {wk wv : DTE} {js : List Nat}
theorem dc_reads (m : Bool) {ti : TI} {gg : TG} {tt : TT} {tk tv : TE} {vs : List Nat} (hj : ∀ j, j ∈ js → j ∈ vs)
    (hi : ∀ (G H : Hp) (As : List Addr) (σ : L2.St) (ρ : Rho) (κ : Kap) (P : List PyData → (Kap → Prop) → Kap → Prop) (R : L2.It → Hp → Prop), Cells X.K G H As κ → Places X.K G As σ ρ → wi ρ κ P → (∀ J xs ok G' H' As' κ', Step G H As G' H' As' → Cells X.K G' H' As' κ' → Places X.K G' As' σ ρ → WalkOk X.K G' As' J xs ok → ok κ' → P xs ok κ' → R J H') → ti σ H R)
    (hg : ∀ (G H : Hp) (As : List Addr) (σ : L2.St) (ρ : Rho) (κ : Kap) (v : V) (r : R) (P : Rho → Kap → Prop) (Q : L2.St → Hp → Prop), Cells X.K G H As κ → Places X.K G As σ ρ → It X.K G As v r → g r ρ κ P → (∀ σ' ρ' G' H' As' κ', Wr js σ σ' → Step G H As G' H' As' → Cells X.K G' H' As' κ' → Places X.K G' As' σ' ρ' → P ρ' κ' → Q σ' H') → gg v σ H Q)
    (ht : ∀ (G H : Hp) (As : List Addr) (σ : L2.St) (ρ : Rho) (κ : Kap) (P : Bool → Kap → Prop) (Q : Bool → Hp → Prop), Cells X.K G H As κ → Places X.K G As σ ρ → wt ρ κ P → (∀ b G' H' As' κ', Step G H As G' H' As' → Cells X.K G' H' As' κ' → Places X.K G' As' σ ρ → P b κ' → Q b H') → tt σ H Q)
    (hk : ∀ (G H : Hp) (As : List Addr) (σ : L2.St) (ρ : Rho) (κ : Kap) (P : R → Kap → Prop) (Q : VK), Cells X.K G H As κ → Places X.K G As σ ρ → wk ρ κ P → (∀ v r G' H' As' κ', Step G H As G' H' As' → Cells X.K G' H' As' κ' → Places X.K G' As' σ ρ → Rv X.K H G' H' As' v r → P r κ' → Q v H') → tk σ H Q)
    (hv : ∀ (G H : Hp) (As : List Addr) (σ : L2.St) (ρ : Rho) (κ : Kap) (P : R → Kap → Prop) (Q : VK), Cells X.K G H As κ → Places X.K G As σ ρ → wv ρ κ P → (∀ v r G' H' As' κ', Step G H As G' H' As' → Cells X.K G' H' As' κ' → Places X.K G' As' σ ρ → Rv X.K H G' H' As' v r → P r κ' → Q v H') → tv σ H Q)
    (G H : Hp) (As : List Addr) (σ : L2.St) (ρ : Rho) (κ : Kap) (P : R → Kap → Prop) (Q : VK) (c : Cells X.K G H As κ) (p : Places X.K G As σ ρ) (w : wDc m wi g wt wk wv vs ρ κ P)
    (k : ∀ v r G' H' As' κ', Step G H As G' H' As' → Cells X.K G' H' As' κ' → Places X.K G' As' σ ρ → Rv X.K H G' H' As' v r → P r κ' → Q v H') : tDc ti gg tt tk tv vs σ H Q := by
  refine hi G H As σ ρ κ _ _ c p w fun J xs ok G1 H1 As1 κ1 s1 c1 p1 wlk o1 w1 => fun D hD => ?_
  have gD1 : G1 D = none := c1.ext.free hD
  have nD1 : D ∉ As1 := c1.notin hD
  let W : Nat → Hp → Prop := fun i H' => ∃ G' As' κ' acc kvs, Step G1 H1 As1 G' H' As' ∧ Cells X.K G' H' As' κ' ∧ G' D = none ∧ D ∉ As' ∧ H' D = some (.dK kvs) ∧ Mp X.K G' As' kvs acc ∧ ok κ' ∧ dcL ok m g wt wk wv (wipeR ρ vs) P (xs.drop i) acc κ'
  refine ⟨fun i n H' => i + n = xs.length ∧ W i H', ⟨xs.length, by omega, G1, As1, κ1, [], [], Step.fresh hD, c1.fresh hD, gD1, nD1, upd_same, .nil, o1, w1⟩, fun i n H' hW => ?_⟩
  obtain ⟨em, G', As', κ', acc, kvs, s', c', g', n', h', mp, o', f⟩ := hW
  obtain ⟨wgo, wst, wyl⟩ := wlk G' H' As' κ' s'.ex s'.pre c' o'
  cases n with
  | zero =>
    have ei : i = xs.length := by omega
    subst ei
    rw [List.drop_length] at f
    have st := s1.trans s'
    have st2 : Step G H As G' H' (As' ++ [D]) := by
      obtain ⟨bs, e⟩ := st.pre
      refine ⟨st.ex, ⟨bs ++ [D], by rw [e, List.append_assoc]⟩, fun a ha => ?_, st.fr, st.dom, st.gn⟩
      rcases List.mem_append.mp ha with z | z
      · exact st.new a z
      · rw [List.mem_singleton] at z
        subst z; exact .inr (s1.dom _ hD)
    refine .inl ⟨wst, k (.ref D) (.c κ'.length) G' H' (As' ++ [D]) _ st2 (c'.moreC (c2 := .m acc) n' h' ⟨g', kvs, h', mp.mono (Ex.refl _) ⟨[D], rfl⟩⟩) (p.step st2) ⟨D, ?_, rfl⟩ f⟩
    rw [← c'.len, List.getElem?_append_right (Nat.le_refl _), Nat.sub_self]
    rfl
  | succ n =>
    have hi' : i < xs.length := by omega
    rw [List.drop_eq_getElem_cons hi'] at f
    refine .inr ⟨wgo i hi', W (i + 1), fun H2 q => ⟨n, by omega, by omega, q⟩, fun v H2 hy => ?_⟩
    obtain ⟨G2, s2, c2, r2⟩ := wyl i v H2 _ hy (List.getElem?_eq_getElem hi')
    obtain ⟨g2, n2, h2⟩ := s2.keepD g' n' h'
    refine hg G2 H2 As' (wipe σ vs) (wipeR ρ vs) κ' v (.d xs[i]) _ _ c2 ((p.step ((s1.trans s').trans s2)).wipe vs) r2 f fun σ3 ρ3 G3 H3 As3 κ3 a3 s3 c3 p3 w3 => ⟨?_, ?_⟩
    · have hw : wipe (wipe σ vs) vs = wipe σ vs := by
        refine List.ext_getElem? fun j => ?_
        by_cases hj : j ∈ vs
        · rw [wipe_in hj, wipe_in hj, wipe_length]
        · rw [wipe_out hj]
      rw [← hw]
      exact a3.wipe hj
    · obtain ⟨g3, n3, h3⟩ := s3.keepD g2 n2 h2
      refine ht G3 H3 As3 σ3 ρ3 κ3 _ _ c3 p3 w3 fun z G4 H4 As4 κ4 s4 c4 p4 w4 => ?_
      obtain ⟨g4, n4, h4⟩ := s4.keepD g3 n3 h3
      have st4 : Step G1 H1 As1 G4 H4 As4 := ((s'.trans s2).trans s3).trans s4
      have s04 : Step G' H' As' G4 H4 As4 := (s2.trans s3).trans s4
      cases z with
      | false =>
        rw [if_neg (by decide)] at w4 ⊢
        exact ⟨G4, As4, κ4, acc, kvs, st4, c4, g4, n4, h4, mp.mono s04.ex s04.pre, w4.1, w4.2⟩
      | true =>
        rw [if_pos rfl] at w4 ⊢
        refine hk G4 H4 As4 σ3 ρ3 κ4 _ _ c4 p4 w4 fun v5 r5 G5 H5 As5 κ5 s5 c5 p5 i5 w5 => ?_
        obtain ⟨g5, n5, h5⟩ := s5.keepD g4 n4 h4
        obtain ⟨q, eq, w5⟩ := w5.ex
        refine hv G5 H5 As5 σ3 ρ3 κ5 _ _ c5 p5 w5 fun v6 r6 G6 H6 As6 κ6 s6 c6 p6 i6 w6 => ?_
        obtain ⟨G7, As7, s7, c7, i7, _, _⟩ := sto_ok m s6 c6 i6
        obtain ⟨g7, n7, h7⟩ := s7.keepD g5 n5 h5
        obtain ⟨hl, ho, w7⟩ := w6
        have s07 := (s04.trans s5).trans s7
        have mp7 := mp.mono s07.ex s07.pre
        have ek : v5 = kV q := by
          cases r5 with
          | d x => exact key_rel eq i5
          | _ => cases eq
        refine ⟨kvs, q, ek, h7, by rw [mp7.len]; exact hl, ?_⟩
        obtain ⟨s8, c8⟩ := (s'.trans s07).growD (u := .dK (putK kvs q v6)) c7 hD g7 n7
        exact ⟨G7, As7, _, _, _, s8, c8, g7, n7, upd_same, mp7.put i7, ho, w7⟩
theorem de_dc (m : Bool) (hc : X.calm = true) (hN : X.N.Nodup) (hi : DI X tg iter wi) (ok : BlkOk X.N X.env.scope scope own) (hg : ∀ i : BI, DG (i.cx X scope) tg js g) (ht : ∀ i : BI, DTs (i.cx X scope) ifs wt) (hk : ∀ i : BI, DE (i.cx X scope) kx wk) (he : ∀ i : BI, DE (i.cx X scope) vx wv)
    (hj : ∀ j, j ∈ js → j ∈ own.map (·.2) := by decide) (hs : ∀ x, foldedSetIterable iter X.env x = pure x := by intro _; rfl) : DE X (.DictComp kx vx [⟨tg, iter, ifs, 0⟩] scope pos) (wDc m wi g wt wk wv (own.map (·.2))) := by
  obtain ⟨ti, pi, hi⟩ := hi
  obtain ⟨gg, pg, hg⟩ := uni_G hg
  obtain ⟨tt, pt, ht⟩ := uni_T ht
  obtain ⟨tk, pk, hk⟩ := uni_E hk
  obtain ⟨te, pe, he⟩ := uni_E he
  exact ⟨_, pe_dc hc hN pi ok (fun s H C cl fp => pg ⟨s, H, C, cl, fp⟩) (fun s H C cl fp => pt ⟨s, H, C, cl, fp⟩) (fun s H C cl fp => pk ⟨s, H, C, cl, fp⟩) (fun s H C cl fp => pe ⟨s, H, C, cl, fp⟩) hs, dc_reads m hj hi hg ht hk he⟩
end
end DL
/-! DLx: min, max of a list of things that can be compared; list.count of ints. -/
namespace DL
open PySem PySem.Spec PyProof.Rows L2

/-! ### min, max of a list -/
theorem prd_getR {α β : Type} {S : α → β → Prop} : ∀ {xs : List α} {ys : List β} {i : Nat} {y : β}, Paired S xs ys → ys[i]? = some y → ∃ x, xs[i]? = some x ∧ S x y
  | _, _, _, _, .nil, e => by simp at e
  | _, _, 0, _, .cons r _, e => by simp at e; subst e; exact ⟨_, rfl, r⟩
  | _, _, i + 1, y, .cons _ t, e => by
    obtain ⟨x, h1, h2⟩ := prd_getR (i := i) (y := y) t (by simpa using e)
    exact ⟨x, by simpa using h1, h2⟩
section
variable {prog : Program} {w : World} {A : Around} {E : Value → Shared → Prop} {s : Shared}
theorem min_at {l : Addr} {us : Array Value} {x : PyData} {xs : List PyData} {as : List Addr} {Q : Value → Shared → Prop} (z0 : A.handled = none) (z1 : s.heap.IsList l us) (z2 : ReadsAll s.heap us.toList (x :: xs) as) (z3 : PySem.W.AlikeAll (x :: xs)) (z4 : A.units + 1 + PyData.depthAll (x :: xs) < cLine)
    (z : ∀ (i : Nat) v h' tk, us[i]? = some v → (x :: xs).getD i .none = PySem.W.minD x xs → i < (x :: xs).length → (∀ b o, s.heap.get? b = some o → h'.get? b = some o) → Q v { s with heap := h', toks := tk }) :
    wpAny (model prog w) A (call (.builtin "min") [.ref l]) Q E s := by
  have zn : us.size = xs.length + 1 := PySem.W.readsAll_len z2
  refine PySem.call_min_walkH (PySem.W.iter_listW (A := A.in1) z0 z1 fun s2 e W st zf zw zk => ?_)
  refine ⟨_, _, _, _, _, _, _, s.heap, _, rfl, W, st, zf, by omega, zw, zk, PySem.W.cmpIn_lt (A := A.in1) z2 z3 (by show A.units + 1 + _ < _; exact z4), fun v s' zP m => ?_⟩
  obtain ⟨h', tk, rfl, zk'⟩ := PySem.W.moved_old e rfl m
  obtain ⟨bs, r, q1, q2, q3⟩ := PySem.W.readsAll_atA z2 _ v zP
  have e1 : us.size - 1 = xs.length := by omega
  have e2 := (PySem.W.argBest_fold PySem.W.dataLt PyData.none x xs xs.length (Nat.le_refl _)).2
  rw [List.take_length] at e2
  rw [e1] at zP q1
  exact z _ v h' tk zP (by unfold PySem.W.minD; exact e2) q1 zk'
theorem max_at {l : Addr} {us : Array Value} {x : PyData} {xs : List PyData} {as : List Addr} {Q : Value → Shared → Prop} (z0 : A.handled = none) (z1 : s.heap.IsList l us) (z2 : ReadsAll s.heap us.toList (x :: xs) as) (z3 : PySem.W.AlikeAll (x :: xs)) (z4 : A.units + 1 + PyData.depthAll (x :: xs) < cLine)
    (z : ∀ (i : Nat) v h' tk, us[i]? = some v → (x :: xs).getD i .none = PySem.W.maxD x xs → i < (x :: xs).length → (∀ b o, s.heap.get? b = some o → h'.get? b = some o) → Q v { s with heap := h', toks := tk }) :
    wpAny (model prog w) A (call (.builtin "max") [.ref l]) Q E s := by
  have zn : us.size = xs.length + 1 := PySem.W.readsAll_len z2
  refine PySem.call_max_walkH (PySem.W.iter_listW (A := A.in1) z0 z1 fun s2 e W st zf zw zk => ?_)
  refine ⟨_, _, _, _, _, _, _, s.heap, _, rfl, W, st, zf, by omega, zw, zk, PySem.W.cmpIn_gt (A := A.in1) z2 z3 (by show A.units + 1 + _ < _; exact z4), fun v s' zP m => ?_⟩
  obtain ⟨h', tk, rfl, zk'⟩ := PySem.W.moved_old e rfl m
  obtain ⟨bs, r, q1, q2, q3⟩ := PySem.W.readsAll_atA z2 _ v zP
  have e1 : us.size - 1 = xs.length := by omega
  have e2 := (PySem.W.argBest_fold (fun a b => PySem.W.dataLt b a) PyData.none x xs xs.length (Nat.le_refl _)).2
  rw [List.take_length] at e2
  rw [e1] at zP q1
  exact z _ v h' tk zP (by unfold PySem.W.maxD; exact e2) q1 zk'
end
def BestOk (xs : List PyData) : Prop := PySem.W.AlikeAll xs ∧ PyData.depthAll xs ≤ 64
def rBestD (K : PySem.W.Frag) (f : PyData → List PyData → PyData) : List V → Hp → VK → Prop := fun vs H Q => ∃ (a : Addr) (ws : List V) (x : PyData) (xs : List PyData), vs = [V.ref a] ∧ SqL K H a ws ∧ DpAll K H ws (x :: xs) ∧ BestOk (x :: xs) ∧
  ∀ (i : Nat) (v : V), ws[i]? = some v → (x :: xs).getD i .none = f x xs → i < (x :: xs).length → Q v H
section
variable {X : Cx}
theorem cr_minD (hc : X.calm = true) (hu : X.A.units + 80 < cLine) : CallR X (.builtin "min") (rBestD X.K PySem.W.minD) := by
  intro pins s σ H vs us Q I r h
  obtain ⟨a, ws, x, xs, rfl, hs, hd, hb, q⟩ := h
  obtain ⟨its, rv, hL, hz⟩ := I.list hs
  rw [Vals.ref1 r]
  obtain ⟨as, ra⟩ := Dp.readsAll I _ _ _ hd rv
  refine min_at (I.ok.hd hc) hL.isList (by simpa using ra) hb.1 (by have := hb.2; omega) fun i v h' tk hv e1 e2 hk => ?_
  obtain ⟨y, e3, e4⟩ := prd_getR rv (by simpa using hv)
  exact ⟨y, H, I.kept hk, e4, q i y e3 e1 e2⟩
theorem cr_maxDt (hc : X.calm = true) (hu : X.A.units + 80 < cLine) : CallR X (.builtin "max") (rBestD X.K PySem.W.maxD) := by
  intro pins s σ H vs us Q I r h
  obtain ⟨a, ws, x, xs, rfl, hs, hd, hb, q⟩ := h
  obtain ⟨its, rv, hL, hz⟩ := I.list hs
  rw [Vals.ref1 r]
  obtain ⟨as, ra⟩ := Dp.readsAll I _ _ _ hd rv
  refine max_at (I.ok.hd hc) hL.isList (by simpa using ra) hb.1 (by have := hb.2; omega) fun i v h' tk hv e1 e2 hk => ?_
  obtain ⟨y, e3, e4⟩ := prd_getR rv (by simpa using hv)
  exact ⟨y, H, I.kept hk, e4, q i y e3 e1 e2⟩
end
open Classical in
noncomputable def bestC (f : PyData → List PyData → PyData) : List PyData → Option Out
  | [.list (x :: xs)] => if BestOk (x :: xs) then some (.v (f x xs)) else none
  | _ => none
theorem bestC_ok {K : PySem.W.Frag} {f : PyData → List PyData → PyData} : CallD K (rBestD K f) (bestC f) := by
  intro G H vs xs o Q ext h0 e k
  unfold bestC at e
  split at e
  · split at e
    · rename_i x xs hs
      cases e
      obtain ⟨v, rfl, h⟩ := one_of h0
      obtain ⟨a, ws, rfl, h1, h2⟩ := h
      refine ⟨a, ws, x, xs, rfl, sql_of h1, RpA.dp _ _ (RpA.mono ext _ _ h2), hs, fun i v hv e1 e2 => ?_⟩
      obtain ⟨d, e3, e4⟩ := h2.getV hv
      have e5 : d = f x xs := by
        rw [← e1, List.getD_eq_getElem?_getD, e3]
        rfl
      rw [← e5] at k
      exact k v e4
    · cases e
  · cases e

/-! ### xs.count(n) -/
def intsOf : List PyData → Option (List Int)
  | [] => some []
  | .int b :: xs => (intsOf xs).map (b :: ·)
  | _ => none
theorem intsOf_map : ∀ bs : List Int, intsOf (bs.map .int) = some bs
  | [] => rfl
  | b :: bs => by
    show (intsOf (bs.map .int)).map (b :: ·) = _
    rw [intsOf_map bs]; rfl
theorem intsOf_ok {K : PySem.W.Frag} {G : Hp} : ∀ {ds : List PyData} {vs : List V} {bs : List Int}, intsOf ds = some bs → RpA K G vs ds → vs = bs.map V.int
  | [], _, _, e, h => by
    cases e; cases h; rfl
  | d :: ds, _, bs, e, h => by
    cases h with
    | cons h1 h2 =>
      cases d with
      | int b =>
        unfold intsOf at e
        cases q : intsOf ds with
        | none => rw [q] at e; cases e
        | some cs =>
          rw [q] at e
          cases e
          cases h1
          rw [intsOf_ok q h2]
          rfl
      | _ => cases e
def cntD : PyData → List PyData → Option Out
  | .list xs, [.int n] => (intsOf xs).map fun ns => .v (.int (ns.count n : Nat))
  | _, _ => none
theorem cnt_ok {K : PySem.W.Frag} : MtD K (rCntI K) cntD := by
  intro G H v vs x xs o Q ext hx h0 e k
  unfold cntD at e
  split at e
  · rename_i xs n
    cases q : intsOf xs with
    | none => rw [q] at e; cases e
    | some ns =>
      rw [q] at e
      cases e
      obtain ⟨a, ws, rfl, h1, h2⟩ := hx
      rw [intsOf_ok q h2] at h1
      obtain ⟨u, rfl, hu⟩ := one_of h0
      rw [vw_int hu]
      exact ⟨a, ns, n, rfl, rfl, sql_of h1, k _ (.int _)⟩
  · cases e
end DL
/-! DLr: d[k]; d[k] += e. -/
namespace DL
open PySem PySem.Spec PyProof.Rows L2
section
variable {X : Cx} {o i e : Expr} {wo wi we : DTE} {pos tpos : Pos}
/-- d[k], it is there -/
def wGetD (wo wi : DTE) : DTE := fun ρ κ P => wo ρ κ fun ro κ1 => match ro with
  | .c d => wi ρ κ1 fun ri κ2 => match ri, κ2[d]? with
    | .d x, some (.m es) => Opt (keyD x) fun q => Opt (lookM es q) fun r => P r κ2
    | _, _ => False
  | _ => False
theorem de_getD (hu : X.A.units + 65 < cLine) (ho : DE X o wo) (hi : DE X i wi) (hs : NoSl i := by intro _ _; rfl) : DE X (.Subscript o i pos) (wGetD wo wi) := by
  obtain ⟨to, po, ho⟩ := ho
  obtain ⟨ti, pi, hi⟩ := hi
  refine ⟨_, pe_dget (by omega) po pi hs, fun G H As σ ρ κ P Q c p w k => ?_⟩
  refine ho G H As σ ρ κ _ _ c p w fun v1 r1 G1 H1 As1 κ1 s1 c1 p1 i1 w1 => ?_
  cases r1 with
  | c kk =>
    obtain ⟨l, hl, rfl⟩ := i1
    refine hi G1 H1 As1 σ ρ κ1 _ _ c1 p1 w1 fun v2 r2 G2 H2 As2 κ2 s2 c2 p2 i2 w2 => ?_
    split at w2
    · rename_i o1 o2 y es hk
      obtain ⟨q, eq, w3⟩ := w2.ex
      obtain ⟨rr, lk, w4⟩ := w3.ex
      have i2 : Rp X.K G2 v2 y := i2
      have ek := key_rel eq i2
      obtain ⟨bs, eb⟩ := s2.pre
      have hl2 : As2[kk]? = some l := by rw [eb, List.getElem?_append_left (List.getElem?_eq_some_iff.mp hl).1]; exact hl
      obtain ⟨g0, kvs, hq, mp⟩ := c2.ok kk _ l hk hl2
      obtain ⟨v', z1, z2⟩ := mp.look lk
      refine ⟨l, v', rfl, by rw [ek, ← z1]; exact DGet.k hq, ?_⟩
      have sa := s1.trans s2
      cases rr with
      | f ys => exact z2.elim
      | d y => exact k v' (.d y) G2 H2 As2 κ2 sa c2 p2 z2 w4
      | c j => exact k v' (.c j) G2 H2 As2 κ2 sa c2 p2 z2 w4
      | s y => exact k v' (.s y) G2 H2 As2 κ2 sa c2 p2 z2 w4
      | b y => exact k v' (.b y) G2 H2 As2 κ2 sa c2 p2 z2 w4
      | h y => exact k v' (.h y) G2 H2 As2 κ2 sa c2 p2 z2 w4
      | o y => exact k v' (.o y) G2 H2 As2 κ2 sa c2 p2 z2 w4
    · exact w2.elim
  | _ => exact w1.elim
/-- d[k] += e, ints -/
def wAugD (wo wi we : DTE) : DTS := fun E ρ κ => wo ρ κ fun ro κ1 => match ro with
  | .c d => wi ρ κ1 fun ri κ2 => match ri, κ2[d]? with
    | .d x, some (.m es) => Opt (keyD x) fun q => match lookM es q with
      | some (.d (.int a)) => we ρ κ2 fun rb κ3 => match rb, κ3[d]? with
        | .d (.int b), some (.m es') => es'.length < sizeLine ∧ E.nx ρ (κ3.set d (Cell.m (putM es' q (R.d (.int (a + b))))))
        | _, _ => False
      | _ => False
    | _, _ => False
  | _ => False
theorem ds_augD (hu : X.A.units + 65 < cLine) (ho : DE X o wo) (hi : DE X i wi) (he : DE X e we)
    (ha : ∀ ov iv new, augStore i ov iv new = (do holding [new, ov, iv] (setItem ov iv new); release [new, ov, iv] []; pure .next) := by intros; rfl) : DS X (.AugAssign (.Subscript o i tpos) .Add e pos) (wAugD wo wi we) := by
  obtain ⟨to, po, ho⟩ := ho
  obtain ⟨ti, pi, hi⟩ := hi
  obtain ⟨te, pe, he⟩ := he
  refine ⟨_, ps_daug (by omega) po pi pe in_add ha, fun G H As σ ρ κ E D c p w r => ?_⟩
  refine ho G H As σ ρ κ _ _ c p w fun v1 r1 G1 H1 As1 κ1 s1 c1 p1 i1 w1 => ?_
  cases r1 with
  | c kk =>
    obtain ⟨l, hl, rfl⟩ := i1
    refine hi G1 H1 As1 σ ρ κ1 _ _ c1 p1 w1 fun v2 r2 G2 H2 As2 κ2 s2 c2 p2 i2 w2 => ?_
    split at w2
    · rename_i o1 o2 y es hk
      obtain ⟨q, eq, w3⟩ := w2.ex
      split at w3
      · rename_i o3 a lk
        have i2 : Rp X.K G2 v2 y := i2
        have ek := key_rel eq i2
        obtain ⟨bs, eb⟩ := s2.pre
        have hl2 : As2[kk]? = some l := by rw [eb, List.getElem?_append_left (List.getElem?_eq_some_iff.mp hl).1]; exact hl
        obtain ⟨g0, kvs, hq, mp⟩ := c2.ok kk _ l hk hl2
        obtain ⟨v', z1, z2⟩ := mp.look lk
        have z2 : Rp X.K G2 v' (.int a) := z2
        cases z2
        refine ⟨l, .int a, rfl, by rw [ek, ← z1]; exact DGet.k hq, ?_⟩
        refine he G2 H2 As2 σ ρ κ2 _ _ c2 p2 w3 fun v3 r3 G3 H3 As3 κ3 s3 c3 p3 i3 w4 => ?_
        split at w4
        · rename_i o4 o5 b es' hk3
          obtain ⟨hlt, w5⟩ := w4
          have i3 : Rp X.K G3 v3 (.int b) := i3
          cases i3
          obtain ⟨bs3, eb3⟩ := s3.pre
          have hl3 : As3[kk]? = some l := by rw [eb3, List.getElem?_append_left (List.getElem?_eq_some_iff.mp hl2).1]; exact hl2
          obtain ⟨g3, kvs3, hq3, mp3⟩ := c3.ok kk _ l hk3 hl3
          have iv : It X.K G3 As3 (.int (a + b)) (.d (.int (a + b))) := Rp.int _
          have sw : Step G3 H3 As3 G3 (upd H3 l (.dK (putK kvs3 q (.int (a + b))))) As3 := Step.write (List.mem_of_getElem? hl3) hq3
          have sa := ((s1.trans s2).trans s3).trans sw
          refine ⟨a, b, rfl, rfl, _, by rw [ek]; exact DPut.k hq3 (by rw [mp3.len]; exact hlt), ?_⟩
          exact r.nx σ ρ G3 _ As3 _ sa (c3.put (c2 := .m (putM es' q (.d (.int (a + b))))) hk3 hl3 g3 ⟨g3, _, upd_same, mp3.put iv⟩) (p.step sa) w5
        · exact w4.elim
      · exact w3.elim
    · exact w2.elim
  | _ => exact w1.elim
end
end DL
/-! SHm: lines_of. -/
namespace SH
open PySem PySem.Spec PyProof.Rows L2 DL
/-- a rope's line: the places of its hooks -/
abbrev Lines := List (Str × List Nat)
def addL : Lines → Str → Nat → Lines
  | [], r, i => [(r, [i])]
  | e :: es, r, i => if e.1 = r then (e.1, e.2 ++ [i]) :: es else e :: addL es r i
def linesG : Lines → Nat → Row → Lines
  | ls, _, [] => ls
  | ls, i, h :: hs => linesG (addL (addL ls h.1 i) h.2.1 i) (i + 1) hs
def linesE (ls : Lines) : List (Key × PyData) := ls.map fun e => (Sum.inr e.1, .list (natsD e.2))
def Ph_lines_of (rs : List R) (P : R → Prop) : Prop := ∃ row : Row, rs = [.d (.list (row.map hookD))] ∧ row.length ≤ 1000000 ∧ P (.h (linesE (linesG [] 0 row)))
def wb_lines_of : DTS := (wDrop (wAppend (wSetd (wVar 1) (wVar 4)) (wVar 2)))
/-- lines_of -/
def w_lines_of : DTS := (wSeq (wSet false 1 wDict0)
  (wSeq (wFor (wEnum (wCons (wVar 0) wNil)) (wTupG 2 (wgCons (wName 2) (wgCons (wName 3) wgNil))) (wFor (wSq (wSl (wVar 3) wNoP (wP (wC (.int 2))))) (wName 4) wb_lines_of))
  (wRet (wFrz (wVar 1)))))
def stOf : Nat → Lines → List (Key × R)
  | _, [] => []
  | i, e :: es => (.inr e.1, .c i) :: stOf (i + 1) es
def cellsOf (ls : Lines) : Kap := ls.map fun e => Cell.l (natsD e.2)
def kapOf (ls : Lines) : Kap := Cell.m (stOf 1 ls) :: cellsOf ls
def idxL : Lines → Str → Option Nat
  | [], _ => none
  | e :: es, r => if e.1 = r then some 0 else (idxL es r).map (· + 1)
theorem look_st (r : Str) : ∀ (ls : Lines) (k : Nat), lookM (stOf k ls) (.inr r) = (idxL ls r).map fun j => R.c (k + j)
  | [], k => rfl
  | e :: es, k => by
    have ih := look_st r es (k + 1)
    unfold stOf idxL
    by_cases q : e.1 = r
    · rw [if_pos q]
      unfold lookM
      rw [List.find?_cons_of_pos (by simp [q])]
      rfl
    · rw [if_neg q]
      have e0 : lookM ((Sum.inr e.1, R.c k) :: stOf (k + 1) es) (.inr r) = lookM (stOf (k + 1) es) (.inr r) := by
        unfold lookM
        rw [List.find?_cons_of_neg (by simpa using q)]
      rw [e0, ih]
      cases idxL es r with
      | none => rfl
      | some j =>
        show some (R.c (k + 1 + j)) = some (R.c (k + (j + 1)))
        rw [show k + 1 + j = k + (j + 1) by omega]
theorem st_snoc (r : Str) (l : List Nat) : ∀ (ls : Lines) (k : Nat), stOf k (ls ++ [(r, l)]) = stOf k ls ++ [(.inr r, .c (k + ls.length))]
  | [], k => rfl
  | e :: es, k => by
    show (Sum.inr e.1, R.c k) :: stOf (k + 1) (es ++ [(r, l)]) = _
    rw [st_snoc r l es (k + 1)]
    show _ :: (_ ++ [(_, R.c (k + 1 + es.length))]) = _ :: (_ ++ [(_, R.c (k + (es.length + 1)))])
    rw [show k + 1 + es.length = k + (es.length + 1) by omega]
theorem addL_new {r : Str} {i : Nat} : ∀ {ls : Lines}, idxL ls r = none → addL ls r i = ls ++ [(r, [i])]
  | [], _ => rfl
  | e :: es, h => by
    unfold idxL at h
    unfold addL
    by_cases q : e.1 = r
    · rw [if_pos q] at h; cases h
    · rw [if_neg q] at h ⊢
      rw [addL_new (ls := es) (by cases q2 : idxL es r with
        | none => rfl
        | some j => rw [q2] at h; cases h)]
      rfl
theorem addL_old {r : Str} {i : Nat} : ∀ {ls : Lines} {j : Nat}, idxL ls r = some j → ∃ l, ls[j]? = some (r, l) ∧ addL ls r i = ls.set j (r, l ++ [i])
  | [], _, h => by cases h
  | e :: es, j, h => by
    unfold idxL at h
    unfold addL
    by_cases q : e.1 = r
    · rw [if_pos q] at h ⊢
      cases h
      exact ⟨e.2, by rw [← q]; rfl, by rw [q]; rfl⟩
    · rw [if_neg q] at h ⊢
      cases q2 : idxL es r with
      | none => rw [q2] at h; cases h
      | some m =>
        rw [q2] at h
        cases h
        obtain ⟨l, h1, h2⟩ := addL_old (i := i) q2
        exact ⟨l, by simpa using h1, by rw [h2]; rfl⟩
theorem st_set (r : Str) (l : List Nat) : ∀ (ls : Lines) (k j : Nat) (l0 : List Nat), ls[j]? = some (r, l0) → stOf k (ls.set j (r, l)) = stOf k ls
  | [], _, _, _, h => by simp at h
  | e :: es, k, 0, l0, h => by
    have : e = (r, l0) := by simpa using h
    subst this
    rfl
  | e :: es, k, j + 1, l0, h => by
    show _ :: stOf (k + 1) (es.set j (r, l)) = _ :: stOf (k + 1) es
    rw [st_set r l es (k + 1) j l0 (by simpa using h)]
structure LOk (n : Nat) (ls : Lines) : Prop where
  ln : ls.length ≤ n
  each : ∀ e ∈ ls, e.2.length ≤ n
theorem LOk.add {n : Nat} {ls : Lines} {r : Str} {i : Nat} (h : LOk n ls) : LOk (n + 1) (addL ls r i) := by
  cases q : idxL ls r with
  | none =>
    rw [addL_new q]
    refine ⟨by rw [List.length_append, List.length_singleton]; have := h.ln; omega, fun e he => ?_⟩
    rcases List.mem_append.mp he with he | he
    · have := h.each e he; omega
    · rw [List.mem_singleton.mp he]; show 1 ≤ n + 1; omega
  | some j =>
    obtain ⟨l, h1, h2⟩ := addL_old (i := i) q
    rw [h2]
    refine ⟨by rw [List.length_set]; have := h.ln; omega, fun e he => ?_⟩
    rcases List.mem_or_eq_of_mem_set he with he | he
    · have := h.each e he; omega
    · rw [he]
      show (l ++ [i]).length ≤ n + 1
      have : l.length ≤ n := h.each _ (List.mem_of_getElem? h1)
      rw [List.length_append, List.length_singleton]
      omega
theorem cells_len (ls : Lines) : (cellsOf ls).length = ls.length := List.length_map ..
theorem lines_add {n : Nat} {ls : Lines} {r : Str} {i : Nat} {p0 p3 : Option R} {E : DEnds} (h : LOk n ls) (hn : n < 4000000) (k : E.nx [p0, some (.c 0), some (.d (.int (i : Int))), p3, some (.d (.str r))] (kapOf (addL ls r i))) :
    wb_lines_of E [p0, some (.c 0), some (.d (.int (i : Int))), p3, some (.d (.str r))] (kapOf ls) := by
  unfold wb_lines_of
  rw [s_drop]
  unfold wAppend wSetd wVar
  simp only [List.getElem?_cons_succ, List.getElem?_cons_zero]
  have h0 : (kapOf ls)[0]? = some (.m (stOf 1 ls)) := rfl
  refine ⟨⟨_, h0⟩, ?_⟩
  simp only [h0, keyD, Opt_some]
  have sl : ∀ (ls : Lines) (k : Nat), (stOf k ls).length = ls.length := fun ls => by
    induction ls with
    | nil => intro k; rfl
    | cons e es ih => intro k; exact congrArg (· + 1) (ih (k + 1))
  refine ⟨by rw [sl, sizeLine_eq]; have := h.ln; omega, ?_⟩
  rw [look_st]
  cases q : idxL ls r with
  | none =>
    simp only [Option.map_none]
    have e1 : (kapOf ls ++ [Cell.l []]).set 0 (Cell.m (stOf 1 ls ++ [(Sum.inr r, R.c (kapOf ls).length)])) = Cell.m (stOf 1 (ls ++ [(r, [])])) :: (cellsOf ls ++ [Cell.l []]) := by
      rw [st_snoc]
      have : (kapOf ls).length = 1 + ls.length := by
        show (cellsOf ls).length + 1 = _
        rw [cells_len]; omega
      rw [this]
      rfl
    have e2 : (kapOf ls).length = (cellsOf ls).length + 1 := rfl
    rw [e1, e2]
    have g : (Cell.m (stOf 1 (ls ++ [(r, [])])) :: (cellsOf ls ++ [Cell.l []]))[(cellsOf ls).length + 1]? = some (Cell.l []) := by
      rw [List.getElem?_cons_succ, List.getElem?_append_right (Nat.le_refl _), Nat.sub_self]
      rfl
    refine ⟨⟨_, g⟩, ?_⟩
    simp only [st_d, dat_d, Opt_some, g]
    refine ⟨by rw [sizeLine_eq]; decide, ?_⟩
    rw [addL_new q] at k
    have e3 : (Cell.m (stOf 1 (ls ++ [(r, [])])) :: (cellsOf ls ++ [Cell.l []])).set ((cellsOf ls).length + 1) (Cell.l ([] ++ [.int (i : Int)])) = kapOf (ls ++ [(r, [i])]) := by
      rw [List.set_cons_succ, List.set_append_right _ _ (Nat.le_refl _), Nat.sub_self]
      unfold kapOf cellsOf
      rw [List.map_append, st_snoc, st_snoc]
      rfl
    rw [e3]
    exact k
  | some j =>
    simp only [Option.map_some]
    obtain ⟨l, h1, h2⟩ := addL_old (i := i) q
    have g : (kapOf ls)[1 + j]? = some (Cell.l (natsD l)) := by
      rw [Nat.add_comm 1 j]
      show (cellsOf ls)[j]? = _
      unfold cellsOf
      rw [List.getElem?_map, h1]
      rfl
    refine ⟨⟨_, g⟩, ?_⟩
    simp only [st_d, dat_d, Opt_some, g]
    have hl : l.length ≤ n := h.each _ (List.mem_of_getElem? h1)
    refine ⟨by rw [natsD_len, sizeLine_eq]; omega, ?_⟩
    rw [h2] at k
    have e3 : (kapOf ls).set (1 + j) (Cell.l (natsD l ++ [.int (i : Int)])) = kapOf (ls.set j (r, l ++ [i])) := by
      rw [Nat.add_comm 1 j]
      unfold kapOf
      rw [List.set_cons_succ, st_set _ _ _ _ _ _ h1]
      unfold cellsOf
      rw [natsD_snoc, List.map_set]
    rw [e3]
    exact k
theorem lines_loop {ok : Kap → Prop} {E : DEnds} {p0 : Option R} (hok : ∀ κ, ok κ) : ∀ (hs : Row) (i n : Nat) (ls : Lines) (p2 p3 p4 : Option R), LOk n ls → n + 2 * hs.length < 4000000 →
    (∀ n p2 p3 p4, LOk n (linesG ls i hs) → E.nx [p0, some (.c 0), p2, p3, p4] (kapOf (linesG ls i hs))) →
    forL ok (wTupG 2 (wgCons (wName 2) (wgCons (wName 3) wgNil))) (wFor (wSq (wSl (wVar 3) wNoP (wP (wC (.int 2))))) (wName 4) wb_lines_of) E (enumD i (hs.map hookD)) [p0, some (.c 0), p2, p3, p4] (kapOf ls)
  | [], i, n, ls, p2, p3, p4, h, _, k => k n p2 p3 p4 h
  | h :: hs, i, n, ls, p2, p3, p4, hl, hn, k => by
    show forL _ _ _ _ (.tuple [.int i, hookD h] :: enumD (i + 1) (hs.map hookD)) _ _
    rw [forL_cons, s_tupG]
    refine ⟨rfl, ?_⟩
    rw [List.length_cons] at hn
    have e2 : cut [PyData.str h.1, PyData.str h.2.1, PyData.int h.2.2] none (some 2) = [.str h.1, .str h.2.1] := rfl
    simp [hookD, e2]
    refine lines_add hl (by omega) ?_
    refine lines_add hl.add (by omega) ?_
    refine ⟨hok _, ?_⟩
    exact lines_loop hok hs (i + 1) (n + 2) _ _ _ _ hl.add.add (by omega) k
theorem hdats_lines : ∀ (ls : Lines) (k : Nat) (κ : Kap), (∀ j e, ls[j]? = some e → κ[k + j]? = some (.l (natsD e.2)) ∨ κ[k + j]? = some (.z (.list (natsD e.2)))) → ∃ κ', hdats κ (stOf k ls) = some (linesE ls, κ')
  | [], k, κ, _ => ⟨κ, rfl⟩
  | e :: es, k, κ, h => by
    have h0 := h 0 e rfl
    rw [Nat.add_zero] at h0
    unfold stOf hdats
    rcases h0 with h0 | h0
    · have d0 : dat κ (.c k) = some (.list (natsD e.2), κ.set k (.z (.list (natsD e.2)))) := by
        unfold dat
        simp only [h0]
      rw [d0]
      obtain ⟨κ', h2⟩ := hdats_lines es (k + 1) (κ.set k (.z (.list (natsD e.2)))) fun j e' he => by
        have := h (j + 1) e' he
        rw [show k + (j + 1) = k + 1 + j by omega] at this
        rw [List.getElem?_set_ne (by omega)]
        exact this
      exact ⟨κ', by simp only [h2]; rfl⟩
    · have d0 : dat κ (.c k) = some (.list (natsD e.2), κ) := by
        unfold dat
        simp only [h0]
      rw [d0]
      obtain ⟨κ', h2⟩ := hdats_lines es (k + 1) κ fun j e' he => by
        have := h (j + 1) e' he
        rwa [show k + (j + 1) = k + 1 + j by omega] at this
      exact ⟨κ', by simp only [h2]; rfl⟩
theorem r_lines_of (rs : List R) (Pd : R → Prop) (h : Ph_lines_of rs Pd) (hl : rs.length = 1) : w_lines_of { nx := fun _ _ => Pd (.d .none), rt := fun r κ => Opt (outR κ 0 r) Pd } (rs.map some ++ List.replicate 4 none) [] := by
  obtain ⟨row, rfl, hlen, k⟩ := h
  clear hl
  unfold w_lines_of
  rw [s_seq]
  simp [wDict0]
  refine lines_loop (ok := fun _ => True) (fun _ => trivial) row 0 0 [] none none none ⟨Nat.le_refl _, fun e he => by cases he⟩ (by omega) fun n p2 p3 p4 hO => ?_
  unfold wFrz
  have h0 : (kapOf (linesG [] 0 row))[0]? = some (.m (stOf 1 (linesG [] 0 row))) := rfl
  simp only [s_ret, s_var, List.getElem?_cons_succ, List.getElem?_cons_zero, h0]
  obtain ⟨κ', e⟩ := hdats_lines (linesG [] 0 row) 1 (kapOf (linesG [] 0 row)) fun j e he => .inl (by
    rw [Nat.add_comm 1 j]
    show (cellsOf _)[j]? = _
    unfold cellsOf
    rw [List.getElem?_map, he]
    rfl)
  rw [e]
  exact k
end SH
/-! SHn: lines, heads and the first order of a row, in plain Lean. -/
namespace SH
open PySem PySem.Spec PyProof.Rows L2 DL
/-- the hooks of a row with their places -/
def enR : Nat → Row → KR
  | _, [] => []
  | i, h :: hs => (i, h) :: enR (i + 1) hs
def lineOf : Lines → Str → List Nat
  | [], _ => []
  | e :: es, r => if e.1 = r then e.2 else lineOf es r
theorem lineOf_add (r : Str) (i : Nat) (r' : Str) : ∀ ls : Lines, lineOf (addL ls r i) r' = if r' = r then lineOf ls r ++ [i] else lineOf ls r'
  | [] => by
    unfold addL lineOf
    by_cases q : r' = r
    · rw [if_pos q, if_pos q.symm]; rfl
    · rw [if_neg q, if_neg (fun z => q z.symm)]; rfl
  | e :: es => by
    unfold addL
    by_cases q : e.1 = r
    · rw [if_pos q]
      unfold lineOf
      by_cases q2 : r' = r
      · rw [if_pos q2, if_pos (by rw [q2]; exact q), if_pos q]
      · rw [if_neg q2, if_neg (by rw [q]; exact fun z => q2 z.symm), if_neg (by rw [q]; exact fun z => q2 z.symm)]
    · rw [if_neg q]
      unfold lineOf
      by_cases q2 : r' = r
      · rw [if_pos q2, if_neg (by rw [q2]; exact q), lineOf_add r i r' es, if_pos q2, if_neg q]
      · rw [if_neg q2]
        by_cases q3 : e.1 = r'
        · rw [if_pos q3, if_pos q3]
        · rw [if_neg q3, if_neg q3, lineOf_add r i r' es, if_neg q2]
def keysL (ls : Lines) : List Str := ls.map (·.1)
theorem keys_add (r : Str) (i : Nat) : ∀ ls : Lines, (∀ r', r' ∈ keysL (addL ls r i) ↔ r' = r ∨ r' ∈ keysL ls) ∧ ((keysL ls).Nodup → (keysL (addL ls r i)).Nodup)
  | [] => ⟨fun r' => by simp [keysL, addL], fun _ => by simp [keysL, addL]⟩
  | e :: es => by
    obtain ⟨h1, h2⟩ := keys_add r i es
    unfold addL
    by_cases q : e.1 = r
    · rw [if_pos q]
      refine ⟨fun r' => ?_, fun h => h⟩
      show r' ∈ e.1 :: keysL es ↔ r' = r ∨ r' ∈ e.1 :: keysL es
      rw [List.mem_cons, q]
      constructor
      · intro h; exact .inr h
      · intro h
        rcases h with h | h
        · exact .inl h
        · exact h
    · rw [if_neg q]
      refine ⟨fun r' => ?_, fun h => ?_⟩
      · show r' ∈ e.1 :: keysL (addL es r i) ↔ r' = r ∨ r' ∈ e.1 :: keysL es
        rw [List.mem_cons, List.mem_cons, h1 r']
        constructor
        · rintro (h | h | h)
          · exact .inr (.inl h)
          · exact .inl h
          · exact .inr (.inr h)
        · rintro (h | h | h)
          · exact .inr (.inl h)
          · exact .inl h
          · exact .inr (.inr h)
      · have h : (e.1 :: keysL es).Nodup := h
        show (e.1 :: keysL (addL es r i)).Nodup
        rw [List.nodup_cons] at h ⊢
        refine ⟨fun z => ?_, h2 h.2⟩
        rcases (h1 e.1).mp z with z | z
        · exact q z
        · exact h.1 z
def RowNe (r : Row) : Prop := ∀ h ∈ r, h.1 ≠ h.2.1
theorem lineOf_lines : ∀ (hs : Row) (ls : Lines) (i : Nat) (r : Str), RowNe hs → lineOf (linesG ls i hs) r = lineOf ls r ++ posOf r (enR i hs)
  | [], ls, i, r, _ => by
    show lineOf ls r = lineOf ls r ++ []
    rw [List.append_nil]
  | h :: hs, ls, i, r, hn => by
    have ne : h.1 ≠ h.2.1 := hn h (List.mem_cons_self ..)
    have ih := lineOf_lines hs (addL (addL ls h.1 i) h.2.1 i) (i + 1) r fun x hx => hn x (List.mem_cons_of_mem _ hx)
    show lineOf (linesG (addL (addL ls h.1 i) h.2.1 i) (i + 1) hs) r = lineOf ls r ++ posOf r ((i, h) :: enR (i + 1) hs)
    rw [ih, lineOf_add, lineOf_add, lineOf_add]
    have pc : posOf r ((i, h) :: enR (i + 1) hs) = if touches r h = true then i :: posOf r (enR (i + 1) hs) else posOf r (enR (i + 1) hs) := by
      unfold posOf
      by_cases q : touches r h = true
      · rw [if_pos q, List.filter_cons_of_pos (by exact q)]; rfl
      · rw [if_neg q, List.filter_cons_of_neg (by exact q)]
    rw [pc]
    by_cases q2 : r = h.2.1
    · have t : touches r h = true := by unfold touches; simp [q2]
      rw [if_pos q2, if_neg (fun z => ne z.symm), if_pos t, q2]
      simp
    · rw [if_neg q2]
      by_cases q1 : r = h.1
      · have t : touches r h = true := by unfold touches; simp [q1]
        rw [if_pos q1, if_pos t, q1]
        simp
      · have t : ¬ touches r h = true := by
          unfold touches
          rw [Bool.or_eq_true]
          rintro (z | z)
          · exact q1 (of_decide_eq_true z).symm
          · exact q2 (of_decide_eq_true z).symm
        rw [if_neg q1, if_neg t]
theorem keys_lines : ∀ (hs : Row) (ls : Lines) (i : Nat), (∀ r, r ∈ keysL (linesG ls i hs) ↔ r ∈ keysL ls ∨ ∃ h ∈ hs, touches r h = true) ∧ ((keysL ls).Nodup → (keysL (linesG ls i hs)).Nodup)
  | [], ls, i => ⟨fun r => by simp [linesG], fun h => h⟩
  | h :: hs, ls, i => by
    obtain ⟨a1, a2⟩ := keys_lines hs (addL (addL ls h.1 i) h.2.1 i) (i + 1)
    refine ⟨fun r => ?_, fun q => a2 ((keys_add _ _ _).2 ((keys_add _ _ _).2 q))⟩
    show r ∈ keysL (linesG (addL (addL ls h.1 i) h.2.1 i) (i + 1) hs) ↔ _
    rw [a1 r, (keys_add _ _ _).1 r, (keys_add _ _ _).1 r]
    have t : touches r h = true ↔ r = h.1 ∨ r = h.2.1 := by
      unfold touches
      rw [Bool.or_eq_true, decide_eq_true_iff, decide_eq_true_iff]
      exact ⟨fun z => z.imp Eq.symm Eq.symm, fun z => z.imp Eq.symm Eq.symm⟩
    constructor
    · rintro ((z | z | z) | ⟨x, hx, z⟩)
      · exact .inr ⟨h, List.mem_cons_self .., t.mpr (.inr z)⟩
      · exact .inr ⟨h, List.mem_cons_self .., t.mpr (.inl z)⟩
      · exact .inl z
      · exact .inr ⟨x, List.mem_cons_of_mem _ hx, z⟩
    · rintro (z | ⟨x, hx, z⟩)
      · exact .inl (.inr (.inr z))
      · rcases List.mem_cons.mp hx with rfl | hx
        · rcases t.mp z with z | z
          · exact .inl (.inr (.inl z))
          · exact .inl (.inl z)
        · exact .inr ⟨x, hx, z⟩
theorem lineOf_mem : ∀ {ls : Lines} {e : Str × List Nat}, (keysL ls).Nodup → e ∈ ls → e.2 = lineOf ls e.1
  | x :: es, e, nd, h => by
    have nd : (x.1 :: keysL es).Nodup := nd
    rw [List.nodup_cons] at nd
    unfold lineOf
    rcases List.mem_cons.mp h with rfl | h
    · rw [if_pos rfl]
    · rw [if_neg, ← lineOf_mem nd.2 h]
      intro z
      exact nd.1 (by rw [z]; exact List.mem_map.mpr ⟨e, h, rfl⟩)
/-! ### hooks are ordered -/
def ltN (a b : Str) : Prop := a.cps.toList < b.cps.toList
instance (a b : Str) : Decidable (ltN a b) := inferInstanceAs (Decidable (a.cps.toList < b.cps.toList))
def ltH (g h : Hook) : Prop := ltN g.1 h.1 ∨ (¬ ltN h.1 g.1 ∧ (ltN g.2.1 h.2.1 ∨ (¬ ltN h.2.1 g.2.1 ∧ g.2.2 < h.2.2)))
instance (g h : Hook) : Decidable (ltH g h) := by unfold ltH; infer_instance
theorem lex_i (i j : Int) (r t : List (Int ⊕ List Nat)) : PyProof.Rows.lexLt PyProof.Rows.itemOrd (Sum.inl i :: r) (Sum.inl j :: t) = (decide (i < j) || (!decide (j < i) && PyProof.Rows.lexLt PyProof.Rows.itemOrd r t)) := rfl
theorem lex_s (i j : List Nat) (r t : List (Int ⊕ List Nat)) : PyProof.Rows.lexLt PyProof.Rows.itemOrd (Sum.inr i :: r) (Sum.inr j :: t) = (decide (i < j) || (!decide (j < i) && PyProof.Rows.lexLt PyProof.Rows.itemOrd r t)) := rfl
theorem dataLt_hook (g h : Hook) : PySem.W.dataLt (hookD g) (hookD h) = decide (ltH g h) := by
  obtain ⟨a, b, c⟩ := g
  obtain ⟨a', b', c'⟩ := h
  unfold PySem.W.dataLt hookD
  simp only [PySem.W.keyToks, PySem.W.keyToksAll, List.nil_append, List.cons_append]
  rw [lex_i, lex_s, lex_i, lex_s, lex_i, lex_i, lex_i]
  unfold ltH ltN
  by_cases h1 : a.cps.toList < a'.cps.toList <;> by_cases h2 : a'.cps.toList < a.cps.toList <;> by_cases h3 : b.cps.toList < b'.cps.toList <;> by_cases h4 : b'.cps.toList < b.cps.toList <;> by_cases h5 : c < c' <;> simp [h1, h2, h3, h4, h5, PyProof.Rows.lexLt]
def minH (x : Hook) (xs : Row) : Hook := xs.foldl (fun a y => if ltH y a then y else a) x
theorem minD_hook (xs : Row) : ∀ x : Hook, PySem.W.minD (hookD x) (xs.map hookD) = hookD (minH x xs) := by
  induction xs with
  | nil => intro x; rfl
  | cons y ys ih =>
    intro x
    show List.foldl _ _ (hookD y :: ys.map hookD) = hookD (List.foldl _ _ (y :: ys))
    rw [List.foldl_cons, List.foldl_cons, dataLt_hook]
    by_cases q : ltH y x
    · rw [if_pos q, decide_eq_true q, if_pos rfl]; exact ih y
    · rw [if_neg q, decide_eq_false q, if_neg (by decide)]; exact ih x

/-! ### the least hook -/
abbrev tkH (g : Hook) : List (Int ⊕ List Nat) := PySem.W.keyToks (hookD g)
theorem ltH_iff (g h : Hook) : ltH g h ↔ PyProof.Rows.lexLt PyProof.Rows.itemOrd (tkH g) (tkH h) = true := by
  have e := dataLt_hook g h
  unfold PySem.W.dataLt at e
  rw [show PyProof.Rows.lexLt PyProof.Rows.itemOrd (tkH g) (tkH h) = decide (ltH g h) from e]
  exact decide_eq_true_iff.symm
theorem ltH_false (g h : Hook) : ¬ ltH g h ↔ PyProof.Rows.lexLt PyProof.Rows.itemOrd (tkH g) (tkH h) = false := by
  rw [ltH_iff, Bool.not_eq_true]
theorem tkH_inj {g h : Hook} (e : tkH g = tkH h) : g = h := by
  obtain ⟨a, b, c⟩ := g
  obtain ⟨a', b', c'⟩ := h
  unfold tkH hookD at e
  simp only [PySem.W.keyToks, PySem.W.keyToksAll, List.nil_append, List.cons_append] at e
  injection e with _ e
  injection e with e1 e
  injection e with _ e
  injection e with e2 e
  injection e with _ e
  injection e with e3 e
  have q1 := PySem.W.str_of_cps (Sum.inr.inj e1)
  have q2 := PySem.W.str_of_cps (Sum.inr.inj e2)
  have q3 : c = c' := Sum.inl.inj e3
  rw [q1, q2, q3]
theorem ltH_irrefl (g : Hook) : ¬ ltH g g := (ltH_false g g).mpr (PyProof.Rows.lex_irrefl _)
theorem ltH_neg {a c : Hook} (b : Hook) (h : ltH a c) : ltH a b ∨ ltH b c := by
  rw [ltH_iff, ltH_iff]
  exact PyProof.Rows.lex_negTrans _ (tkH b) _ ((ltH_iff _ _).mp h)
theorem ltH_total {a b : Hook} (h : ¬ ltH a b) (h' : ¬ ltH b a) : a = b := tkH_inj (PyProof.Rows.lex_total _ _ ((ltH_false _ _).mp h) ((ltH_false _ _).mp h'))
theorem ltH_asymm {a b : Hook} (h : ltH a b) : ¬ ltH b a := fun h' => ltH_irrefl a ((ltH_iff _ _).mpr (PyProof.Rows.lex_trans _ _ _ ((ltH_iff _ _).mp h) ((ltH_iff _ _).mp h')))
theorem leH_trans {a b c : Hook} (h : ¬ ltH b a) (h' : ¬ ltH c b) : ¬ ltH c a := fun w => by
  rcases ltH_neg b w with q | q
  · exact h' q
  · exact h q
theorem minH_spec : ∀ (xs : Row) (x : Hook), minH x xs ∈ x :: xs ∧ ∀ y ∈ x :: xs, ¬ ltH y (minH x xs)
  | [], x => ⟨List.mem_cons_self .., fun y hy => by rw [List.mem_singleton.mp hy]; exact ltH_irrefl x⟩
  | z :: zs, x => by
    have e : minH x (z :: zs) = minH (if ltH z x then z else x) zs := rfl
    obtain ⟨h1, h2⟩ := minH_spec zs (if ltH z x then z else x)
    rw [e]
    by_cases q : ltH z x
    · rw [if_pos q] at h1 h2 ⊢
      refine ⟨List.mem_cons_of_mem _ h1, fun y hy => ?_⟩
      rcases List.mem_cons.mp hy with rfl | hy
      · exact leH_trans (h2 z (List.mem_cons_self ..)) (ltH_asymm q)
      · exact h2 y hy
    · rw [if_neg q] at h1 h2 ⊢
      refine ⟨?_, fun y hy => ?_⟩
      · rcases List.mem_cons.mp h1 with h1 | h1
        · rw [h1]; exact List.mem_cons_self ..
        · exact List.mem_cons_of_mem _ (List.mem_cons_of_mem _ h1)
      · rcases List.mem_cons.mp hy with rfl | hy
        · exact h2 y (List.mem_cons_self ..)
        rcases List.mem_cons.mp hy with rfl | hy
        · exact leH_trans (h2 x (List.mem_cons_self ..)) q
        · exact h2 y (List.mem_cons_of_mem _ hy)
theorem minH_same {x y : Hook} {xs ys : Row} (h : ∀ z, z ∈ x :: xs ↔ z ∈ y :: ys) : minH x xs = minH y ys := by
  obtain ⟨a1, a2⟩ := minH_spec xs x
  obtain ⟨b1, b2⟩ := minH_spec ys y
  exact ltH_total (b2 _ ((h _).mp a1)) (a2 _ ((h _).mpr b1))
/-! ### the first order -/
/-- what stands first on both its ropes -/
def avail (K : KR) : KR := K.filter fun p => decide ((posOf p.2.1 K).head? = some p.1) && decide ((posOf p.2.2.1 K).head? = some p.1)
def firstG : Nat → KR → Row
  | 0, _ => []
  | n + 1, K => match (avail K).map (·.2) with
    | [] => []
    | x :: xs => minH x xs :: firstG n (K.filter fun e => decide (some e.1 ≠ (posOf (minH x xs).1 K).head?))
def firstF (row : Row) : Row := firstG row.length (enR 0 row)
theorem enR_len : ∀ (i : Nat) (row : Row), (enR i row).length = row.length
  | _, [] => rfl
  | i, _ :: hs => congrArg (· + 1) (enR_len (i + 1) hs)
theorem enR_get : ∀ (row : Row) (i p : Nat) (h : Hook), (p, h) ∈ enR i row → i ≤ p ∧ row[p - i]? = some h
  | [], _, _, _, q => by cases q
  | g :: gs, i, p, h, q => by
    rcases List.mem_cons.mp q with q | q
    · cases q
      exact ⟨Nat.le_refl _, by rw [Nat.sub_self]; rfl⟩
    · obtain ⟨h1, h2⟩ := enR_get gs (i + 1) p h q
      refine ⟨by omega, ?_⟩
      rw [show p - i = (p - (i + 1)) + 1 by omega]
      exact h2
theorem enR_nd : ∀ (row : Row) (i : Nat), ((enR i row).map (·.1)).Nodup
  | [], _ => List.nodup_nil
  | g :: gs, i => by
    show (i :: (enR (i + 1) gs).map (·.1)).Nodup
    rw [List.nodup_cons]
    refine ⟨fun h => ?_, enR_nd gs (i + 1)⟩
    obtain ⟨e, he, q⟩ := List.mem_map.mp h
    obtain ⟨h1, _⟩ := enR_get gs (i + 1) e.1 e.2 he
    omega
/-- what is left of the row's hooks -/
structure KSt (row : Row) (K : KR) : Prop where
  sub : K.Sublist (enR 0 row)
  suf : ∀ r, ∃ t, posOf r (enR 0 row) = t ++ posOf r K
theorem KSt.nd {row : Row} {K : KR} (h : KSt row K) : (K.map (·.1)).Nodup := (enR_nd row 0).sublist (h.sub.map _)
theorem KSt.get {row : Row} {K : KR} {p : Nat} {h : Hook} (s : KSt row K) (m : (p, h) ∈ K) : row[p]? = some h := by
  have := (enR_get row 0 p h (s.sub.subset m)).2
  rwa [Nat.sub_zero] at this
theorem avail_mem {K : KR} {p : Nat} {h : Hook} : (p, h) ∈ avail K ↔ (p, h) ∈ K ∧ (posOf h.1 K).head? = some p ∧ (posOf h.2.1 K).head? = some p := by
  unfold avail
  rw [List.mem_filter, Bool.and_eq_true, decide_eq_true_iff, decide_eq_true_iff]
theorem touches_iff {r : Str} {h : Hook} : touches r h = true ↔ h.1 = r ∨ h.2.1 = r := by
  unfold touches
  rw [Bool.or_eq_true, decide_eq_true_iff, decide_eq_true_iff]
theorem posOf_cons (r : Str) (p : Nat) (h : Hook) (K : KR) : posOf r ((p, h) :: K) = if touches r h = true then p :: posOf r K else posOf r K := by
  unfold posOf
  by_cases q : touches r h = true
  · rw [if_pos q, List.filter_cons_of_pos (by exact q)]; rfl
  · rw [if_neg q, List.filter_cons_of_neg (by exact q)]
theorem avail_ne {p : Nat} {h : Hook} {K : KR} : (p, h) ∈ avail ((p, h) :: K) := by
  rw [avail_mem, posOf_cons, posOf_cons, if_pos (touches_iff.mpr (.inl rfl)), if_pos (touches_iff.mpr (.inr rfl))]
  exact ⟨List.mem_cons_self .., rfl, rfl⟩
theorem filter_head {l : List Nat} {p : Nat} (nd : l.Nodup) (e : l.head? = some p) : l.filter (fun i => decide (i ≠ p)) = l.tail := by
  cases l with
  | nil => cases e
  | cons x xs =>
    cases e
    rw [List.nodup_cons] at nd
    rw [List.filter_cons_of_neg (by simp), List.tail_cons, List.filter_eq_self]
    intro a ha
    exact decide_eq_true fun z => nd.1 (z ▸ ha)
/-- the hook at p is taken -/
theorem KSt.take {row : Row} {K : KR} {p : Nat} {m : Hook} (s : KSt row K) (h : (p, m) ∈ avail K) : KSt row (K.filter fun e => decide (e.1 ≠ p)) ∧
    (∀ r, posOf r (K.filter fun e => decide (e.1 ≠ p)) = if touches r m = true then (posOf r K).tail else posOf r K) ∧ (∀ r, touches r m = true → (posOf r K).head? = some p) ∧ (K.filter fun e => decide (e.1 ≠ p)).length + 1 = K.length := by
  obtain ⟨h1, h2, h3⟩ := avail_mem.mp h
  have hd : ∀ r, touches r m = true → (posOf r K).head? = some p := fun r t => by
    rcases touches_iff.mp t with rfl | rfl
    · exact h2
    · exact h3
  have po : ∀ r, posOf r (K.filter fun e => decide (e.1 ≠ p)) = if touches r m = true then (posOf r K).tail else posOf r K := fun r => by
    rw [posOf_drop]
    by_cases t : touches r m = true
    · rw [if_pos t, filter_head (posOf_nd s.nd) (hd r t)]
    · rw [if_neg t, List.filter_eq_self]
      intro a ha
      refine decide_eq_true fun z => ?_
      subst z
      obtain ⟨g, hg, tg⟩ := posOf_mem ha
      have e1 := s.get hg
      have e2 := s.get h1
      rw [e1] at e2
      cases e2
      exact t tg
  refine ⟨⟨List.filter_sublist.trans s.sub, fun r => ?_⟩, po, hd, ?_⟩
  · obtain ⟨t, et⟩ := s.suf r
    rw [po r]
    by_cases q : touches r m = true
    · rw [if_pos q]
      have hh := hd r q
      cases e : posOf r K with
      | nil => rw [e] at hh; cases hh
      | cons x xs => exact ⟨t ++ [x], by rw [et, e]; simp⟩
    · rw [if_neg q]; exact ⟨t, et⟩
  · have nd := s.nd
    clear po hd h h2 h3 s
    induction K with
    | nil => cases h1
    | cons x xs ih =>
      have nd : (x.1 :: xs.map (·.1)).Nodup := nd
      rw [List.nodup_cons] at nd
      rcases List.mem_cons.mp h1 with rfl | h1
      · rw [List.filter_cons_of_neg (by simp)]
        have : xs.filter (fun e => decide (e.1 ≠ p)) = xs := by
          rw [List.filter_eq_self]
          intro a ha
          exact decide_eq_true fun z => nd.1 (List.mem_map.mpr ⟨a, ha, z⟩)
        rw [this]
        rfl
      · have ne : x.1 ≠ p := fun z => nd.1 (List.mem_map.mpr ⟨(p, m), h1, z.symm⟩)
        rw [List.filter_cons_of_pos (by simpa using ne), List.length_cons, List.length_cons, ih h1 nd.2]
theorem firstG_step {row : Row} {K : KR} {n p : Nat} {m x : Hook} {xs : Row} (s : KSt row K) (h : ∀ z, z ∈ x :: xs ↔ ∃ q, (q, z) ∈ avail K) (hm : m = minH x xs) (hp : (p, m) ∈ avail K) : firstG (n + 1) K = m :: firstG n (K.filter fun e => decide (e.1 ≠ p)) := by
  show (match (avail K).map (·.2) with
    | [] => []
    | x :: xs => minH x xs :: firstG n (K.filter fun e => decide (some e.1 ≠ (posOf (minH x xs).1 K).head?))) = _
  cases e : (avail K).map (·.2) with
  | nil =>
    have : avail K = [] := by simpa using e
    rw [this] at hp; cases hp
  | cons y ys =>
    have em : m = minH y ys := by
      rw [hm]
      refine minH_same fun z => ?_
      rw [h z, ← e, List.mem_map]
      constructor
      · rintro ⟨q, hq⟩; exact ⟨(q, z), hq, rfl⟩
      · rintro ⟨⟨q, z'⟩, hq, rfl⟩; exact ⟨q, hq⟩
    simp only
    rw [← em, (avail_mem.mp hp).2.1]
    have ef : (K.filter fun e => decide (some e.1 ≠ some p)) = K.filter fun e => decide (e.1 ≠ p) := by
      refine List.filter_congr fun a _ => ?_
      by_cases q : a.1 = p <;> simp [q]
    rw [ef]
/-! ### the heads of all lines -/
def gK (row : Row) (K : KR) (r : Str) : Nat := (posOf r (enR 0 row)).length - (posOf r K).length
theorem KSt.drop {row : Row} {K : KR} (s : KSt row K) (r : Str) : (posOf r (enR 0 row)).drop (gK row K r) = posOf r K ∧ gK row K r + (posOf r K).length = (posOf r (enR 0 row)).length := by
  obtain ⟨t, et⟩ := s.suf r
  unfold gK
  rw [et, List.length_append, Nat.add_sub_cancel]
  exact ⟨List.drop_left .., rfl⟩
theorem cnt_two (f : Str → Bool) {a b : Str} (ne : a ≠ b) (hf : ∀ r, f r = true → r = a ∨ r = b) : ∀ ks : List Str, ks.Nodup → ks.countP f = (if a ∈ ks ∧ f a = true then 1 else 0) + (if b ∈ ks ∧ f b = true then 1 else 0)
  | [], _ => by simp
  | k :: ks, nd => by
    rw [List.nodup_cons] at nd
    have ih := cnt_two f ne hf ks nd.2
    rw [List.countP_cons, ih]
    by_cases ka : k = a
    · subst ka
      have n1 : ¬ (k ∈ ks ∧ f k = true) := fun z => nd.1 z.1
      have nb : ¬ b = k := fun z => ne z.symm
      simp [n1, nb, nd.1]
      omega
    · by_cases kb : k = b
      · subst kb
        simp [ne, nd.1]
      · have n1 : ¬ f k = true := fun z => (hf k z).elim ka kb
        have nb : ¬ b = k := fun z => kb z.symm
        have na : ¬ a = k := fun z => ka z.symm
        simp [n1, na, nb]
def headsF (K : KR) (ks : List Str) : List Nat := ks.filterMap fun r => (posOf r K).head?
theorem heads_count {row : Row} {K : KR} {ks : List Str} (s : KSt row K) (hne : RowNe row) (nd : ks.Nodup) (all : ∀ h ∈ row, h.1 ∈ ks ∧ h.2.1 ∈ ks) {p : Nat} (hp : p ∈ headsF K ks) : ∃ h, (p, h) ∈ K ∧ row[p]? = some h ∧ ((headsF K ks).count p = 2 ↔ (p, h) ∈ avail K) := by
  unfold headsF at hp
  obtain ⟨r0, hr0, e0⟩ := List.mem_filterMap.mp hp
  obtain ⟨h, hh, t0⟩ := posOf_mem (List.mem_of_head? e0)
  have hg := s.get hh
  have hin := List.mem_of_getElem? hg
  refine ⟨h, hh, hg, ?_⟩
  have key : ∀ r, (posOf r K).head? = some p → r = h.1 ∨ r = h.2.1 := fun r e => by
    obtain ⟨g, hgm, t⟩ := posOf_mem (List.mem_of_head? e)
    have e2 := s.get hgm
    rw [hg] at e2
    cases e2
    exact (touches_iff.mp t).imp Eq.symm Eq.symm
  have e1 : (headsF K ks).count p = ks.countP fun r => decide ((posOf r K).head? = some p) := by
    unfold headsF
    rw [List.count, List.countP_filterMap]
    refine List.countP_congr fun r _ => ?_
    cases (posOf r K).head? with
    | none => simp
    | some q => simp
  rw [e1, cnt_two _ (hne h hin) (fun r q => key r (of_decide_eq_true q)) ks nd, avail_mem]
  obtain ⟨i1, i2⟩ := all h hin
  by_cases q1 : (posOf h.1 K).head? = some p <;> by_cases q2 : (posOf h.2.1 K).head? = some p <;> simp [q1, q2, i1, i2, hh]
end SH
/-! SHo: first_of. -/
namespace SH
open PySem PySem.Spec PyProof.Rows L2 DL
def Ph_first_of (rs : List R) (P : R → Prop) : Prop := ∃ row : Row, rs = [.d (.list (row.map hookD))] ∧ row.length ≤ 1000000 ∧ RowIn row ∧ P (.f ((firstF row).map hookD))
def wh_first_of : DTS := (wSet false 4 (wLc (wWalkH itemsH (wVar 1)) (wTupG 2 (wgCons (wName 6) (wgCons (wName 7) wgNil))) (wB (wBin (ordD ltI ltS) (wGetD (wVar 2) (wVar 6)) (wCB lenD (wCons (wVar 7) wNil)))) (wBin ixD (wVar 7) (wGetD (wVar 2) (wVar 6))) [6, 7]))
def wm_first_of : DTS := (wSet false 5 (wCB (bestC PySem.W.minD) (wCons (wLc (wSq (wVar 4)) (wName 8) (wB (wBin (eqD false) (wBM "list" cntD (wVar 4) (wCons (wVar 8) wNil)) (wC (.int 2)))) (wBin ixD (wVar 0) (wVar 8)) [8]) wNil)))
def wu_first_of : DTS := (wSeq (wFor (wSq (wSl (wVar 5) wNoP (wP (wC (.int 2))))) (wName 6) (wAugD (wVar 2) (wVar 6) (wC (.int 1))))
  (wDrop (wAppend (wVar 3) (wVar 5))))
def wb_first_of : DTS := (wSeq wh_first_of (wSeq wm_first_of wu_first_of))
def wt_first_of : DTT := (wB (wBin (ordD ltI ltS) (wCB lenD (wCons (wVar 3) wNil)) (wCB lenD (wCons (wVar 0) wNil))))
def wd_first_of : DTE := (wDc false (wWalkH keysH (wVar 1)) (wName 6) wYes (wVar 6) (wC (.int 0)) [6])
/-- first_of -/
def w_first_of : DTS := (wSeq (wSet false 1 (wCall Ph_lines_of (wCons (wVar 0) wNil)))
  (wSeq (wPar 2 3 (wConsM true wd_first_of (wConsM true (wLst wNil) wNil)))
  (wSeq (wWhile wt_first_of wb_first_of)
  (wRet (wVar 3)))))
theorem s_walkH {we : DTE} {ρ : Rho} {κ : Kap} (f : List (Key × PyData) → List PyData) (P : List PyData → (Kap → Prop) → Kap → Prop) : wWalkH f we ρ κ P = wFrz we ρ κ fun r κ1 => match r with
  | .h es => P (f es) (fun _ => True) κ1
  | _ => False := rfl
theorem s_frz {we : DTE} {ρ : Rho} {κ : Kap} {P : R → Kap → Prop} : wFrz we ρ κ P = we ρ κ fun r κ1 => match r with
  | .c k => match κ1[k]? with
    | some (.m es) => Opt (hdats κ1 es) fun q => P (.h q.1) (q.2.set k (.k q.1))
    | some (.k es) => P (.h es) κ1
    | _ => False
  | .h es => P (.h es) κ1
  | _ => False := rfl
def goneE (ks : List Str) (g : Str → Nat) : List (Key × R) := ks.map fun r => (Sum.inr r, R.d (.int (g r : Nat)))
theorem gone_look {ks : List Str} {g : Str → Nat} {r : Str} (h : r ∈ ks) : lookM (goneE ks g) (.inr r) = some (.d (.int (g r : Nat))) := by
  induction ks with
  | nil => cases h
  | cons k ks ih =>
    unfold goneE lookM
    rw [List.map_cons]
    by_cases q : k = r
    · rw [List.find?_cons_of_pos (by simp [q]), q]; rfl
    · rw [List.find?_cons_of_neg (by simpa using q)]
      rcases List.mem_cons.mp h with h | h
      · exact absurd h.symm q
      · exact ih h
theorem gone_put {ks : List Str} {g : Str → Nat} {r : Str} {n : Nat} (h : r ∈ ks) : putM (goneE ks g) (.inr r) (.d (.int (n : Nat))) = goneE ks fun s => if s = r then n else g s := by
  unfold putM
  rw [if_pos ?_]
  · unfold goneE
    rw [List.map_map]
    refine List.map_congr_left fun k _ => ?_
    simp only [Function.comp_apply]
    by_cases q : k = r
    · subst q; simp
    · have : ¬ (Sum.inr k : Key) = Sum.inr r := fun z => q (Sum.inr.inj z)
      rw [if_neg this, if_neg q]
  · rw [List.any_eq_true]
    exact ⟨(Sum.inr r, R.d (.int (g r : Nat))), List.mem_map.mpr ⟨r, h, rfl⟩, by simp⟩
theorem gone_new {ks : List Str} {g : Str → Nat} {r : Str} {n : Nat} (h : r ∉ ks) (hn : g r = n) : putM (goneE ks g) (.inr r) (.d (.int (n : Nat))) = goneE (ks ++ [r]) g := by
  unfold putM
  rw [if_neg ?_]
  · unfold goneE
    rw [List.map_append, ← hn]
    rfl
  · rw [List.any_eq_true]
    rintro ⟨e, he, q⟩
    obtain ⟨k, hk, rfl⟩ := List.mem_map.mp he
    have q := Sum.inr.inj (of_decide_eq_true q)
    exact h (q ▸ hk)
theorem dc_zero {ok : Kap → Prop} {ρw : Rho} {P : R → Kap → Prop} {κ : Kap} (hok : ∀ κ, ok κ) (h6 : 6 < ρw.length) : ∀ (rest pre : List Str), (pre ++ rest).Nodup → (pre ++ rest).length ≤ 4000000 → P (.c κ.length) (κ ++ [.m (goneE (pre ++ rest) fun _ => 0)]) → dcL ok false (wName 6) wYes (wVar 6) (wC (.int 0)) ρw P (rest.map .str) (goneE pre fun _ => 0) κ
  | [], pre, _, _, k => by
    rw [List.append_nil] at k
    exact k
  | r :: rest, pre, nd, hl, k => by
    have hr : r ∉ pre := fun h => (List.nodup_append.mp nd).2.2 r h r (List.mem_cons_self ..) rfl
    rw [List.map_cons]
    unfold dcL
    have e6 : (ρw.set 6 (some (R.d (.str r))))[6]? = some (some (.d (.str r))) := List.getElem?_set_self h6
    simp only [s_name, s_yes, s_var, e6, keyR, keyD, Opt_some, s_c, sto_f, st_d, if_pos]
    refine ⟨?_, hok _, ?_⟩
    · have : (goneE pre fun _ => 0).length = pre.length := List.length_map ..
      rw [this, sizeLine_eq]
      rw [List.length_append, List.length_cons] at hl
      omega
    · have e : putM (goneE pre fun _ => 0) (.inr r) (.d (.int 0)) = goneE (pre ++ [r]) fun _ => 0 := gone_new (g := fun _ => 0) (n := 0) hr rfl
      rw [e]
      refine dc_zero hok h6 rest (pre ++ [r]) (by rw [List.append_assoc]; exact nd) (by rw [List.append_assoc]; exact hl) ?_
      rw [List.append_assoc]
      exact k
/-- the rows' state in a turn -/
abbrev rhoF (row : Row) (ls : Lines) (p4 p5 p6 : Option R) : Rho := [some (.d (.list (row.map hookD))), some (.h (linesE ls)), some (.c 0), some (.c 1), p4, p5, p6, none, none]
abbrev kapF (row : Row) (ls : Lines) (K : KR) (fd : Row) : Kap := [.m (goneE (keysL ls) (gK row K)), .l (fd.map hookD)]
structure LnOk (row : Row) (ls : Lines) : Prop where
  nd : (keysL ls).Nodup
  line : ∀ e ∈ ls, e.2 = posOf e.1 (enR 0 row)
  all : ∀ h ∈ row, h.1 ∈ keysL ls ∧ h.2.1 ∈ keysL ls
  len : ls.length ≤ 2000000
theorem heads_eq {row : Row} {K : KR} (s : KSt row K) : ∀ ls : Lines, (∀ e ∈ ls, e.2 = posOf e.1 (enR 0 row)) → (ls.filter fun e => decide (gK row K e.1 < e.2.length)).map (fun e => PyData.int ((e.2.getD (gK row K e.1) 0 : Nat) : Int)) = natsD (headsF K (keysL ls))
  | [], _ => rfl
  | e :: es, h => by
    have he := h e (List.mem_cons_self ..)
    have ih := heads_eq s es fun x hx => h x (List.mem_cons_of_mem _ hx)
    obtain ⟨d1, d2⟩ := s.drop e.1
    rw [← he] at d1 d2
    have ek : keysL (e :: es) = e.1 :: keysL es := rfl
    rw [ek]
    unfold headsF
    rw [List.filterMap_cons]
    cases q : posOf e.1 K with
    | nil =>
      rw [q] at d2
      rw [List.filter_cons_of_neg (by simp at d2 ⊢; omega)]
      exact ih
    | cons x xs =>
      rw [q] at d1 d2
      simp only [List.length_cons] at d2
      rw [List.filter_cons_of_pos (by simp; omega)]
      have e1 : e.2.getD (gK row K e.1) 0 = x := by
        have := congrArg List.head? d1
        rw [List.head?_drop] at this
        rw [List.getD_eq_getElem?_getD, this]
        rfl
      rw [List.map_cons, e1, ih]
      rfl
theorem heads_turn {row : Row} {ls : Lines} {K : KR} {fd : Row} {p4 p5 p6 : Option R} {E : DEnds} (L : LnOk row ls) (s : KSt row K)
    (k : E.nx (rhoF row ls (some (.d (.list (natsD (headsF K (keysL ls)))))) p5 p6) (kapF row ls K fd)) : wh_first_of E (rhoF row ls p4 p5 p6) (kapF row ls K fd) := by
  unfold wh_first_of rhoF kapF
  simp only [s_set, s_lc, s_walkH, s_frz, s_var, List.getElem?_cons_succ, List.getElem?_cons_zero]
  have e0 : itemsH (linesE ls) = ls.map fun e => .tuple [.str e.1, .list (natsD e.2)] := by
    unfold itemsH linesE
    rw [List.map_map]
    rfl
  rw [e0]
  refine lc_filter (fun e : Str × List Nat => PyData.tuple [.str e.1, .list (natsD e.2)]) (fun e => decide (gK row K e.1 < e.2.length)) (fun e => PyData.int ((e.2.getD (gK row K e.1) 0 : Nat) : Int)) trivial ls [] ?_ (fun e he C hC => ?_) ?_
  · simp only [List.length_nil]; have := L.len; rw [sizeLine_eq]; omega
  · have hk : e.1 ∈ keysL ls := List.mem_map.mpr ⟨e, he, rfl⟩
    have hg : wGetD (wVar 2) (wVar 6) = wGetD (wVar 2) (wVar 6) := rfl
    have get : ∀ (P : R → Kap → Prop) (ρ : Rho), ρ[2]? = some (some (.c 0)) → ρ[6]? = some (some (.d (.str e.1))) → P (.d (.int (gK row K e.1 : Nat))) (kapF row ls K fd) → wGetD (wVar 2) (wVar 6) ρ (kapF row ls K fd) P := fun P ρ h2 h6 hP => by
      unfold wGetD wVar
      have z : (kapF row ls K fd)[0]? = some (.m (goneE (keysL ls) (gK row K))) := rfl
      simp only [h2, h6, z, keyD, Opt_some, gone_look hk]
      exact hP
    simp [s_gcons, s_gnil]
    refine get _ _ rfl rfl ?_
    simp [ltI, natsD_len]
    refine hC _ fun hp D hD => ?_
    simp
    refine get _ _ rfl rfl ?_
    have hp := of_decide_eq_true hp
    have ix : ixD (.list (natsD e.2)) (.int (gK row K e.1 : Nat)) = some (.v (.int ((e.2.getD (gK row K e.1) 0 : Nat) : Int))) := by
      refine ixD_list (atI_nat ?_)
      unfold natsD
      rw [List.getElem?_map, List.getElem?_eq_getElem hp, List.getD_eq_getElem?_getD, List.getElem?_eq_getElem hp]
      rfl
    simp only [st_d, val_d, Opt_some, ix, out_v]
    exact hD
  · rw [heads_eq s ls L.line]
    simp only [List.nil_append, sto_f, st_f]
    exact k

theorem intsOf_nats (l : List Nat) : intsOf (natsD l) = some (l.map fun (i : Nat) => (i : Int)) := by
  unfold natsD
  have := intsOf_map (l.map fun (i : Nat) => (i : Int))
  rw [List.map_map] at this
  exact this
theorem count_cast (l : List Nat) (p : Nat) : (l.map fun (i : Nat) => (i : Int)).count (p : Int) = l.count p := by
  induction l with
  | nil => rfl
  | cons x xs ih =>
    rw [List.map_cons, List.count_cons, List.count_cons, ih]
    by_cases q : x = p
    · simp [q]
    · have : ¬ ((x : Int) = (p : Int)) := by omega
      simp [q, this]
theorem alike_hook (g h : Hook) : PySem.W.alike (hookD g) (hookD h) = true := by
  unfold hookD
  simp [PySem.W.alike, PySem.W.alikeAll]
theorem depth_hook (g : Hook) : (hookD g).depth ≤ 4 := by
  unfold hookD
  simp [PyData.depth, PyData.depthAll]
theorem depth_row : ∀ r : Row, PyData.depthAll (r.map hookD) ≤ 4
  | [] => by simp [PyData.depthAll]
  | h :: r => by
    rw [List.map_cons, PyData.depthAll]
    have := depth_row r
    have := depth_hook h
    omega
theorem best_row (r : Row) : BestOk (r.map hookD) := by
  refine ⟨⟨fun x hx y hy => ?_, fun x hx => ?_⟩, by have := depth_row r; omega⟩
  · obtain ⟨g, _, rfl⟩ := List.mem_map.mp hx
    obtain ⟨h, _, rfl⟩ := List.mem_map.mp hy
    exact alike_hook g h
  · obtain ⟨g, _, rfl⟩ := List.mem_map.mp hx
    exact fun z => nomatch z
/-- the hooks that are first on both their ropes, as the text finds them: each twice -/
def selF (row : Row) (K : KR) (ks : List Str) : Row := ((headsF K ks).filter fun p => decide ((headsF K ks).count p = 2)).map fun p => row.getD p ("", "", 0)
theorem sel_mem {row : Row} {ls : Lines} {K : KR} (L : LnOk row ls) (s : KSt row K) (hne : RowNe row) (z : Hook) : z ∈ selF row K (keysL ls) ↔ ∃ q, (q, z) ∈ avail K := by
  unfold selF
  rw [List.mem_map]
  constructor
  · rintro ⟨p, hp, rfl⟩
    obtain ⟨hp, hc⟩ := List.mem_filter.mp hp
    obtain ⟨h, hh, hg, hiff⟩ := heads_count s hne L.nd L.all hp
    refine ⟨p, ?_⟩
    rw [List.getD_eq_getElem?_getD, hg]
    exact hiff.mp (of_decide_eq_true hc)
  · rintro ⟨p, hp⟩
    obtain ⟨h1, h2, h3⟩ := avail_mem.mp hp
    have hg := s.get h1
    have hk := (L.all z (List.mem_of_getElem? hg)).1
    have hm : p ∈ headsF K (keysL ls) := List.mem_filterMap.mpr ⟨z.1, hk, h2⟩
    obtain ⟨h, hh, hg', hiff⟩ := heads_count s hne L.nd L.all hm
    rw [hg] at hg'
    cases hg'
    refine ⟨p, List.mem_filter.mpr ⟨hm, decide_eq_true (hiff.mpr hp)⟩, ?_⟩
    rw [List.getD_eq_getElem?_getD, hg]
    rfl
theorem hook_turn {row : Row} {ls : Lines} {K : KR} {fd : Row} {p5 p6 : Option R} {E : DEnds} {x : Hook} {xs : Row} (L : LnOk row ls) (s : KSt row K) (hne : RowNe row) (hx : selF row K (keysL ls) = x :: xs)
    (k : E.nx (rhoF row ls (some (.d (.list (natsD (headsF K (keysL ls)))))) (some (.d (hookD (minH x xs)))) p6) (kapF row ls K fd)) : wm_first_of E (rhoF row ls (some (.d (.list (natsD (headsF K (keysL ls)))))) p5 p6) (kapF row ls K fd) := by
  unfold wm_first_of rhoF
  simp only [s_set, s_cb, s_cons, s_lc, s_sq, s_var, List.getElem?_cons_succ, List.getElem?_cons_zero, val_d, st_d, Opt_some]
  have hlen : (headsF K (keysL ls)).length ≤ 2000000 := by
    have h1 := List.length_filterMap_le (fun r => (posOf r K).head?) (keysL ls)
    have h2 := L.len
    have h3 : (keysL ls).length = ls.length := List.length_map ..
    unfold headsF
    omega
  have e0 : natsD (headsF K (keysL ls)) = (headsF K (keysL ls)).map fun (i : Nat) => PyData.int (i : Int) := rfl
  rw [e0]
  refine lc_filter (fun (i : Nat) => PyData.int (i : Int)) (fun p => decide ((headsF K (keysL ls)).count p = 2)) (fun p => hookD (row.getD p ("", "", 0))) trivial (headsF K (keysL ls)) [] ?_ (fun p hp C hC => ?_) ?_
  · rw [List.length_nil, sizeLine_eq]; omega
  · obtain ⟨h, hh, hg, hiff⟩ := heads_count s hne L.nd L.all hp
    rw [← e0]
    have ec : cntD (.list (natsD (headsF K (keysL ls)))) [.int (p : Int)] = some (.v (.int ((headsF K (keysL ls)).count p : Nat))) := by
      unfold cntD
      simp only [intsOf_nats, Option.map_some, count_cast]
    have cnt2 : decide ((((headsF K (keysL ls)).count p : Nat) : Int) = 2) = decide ((headsF K (keysL ls)).count p = 2) := by
      by_cases q : (headsF K (keysL ls)).count p = 2
      · simp [q]
      · have : ¬ ((((headsF K (keysL ls)).count p : Nat) : Int) = 2) := by omega
        simp [q, this]
    simp [tyOk, ec, eqD_int3]
    rw [cnt2]
    refine hC _ fun _ D hD => ?_
    have ix : ixD (.list (row.map hookD)) (.int (p : Int)) = some (.v (hookD (row.getD p ("", "", 0)))) := by
      refine ixD_list (atI_nat ?_)
      rw [List.getElem?_map, hg, List.getD_eq_getElem?_getD, hg]
      rfl
    simp [ix]
    rw [← List.getD_eq_getElem?_getD]
    exact hD
  · have em : (((headsF K (keysL ls)).filter fun p => decide ((headsF K (keysL ls)).count p = 2)).map fun p => hookD (row.getD p ("", "", 0))) = (x :: xs).map hookD := by
      rw [← hx]
      unfold selF
      rw [List.map_map]
      rfl
    rw [em]
    have eb : bestC PySem.W.minD [.list ((x :: xs).map hookD)] = some (.v (hookD (minH x xs))) := by
      unfold bestC
      have := best_row (x :: xs)
      rw [List.map_cons] at this ⊢
      simp only [if_pos this]
      rw [minD_hook]
    simp only [List.nil_append, s_nil, st_f, vals_cons, vals_nil, val_d, Opt_some, eb, out_v, sto_d]
    rw [← e0]
    exact k
theorem aug_turn {ks : List Str} {g : Str → Nat} {fdl : List PyData} {r : Str} {ρ : Rho} {E : DEnds} (h2 : ρ[2]? = some (some (.c 0))) (h6 : ρ[6]? = some (some (.d (.str r)))) (hr : r ∈ ks) (hk : ks.length ≤ 2000000)
    (k : E.nx ρ [.m (goneE ks fun s => if s = r then g r + 1 else g s), .l fdl]) : wAugD (wVar 2) (wVar 6) (wC (.int 1)) E ρ [.m (goneE ks g), .l fdl] := by
  unfold wAugD wVar wC
  simp only [h2, h6, List.getElem?_cons_zero, keyD, Opt_some, gone_look hr]
  refine ⟨by unfold goneE; rw [List.length_map, sizeLine_eq]; omega, ?_⟩
  rw [show ((g r : Nat) : Int) + 1 = ((g r + 1 : Nat) : Int) by omega, gone_put hr]
  exact k
theorem step_turn {row : Row} {ls : Lines} {K : KR} {fd : Row} {p : Nat} {m : Hook} {p4 p6 : Option R} {E : DEnds} (L : LnOk row ls) (s : KSt row K) (hne : RowNe row) (hp : (p, m) ∈ avail K) (hfd : fd.length ≤ 1000000)
    (k : E.nx (rhoF row ls p4 (some (.d (hookD m))) (some (.d (.str m.2.1)))) (kapF row ls (K.filter fun e => decide (e.1 ≠ p)) (fd ++ [m]))) : wu_first_of E (rhoF row ls p4 (some (.d (hookD m))) p6) (kapF row ls K fd) := by
  obtain ⟨s', po, hd, _⟩ := s.take hp
  have hg := s.get (avail_mem.mp hp).1
  obtain ⟨i1, i2⟩ := L.all m (List.mem_of_getElem? hg)
  have ne := hne m (List.mem_of_getElem? hg)
  have kl : (keysL ls).length ≤ 2000000 := by
    have h3 : (keysL ls).length = ls.length := List.length_map ..
    have := L.len
    omega
  unfold wu_first_of rhoF kapF
  have e2 : cut [PyData.str m.1, PyData.str m.2.1, PyData.int m.2.2] none (some 2) = [.str m.1, .str m.2.1] := rfl
  simp [hookD, e2]
  refine aug_turn rfl rfl i1 kl ?_
  simp only [List.set_cons_succ, List.set_cons_zero]
  refine aug_turn rfl rfl i2 kl ?_
  have eg : (goneE (keysL ls) fun s => if s = m.2.1 then (if m.2.1 = m.1 then gK row K m.1 + 1 else gK row K m.2.1) + 1 else if s = m.1 then gK row K m.1 + 1 else gK row K s) = goneE (keysL ls) (gK row (K.filter fun e => decide (e.1 ≠ p))) := by
    congr 1
    funext r
    have grow : ∀ r, touches r m = true → gK row (K.filter fun e => decide (e.1 ≠ p)) r = gK row K r + 1 := fun r t => by
      have h1 := hd r t
      have h2 := (s.drop r).2
      have h3 := (s'.drop r).2
      rw [po r, if_pos t] at h3
      cases q : posOf r K with
      | nil => rw [q] at h1; cases h1
      | cons x xs =>
        rw [q] at h2 h3
        simp only [List.length_cons, List.tail_cons] at h2 h3
        omega
    by_cases q2 : r = m.2.1
    · subst q2
      rw [if_pos rfl, if_neg (fun z => ne z.symm), grow _ (touches_iff.mpr (.inr rfl))]
    · rw [if_neg q2]
      by_cases q1 : r = m.1
      · subst q1
        rw [if_pos rfl, grow _ (touches_iff.mpr (.inl rfl))]
      · rw [if_neg q1]
        have t : ¬ touches r m = true := fun z => (touches_iff.mp z).elim (fun z => q1 z.symm) fun z => q2 z.symm
        have h2 := (s.drop r).2
        have h3 := (s'.drop r).2
        rw [po r, if_neg t] at h3
        omega
  rw [eg]
  simp
  refine ⟨by rw [sizeLine_eq]; omega, ?_⟩
  unfold rhoF kapF at k
  simpa [hookD] using k
theorem first_loop {row : Row} {ls : Lines} {E : DEnds} (L : LnOk row ls) (hne : RowNe row) (hlen : row.length ≤ 1000000) : ∀ (n : Nat) (K : KR) (fd : Row) (p4 p5 p6 : Option R), K.length = n → fd.length + n = row.length → KSt row K →
    (∀ p4 p5 p6 K', E.nx (rhoF row ls p4 p5 p6) (kapF row ls K' (fd ++ firstG n K))) → ∃ N, whileN wt_first_of wb_first_of E N (rhoF row ls p4 p5 p6) (kapF row ls K fd)
  | 0, K, fd, p4, p5, p6, hK, hl, s, k => by
    refine ⟨1, ?_⟩
    unfold whileN wt_first_of rhoF kapF
    simp [ltI]
    rw [if_neg (by omega)]
    have := k p4 p5 p6 K
    unfold firstG at this
    rw [List.append_nil] at this
    exact this
  | n + 1, K, fd, p4, p5, p6, hK, hl, s, k => by
    cases K with
    | nil => cases hK
    | cons e0 K0 =>
      have hav : (e0.1, e0.2) ∈ avail (e0 :: K0) := avail_ne
      generalize hKd : e0 :: K0 = K at hav hK s k
      have hsel := sel_mem L s hne
      cases hx : selF row K (keysL ls) with
      | nil =>
        have := (hsel e0.2).mpr ⟨e0.1, hav⟩
        rw [hx] at this
        cases this
      | cons x xs =>
        rw [hx] at hsel
        obtain ⟨p, hp⟩ := (hsel (minH x xs)).mp (minH_spec xs x).1
        have st := firstG_step (n := n) s hsel rfl hp
        obtain ⟨s', _, _, hl'⟩ := s.take hp
        have fin : ∀ p4 p5 p6, ∃ N, whileN wt_first_of wb_first_of E N (rhoF row ls p4 p5 p6) (kapF row ls (K.filter fun e => decide (e.1 ≠ p)) (fd ++ [minH x xs])) := fun p4 p5 p6 =>
          first_loop L hne hlen n _ _ p4 p5 p6 (by omega) (by rw [List.length_append, List.length_singleton]; omega) s' fun p4 p5 p6 K' => by
            have := k p4 p5 p6 K'
            rw [st] at this
            rw [List.append_assoc]
            exact this
        obtain ⟨N, hN⟩ := fin (some (.d (.list (natsD (headsF K (keysL ls)))))) (some (.d (hookD (minH x xs)))) (some (.d (.str (minH x xs).2.1)))
        refine ⟨N + 1, ?_⟩
        unfold whileN wt_first_of
        have tt : ltI (fd.length : Int) (row.length : Int) = true := decide_eq_true (by omega)
        have e1 : val (kapF row ls K fd) (.c 1) = some (.list (fd.map hookD)) := rfl
        simp [e1, tt]
        unfold wb_first_of
        rw [s_seq]
        refine heads_turn L s ?_
        simp only [s_seq]
        refine hook_turn L s hne hx ?_
        exact step_turn L s hne hp (by omega) hN
theorem row_lines {row : Row} (hne : RowNe row) (hlen : row.length ≤ 1000000) : LnOk row (linesG [] 0 row) := by
  obtain ⟨k1, k2⟩ := keys_lines row [] 0
  have nd := k2 List.nodup_nil
  refine ⟨nd, fun e he => ?_, fun h hh => ⟨(k1 _).mpr (.inr ⟨h, hh, touches_iff.mpr (.inl rfl)⟩), (k1 _).mpr (.inr ⟨h, hh, touches_iff.mpr (.inr rfl)⟩)⟩, ?_⟩
  · rw [lineOf_mem nd he, lineOf_lines row [] 0 e.1 hne]
    rfl
  · have go : ∀ (hs : Row) (ls : Lines) (i n : Nat), LOk n ls → LOk (n + 2 * hs.length) (linesG ls i hs) := fun hs => by
      induction hs with
      | nil => intro ls i n h; exact h
      | cons h hs ih =>
        intro ls i n hl
        have := ih (addL (addL ls h.1 i) h.2.1 i) (i + 1) (n + 2) hl.add.add
        rw [List.length_cons]
        rw [show n + 2 * (hs.length + 1) = n + 2 + 2 * hs.length by omega]
        exact this
    have := (go row [] 0 0 ⟨Nat.le_refl _, fun e he => by cases he⟩).ln
    omega
theorem r_first_of (rs : List R) (Pd : R → Prop) (h : Ph_first_of rs Pd) (hl : rs.length = 1) : w_first_of { nx := fun _ _ => Pd (.d .none), rt := fun r κ => Opt (outR κ 0 r) Pd } (rs.map some ++ List.replicate 8 none) [] := by
  obtain ⟨row, rfl, hlen, hin, k⟩ := h
  clear hl
  have hne : RowNe row := fun h hh => (hin h hh).2.2
  have L := row_lines hne hlen
  unfold w_first_of
  simp only [s_seq, s_set, s_call, s_cons, s_nil, s_var, List.map_cons, List.map_nil, List.replicate_succ, List.replicate_zero, List.cons_append, List.nil_append, List.getElem?_cons_zero, st_d, args_d, DL.args_nil, Opt_some]
  refine ⟨row, rfl, hlen, ?_⟩
  simp only [sto_f, List.set_cons_succ, List.set_cons_zero, s_par, s_consM]
  have est : (R.h (linesE (linesG [] 0 row))).st = .h (linesE (linesG [] 0 row)) := rfl
  rw [est]
  unfold wd_first_of wDc
  simp only [s_walkH, s_frz, s_var, List.getElem?_cons_succ, List.getElem?_cons_zero]
  have ek : keysH (linesE (linesG [] 0 row)) = (keysL (linesG [] 0 row)).map .str := by
    unfold keysH linesE keysL
    rw [List.map_map, List.map_map]
    rfl
  rw [ek]
  refine dc_zero (fun _ => trivial) (by show 6 < 9; decide) (keysL (linesG [] 0 row)) [] (by simpa using L.nd) ?_ ?_
  · have : (keysL (linesG [] 0 row)).length = (linesG [] 0 row).length := List.length_map ..
    have := L.len
    simp only [List.nil_append]
    omega
  · simp
    have e0 : (fun _ => 0 : Str → Nat) = gK row (enR 0 row) := by
      funext r
      unfold gK
      rw [Nat.sub_self]
    rw [e0]
    have s0 : KSt row (enR 0 row) := ⟨List.Sublist.refl _, fun r => ⟨[], rfl⟩⟩
    refine first_loop L hne hlen row.length (enR 0 row) [] none none none (enR_len 0 row) (by simp) s0 fun p4 p5 p6 K' => ?_
    unfold rhoF kapF
    simp [outR]
    exact k
end SH
/-! DLp: [e for a in xs for b in ys]. -/
namespace DL
open PySem PySem.Spec PyProof.Rows L2
theorem pre_trans {α : Type} {a b c : List α} (h : ∃ x, b = a ++ x) (k : ∃ x, c = b ++ x) : ∃ x, c = a ++ x := by
  obtain ⟨x, rfl⟩ := h
  obtain ⟨y, rfl⟩ := k
  exact ⟨x ++ y, by rw [List.append_assoc]⟩
def lcI (ok : Kap → Prop) (g : DTG) (t : DTT) (e : DTE) (ρw : Rho) (N : List PyData → Kap → Prop) : List PyData → List PyData → Kap → Prop
  | [], acc, κ => N acc κ
  | x :: xs, acc, κ => g (.d x) ρw κ fun ρ1 κ1 => t ρ1 κ1 fun b κ2 => if b = true then e ρ1 κ2 fun r κ3 => Opt (dat κ3 r.st) fun q => acc.length < sizeLine ∧ ok q.2 ∧ lcI ok g t e ρw N xs (acc ++ [q.1]) q.2 else ok κ2 ∧ lcI ok g t e ρw N xs acc κ2
def lc2L (ok : Kap → Prop) (g : DTG) (t : DTT) (wi1 : DTI) (g1 : DTG) (t1 : DTT) (e : DTE) (ρw : Rho) (vs1 : List Nat) (P : R → Kap → Prop) : List PyData → List PyData → Kap → Prop
  | [], acc, κ => P (.f acc) κ
  | x :: xs, acc, κ => g (.d x) ρw κ fun ρ1 κ1 => t ρ1 κ1 fun b κ2 => if b = true then wi1 ρ1 κ2 fun ys ok1 κ3 => lcI ok1 g1 t1 e (wipeR ρ1 vs1) (fun acc' κ4 => ok κ4 ∧ lc2L ok g t wi1 g1 t1 e ρw vs1 P xs acc' κ4) ys acc κ3 else ok κ2 ∧ lc2L ok g t wi1 g1 t1 e ρw vs1 P xs acc κ2
def wLc2 (wi : DTI) (g : DTG) (t : DTT) (wi1 : DTI) (g1 : DTG) (t1 : DTT) (e : DTE) (vs vs1 : List Nat) : DTE := fun ρ κ P => wi ρ κ fun xs ok κ1 => lc2L ok g t wi1 g1 t1 e (wipeR ρ vs) vs1 P xs [] κ1
section
variable {X : Cx} {elt tg iter tg1 iter1 : Expr} {ifs ifs1 : List Expr} {scope : Scope} {own : List (Str × Nat)} {pos : Pos} {wi wi1 : DTI} {g g1 : DTG} {wt wt1 : DTT} {we : DTE} {js js1 : List Nat}
theorem uni_I {scope : Scope} {tg it : Expr} {w : DTI} (h : ∀ i : BI, DI (i.cx X scope) tg it w) : ∃ t, (∀ i : BI, PI (i.cx X scope) tg it t) ∧ ∀ (G H : Hp) (As : List Addr) (σ : L2.St) (ρ : Rho) (κ : Kap) (P : List PyData → (Kap → Prop) → Kap → Prop) (R : L2.It → Hp → Prop), Cells X.K G H As κ → Places X.K G As σ ρ → w ρ κ P →
    (∀ J xs ok G' H' As' κ', Step G H As G' H' As' → Cells X.K G' H' As' κ' → Places X.K G' As' σ ρ → WalkOk X.K G' As' J xs ok → ok κ' → P xs ok κ' → R J H') → t σ H R := by
  obtain ⟨f, hf⟩ := Classical.skolem.mp h
  exact ⟨fun σ H R => ∀ i, f i σ H R, fun i => ⟨fun pins s σ H R I q => (hf i).1.run pins s σ H R I (q i)⟩, fun G H As σ ρ κ P R c p w k i => (hf i).2 G H As σ ρ κ P R c p w k⟩
theorem lc2_reads {ti ti1 : TI} {gg gg1 : TG} {tt tt1 : TT} {te : TE} {vs vs1 : List Nat} (hj : ∀ j, j ∈ js → j ∈ vs) (hj1 : ∀ j, j ∈ js1 → j ∈ vs1)
    (hi : ∀ (G H : Hp) (As : List Addr) (σ : L2.St) (ρ : Rho) (κ : Kap) (P : List PyData → (Kap → Prop) → Kap → Prop) (R : L2.It → Hp → Prop), Cells X.K G H As κ → Places X.K G As σ ρ → wi ρ κ P → (∀ J xs ok G' H' As' κ', Step G H As G' H' As' → Cells X.K G' H' As' κ' → Places X.K G' As' σ ρ → WalkOk X.K G' As' J xs ok → ok κ' → P xs ok κ' → R J H') → ti σ H R)
    (hg : ∀ (G H : Hp) (As : List Addr) (σ : L2.St) (ρ : Rho) (κ : Kap) (v : V) (r : R) (P : Rho → Kap → Prop) (Q : L2.St → Hp → Prop), Cells X.K G H As κ → Places X.K G As σ ρ → It X.K G As v r → g r ρ κ P → (∀ σ' ρ' G' H' As' κ', Wr js σ σ' → Step G H As G' H' As' → Cells X.K G' H' As' κ' → Places X.K G' As' σ' ρ' → P ρ' κ' → Q σ' H') → gg v σ H Q)
    (ht : ∀ (G H : Hp) (As : List Addr) (σ : L2.St) (ρ : Rho) (κ : Kap) (P : Bool → Kap → Prop) (Q : Bool → Hp → Prop), Cells X.K G H As κ → Places X.K G As σ ρ → wt ρ κ P → (∀ b G' H' As' κ', Step G H As G' H' As' → Cells X.K G' H' As' κ' → Places X.K G' As' σ ρ → P b κ' → Q b H') → tt σ H Q)
    (hi1 : ∀ (G H : Hp) (As : List Addr) (σ : L2.St) (ρ : Rho) (κ : Kap) (P : List PyData → (Kap → Prop) → Kap → Prop) (R : L2.It → Hp → Prop), Cells X.K G H As κ → Places X.K G As σ ρ → wi1 ρ κ P → (∀ J xs ok G' H' As' κ', Step G H As G' H' As' → Cells X.K G' H' As' κ' → Places X.K G' As' σ ρ → WalkOk X.K G' As' J xs ok → ok κ' → P xs ok κ' → R J H') → ti1 σ H R)
    (hg1 : ∀ (G H : Hp) (As : List Addr) (σ : L2.St) (ρ : Rho) (κ : Kap) (v : V) (r : R) (P : Rho → Kap → Prop) (Q : L2.St → Hp → Prop), Cells X.K G H As κ → Places X.K G As σ ρ → It X.K G As v r → g1 r ρ κ P → (∀ σ' ρ' G' H' As' κ', Wr js1 σ σ' → Step G H As G' H' As' → Cells X.K G' H' As' κ' → Places X.K G' As' σ' ρ' → P ρ' κ' → Q σ' H') → gg1 v σ H Q)
    (ht1 : ∀ (G H : Hp) (As : List Addr) (σ : L2.St) (ρ : Rho) (κ : Kap) (P : Bool → Kap → Prop) (Q : Bool → Hp → Prop), Cells X.K G H As κ → Places X.K G As σ ρ → wt1 ρ κ P → (∀ b G' H' As' κ', Step G H As G' H' As' → Cells X.K G' H' As' κ' → Places X.K G' As' σ ρ → P b κ' → Q b H') → tt1 σ H Q)
    (he : ∀ (G H : Hp) (As : List Addr) (σ : L2.St) (ρ : Rho) (κ : Kap) (P : R → Kap → Prop) (Q : VK), Cells X.K G H As κ → Places X.K G As σ ρ → we ρ κ P → (∀ v r G' H' As' κ', Step G H As G' H' As' → Cells X.K G' H' As' κ' → Places X.K G' As' σ ρ → Rv X.K H G' H' As' v r → P r κ' → Q v H') → te σ H Q)
    (G H : Hp) (As : List Addr) (σ : L2.St) (ρ : Rho) (κ : Kap) (P : R → Kap → Prop) (Q : VK) (c : Cells X.K G H As κ) (p : Places X.K G As σ ρ) (w : wLc2 wi g wt wi1 g1 wt1 we vs vs1 ρ κ P)
    (k : ∀ v r G' H' As' κ', Step G H As G' H' As' → Cells X.K G' H' As' κ' → Places X.K G' As' σ ρ → Rv X.K H G' H' As' v r → P r κ' → Q v H') : tLc2 ti gg tt ti1 gg1 tt1 te vs vs1 σ H Q := by
  refine hi G H As σ ρ κ _ _ c p w fun J xs ok G1 H1 As1 κ1 s1 c1 p1 wk o1 w1 => fun D hD => ?_
  have gD1 : G1 D = none := c1.ext.free hD
  have nD1 : D ∉ As1 := c1.notin hD
  -- the list that is made stands at D, is known to nobody, and only the turns change it
  let W : Nat → Hp → Prop := fun i H' => ∃ G' As' κ' acc vs', Step G1 H1 As1 G' H' As' ∧ Cells X.K G' H' As' κ' ∧ G' D = none ∧ D ∉ As' ∧ H' D = some (.lst vs') ∧ RpA X.K G' vs' acc ∧ ok κ' ∧ lc2L ok g wt wi1 g1 wt1 we (wipeR ρ vs) vs1 P (xs.drop i) acc κ'
  -- a step keeps the list at D as it is
  have keep : ∀ {Ga Ha Asa Gb Hb Asb} {vs' : List V}, Step Ga Ha Asa Gb Hb Asb → Ga D = none → D ∉ Asa → Ha D = some (.lst vs') → Gb D = none ∧ D ∉ Asb ∧ Hb D = some (.lst vs') := fun s g0 n0 h0 => by
    refine ⟨?_, fun hm => ?_, s.fr D _ n0 h0⟩
    · rcases s.gn D g0 with z | z | z
      · exact z
      · rw [h0] at z; cases z
      · exact absurd z n0
    · rcases s.new D hm with z | z
      · exact n0 z
      · rw [h0] at z; cases z
  have grow0 : ∀ {G' H' As' κ' vs' v}, Step G1 H1 As1 G' H' As' → Cells X.K G' H' As' κ' → G' D = none → D ∉ As' → H' D = some (.lst vs') → Step G1 H1 As1 G' (upd H' D (.lst (vs' ++ [v]))) As' ∧ Cells X.K G' (upd H' D (.lst (vs' ++ [v]))) As' κ' := fun {G' H' As' κ' vs' v} s c g0 n0 h0 => by
    refine ⟨⟨s.ex, s.pre, s.new, fun b u hb e => ?_, fun b e => ?_, s.gn⟩, ⟨c.ext.mut g0, c.len, c.nd, fun a ha => ?_, fun j x a e1 e2 => ?_⟩⟩
    · by_cases q : b = D
      · subst q; rw [hD] at e; cases e
      · rw [upd_ne q]; exact s.fr b u hb e
    · by_cases q : b = D
      · subst q; rw [upd_same] at e; cases e
      · rw [upd_ne q] at e; exact s.dom b e
    · by_cases q : a = D
      · subst q; exact ⟨_, upd_same⟩
      · rw [upd_ne q]; exact c.al a ha
    · have z := c.ok j x a e1 e2
      cases x with
      | l ds =>
        obtain ⟨z1, ws, z2, z3⟩ := z
        have ne : a ≠ D := fun q => n0 (by rw [← q]; exact List.mem_of_getElem? e2)
        exact ⟨z1, ws, by rw [upd_ne ne]; exact z2, z3⟩
      | m ds =>
        obtain ⟨z1, ws, z2, z3⟩ := z
        have ne : a ≠ D := fun q => n0 (by rw [← q]; exact List.mem_of_getElem? e2)
        exact ⟨z1, ws, by rw [upd_ne ne]; exact z2, z3⟩
      | z x => exact z
      | k es => exact z
      | x u =>
        obtain ⟨z1, z2⟩ := z
        have ne : a ≠ D := fun q => n0 (by rw [← q]; exact List.mem_of_getElem? e2)
        exact ⟨z1, by rw [upd_ne ne]; exact z2⟩
  refine ⟨fun i m H' => i + m = xs.length ∧ W i H', ⟨xs.length, by omega, G1, As1, κ1, [], [], Step.fresh hD, c1.fresh hD, gD1, nD1, upd_same, .nil, o1, w1⟩, fun i m H' hW => ?_⟩
  obtain ⟨em, G', As', κ', acc, vs', s', c', g', n', h', rp, o', f⟩ := hW
  obtain ⟨wgo, wst, wyl⟩ := wk G' H' As' κ' s'.ex s'.pre c' o'
  cases m with
  | zero =>
    have ei : i = xs.length := by omega
    subst ei
    rw [List.drop_length] at f
    have st := s1.trans s'
    exact .inl ⟨wst, k _ (.f acc) G' H' As' κ' st c' (p.step st) ⟨D, vs', rfl, s1.dom D hD, g', n', h', rp⟩ f⟩
  | succ m =>
    have hi' : i < xs.length := by omega
    rw [List.drop_eq_getElem_cons hi'] at f
    refine .inr ⟨wgo i hi', W (i + 1), fun H2 q => ⟨m, by omega, by omega, q⟩, fun v H2 hy => ?_⟩
    obtain ⟨G2, s2, c2, r2⟩ := wyl i v H2 _ hy (List.getElem?_eq_getElem hi')
    obtain ⟨g2, n2, h2⟩ := keep s2 g' n' h'
    refine hg G2 H2 As' (wipe σ vs) (wipeR ρ vs) κ' v (.d xs[i]) _ _ c2 ((p.step ((s1.trans s').trans s2)).wipe vs) r2 f fun σ3 ρ3 G3 H3 As3 κ3 a3 s3 c3 p3 w3 => ⟨?_, ?_⟩
    · have hw : wipe (wipe σ vs) vs = wipe σ vs := by
        refine List.ext_getElem? fun j => ?_
        by_cases hj : j ∈ vs
        · rw [wipe_in hj, wipe_in hj, wipe_length]
        · rw [wipe_out hj]
      rw [← hw]
      have q := a3.wipe hj
      rw [q]
    · obtain ⟨g3, n3, h3⟩ := keep s3 g2 n2 h2
      refine ht G3 H3 As3 σ3 ρ3 κ3 _ _ c3 p3 w3 fun z G4 H4 As4 κ4 s4 c4 p4 w4 => ?_
      obtain ⟨g4, n4, h4⟩ := keep s4 g3 n3 h3
      have st4 : Step G1 H1 As1 G4 H4 As4 := ((s'.trans s2).trans s3).trans s4
      cases z with
      | false =>
        rw [if_neg (by decide)] at w4 ⊢
        exact ⟨G4, As4, κ4, acc, vs', st4, c4, g4, n4, h4, RpA.mono (((s2.trans s3).trans s4)).ex _ _ rp, w4.1, w4.2⟩
      | true =>
        rw [if_pos rfl] at w4 ⊢
        refine hi1 G4 H4 As4 σ3 ρ3 κ4 _ _ c4 p4 w4 fun J1 ys ok1 G5 H5 As5 κ5 s5 c5 p5 wk1 o5 w5 => ?_
        obtain ⟨g5, n5, h5⟩ := keep s5 g4 n4 h4
        have st5 := st4.trans s5
        have rp5 := RpA.mono ((((s2.trans s3).trans s4)).trans s5).ex _ _ rp
        let W1 : Nat → Hp → Prop := fun j H' => ∃ G' As' κ' acc vs', Step G1 H1 As1 G' H' As' ∧ Ex G5 G' ∧ (∃ bs, As' = As5 ++ bs) ∧ Cells X.K G' H' As' κ' ∧ Places X.K G' As' σ3 ρ3 ∧ G' D = none ∧ D ∉ As' ∧ H' D = some (.lst vs') ∧ RpA X.K G' vs' acc ∧ ok1 κ' ∧ lcI ok1 g1 wt1 we (wipeR ρ3 vs1) (fun acc κ => ok κ ∧ lc2L ok g wt wi1 g1 wt1 we (wipeR ρ vs) vs1 P (xs.drop (i + 1)) acc κ) (ys.drop j) acc κ'
        refine ⟨fun j m H' => j + m = ys.length ∧ W1 j H', ⟨ys.length, by omega, G5, As5, κ5, acc, vs', st5, Ex.refl G5, ⟨[], by simp⟩, c5, p5, g5, n5, h5, rp5, o5, w5⟩, fun j m H' hW => ?_⟩
        obtain ⟨em1, G6, As6, κ6, acc6, vs6, s6, x56, y56, c6, p6, g6, n6, h6, rp6, o6, f6⟩ := hW
        obtain ⟨wgo1, wst1, wyl1⟩ := wk1 G6 H' As6 κ6 x56 y56 c6 o6
        cases m with
        | zero =>
          have ej : j = ys.length := by omega
          subst ej
          rw [List.drop_length] at f6
          exact .inl ⟨wst1, G6, As6, κ6, acc6, vs6, s6, c6, g6, n6, h6, rp6, f6.1, f6.2⟩
        | succ m =>
          have hj' : j < ys.length := by omega
          rw [List.drop_eq_getElem_cons hj'] at f6
          refine .inr ⟨wgo1 j hj', W1 (j + 1), fun H2 q => ⟨m, by omega, by omega, q⟩, fun v H7 hy => ?_⟩
          obtain ⟨G7, s7, c7, r7⟩ := wyl1 j v H7 _ hy (List.getElem?_eq_getElem hj')
          obtain ⟨g7, n7, h7⟩ := keep s7 g6 n6 h6
          refine hg1 G7 H7 As6 (wipe σ3 vs1) (wipeR ρ3 vs1) κ6 v (.d ys[j]) _ _ c7 ((p6.step s7).wipe vs1) r7 f6 fun σ8 ρ8 G8 H8 As8 κ8 a8 s8 c8 p8 w8 => ⟨?_, ?_⟩
          · have hw : wipe (wipe σ3 vs1) vs1 = wipe σ3 vs1 := by
              refine List.ext_getElem? fun j => ?_
              by_cases hj : j ∈ vs1
              · rw [wipe_in hj, wipe_in hj, wipe_length]
              · rw [wipe_out hj]
            rw [← hw]
            exact a8.wipe hj1
          · obtain ⟨g8, n8, h8⟩ := keep s8 g7 n7 h7
            refine ht1 G8 H8 As8 σ8 ρ8 κ8 _ _ c8 p8 w8 fun z G9 H9 As9 κ9 s9 c9 p9 w9 => ?_
            obtain ⟨g9, n9, h9⟩ := keep s9 g8 n8 h8
            have s69 := (s7.trans s8).trans s9
            have st9 : Step G1 H1 As1 G9 H9 As9 := ((s6.trans s7).trans s8).trans s9
            cases z with
            | false =>
              rw [if_neg (by decide)] at w9 ⊢
              exact ⟨G9, As9, κ9, acc6, vs6, st9, x56.trans s69.ex, pre_trans y56 s69.pre, c9, p6.step s69, g9, n9, h9, RpA.mono (((s7.trans s8).trans s9)).ex _ _ rp6, w9.1, w9.2⟩
            | true =>
              rw [if_pos rfl] at w9 ⊢
              refine he G9 H9 As9 σ8 ρ8 κ9 _ _ c9 p9 w9 fun v5 r5 GA HA AsA κA sA cA pA iA wA => ?_
              obtain ⟨GA', sA', cA', pA', iA', _⟩ := settle sA cA pA iA
              obtain ⟨⟨y, κB⟩, eB, hl, ho, wB⟩ := wA.ex
              obtain ⟨GB, sB, cB, rB⟩ := dat_ok cA' iA' eB
              have stB := sA'.trans sB
              obtain ⟨gB, nB, hB⟩ := keep stB g9 n9 h9
              have rpB := RpA.mono ((((s7.trans s8).trans s9)).trans stB).ex _ _ rp6
              refine ⟨vs6, hB, by rw [rpB.len]; exact hl, ?_⟩
              obtain ⟨stC, cC⟩ := grow0 (v := v5) (st9.trans stB) cB gB nB hB
              have s6B := s69.trans stB
              exact ⟨GB, _, κB, acc6 ++ [y], vs6 ++ [v5], stC, x56.trans s6B.ex, pre_trans y56 s6B.pre, cC, p6.step s6B, gB, nB, upd_same, rpB.app (.cons rB .nil), ho, wB⟩
theorem de_lc2 {vs1 : List Nat} (hc : X.calm = true) (hN : X.N.Nodup) (hi : DI X tg iter wi) (ok : BlkOk X.N X.env.scope scope own) (hg : ∀ i : BI, DG (i.cx X scope) tg js g) (ht : ∀ i : BI, DTs (i.cx X scope) ifs wt) (hi1 : ∀ i : BI, DI (i.cx X scope) tg1 iter1 wi1) (hg1 : ∀ i : BI, DG (i.cx X scope) tg1 js1 g1) (ht1 : ∀ i : BI, DTs (i.cx X scope) ifs1 wt1) (he : ∀ i : BI, DE (i.cx X scope) elt we)
    (hv : ∀ i ∈ vs1, i ∈ own.map (·.2) := by decide) (hj : ∀ j, j ∈ js → j ∈ own.map (·.2) := by decide) (hj1 : ∀ j, j ∈ js1 → j ∈ vs1 := by decide) (hs : ∀ x, foldedSetIterable iter X.env x = pure x := by intro _; rfl) (hs1 : ∀ env x, foldedSetIterable iter1 env x = pure x := by intro _ _; rfl) :
    DE X (.ListComp elt [⟨tg, iter, ifs, 0⟩, ⟨tg1, iter1, ifs1, 0⟩] scope pos) (wLc2 wi g wt wi1 g1 wt1 we (own.map (·.2)) vs1) := by
  obtain ⟨ti, pi, hi⟩ := hi
  obtain ⟨gg, pg, hg⟩ := uni_G hg
  obtain ⟨tt, pt, ht⟩ := uni_T ht
  obtain ⟨ti1, pi1, hi1⟩ := uni_I hi1
  obtain ⟨gg1, pg1, hg1⟩ := uni_G hg1
  obtain ⟨tt1, pt1, ht1⟩ := uni_T ht1
  obtain ⟨te, pe, he⟩ := uni_E he
  exact ⟨_, pe_lc2 hc hN pi ok hv (fun s H C cl fp => pg ⟨s, H, C, cl, fp⟩) (fun s H C cl fp => pt ⟨s, H, C, cl, fp⟩) (fun s H C cl fp => pi1 ⟨s, H, C, cl, fp⟩) (fun s H C cl fp => pg1 ⟨s, H, C, cl, fp⟩) (fun s H C cl fp => pt1 ⟨s, H, C, cl, fp⟩) (fun s H C cl fp => pe ⟨s, H, C, cl, fp⟩) hs hs1, lc2_reads hj hj1 hi hg ht hi1 hg1 ht1 he⟩
end
end DL
/-! DLy: sets of keys (ints and texts) that can be walked: add, sorted, made from a list. -/
namespace DL
open PySem PySem.Spec PyProof.Rows L2

def kOf (e : Int × Value) : Key := match e.2 with
  | .int i _ => .inl i
  | .str z _ => .inr z
  | _ => .inl 0
def OkE (w : World) (e : Int × Value) : Prop := ∃ k, keyIs k e.2 = true ∧ e.1 = keyH w k
theorem mixKind_inj {v : Value} {a b : Key} (h : keyIs a v = true) (h' : keyIs b v = true) : a = b := by
  rcases keyIs_shape h with ⟨i, t, rfl, e2⟩ | ⟨x, t, rfl, e2⟩ <;> rcases keyIs_shape h' with ⟨j, u, rfl, e3⟩ | ⟨y, u, rfl, e3⟩ <;> (subst e2; cases e3; try rfl)
theorem okE_is {w : World} {e : Int × Value} (g : OkE w e) (k : Key) : keyIs k e.2 = true ↔ kOf e = k := by
  obtain ⟨k0, h1, _⟩ := g
  obtain ⟨h, v⟩ := e
  have e0 : kOf (h, v) = k0 := by
    rcases keyIs_shape h1 with ⟨i, t, rfl, e2⟩ | ⟨x, t, rfl, e2⟩ <;> (have e2 : v = _ := e2; subst e2; rfl)
  rw [e0]
  exact ⟨fun q => (mixKind_inj h1 q), fun q => q ▸ h1⟩
theorem okE_elems {P : Program} {w : World} {l : List (Int × Value)} (g : ∀ e ∈ l, OkE w e) : ElemsOf (mixKind P w) l := fun e he => by
  obtain ⟨k, h1, h2⟩ := g e he
  exact ⟨⟨k, h1, h2⟩, key_scan (relV_key h1)⟩
theorem okE_mem {w : World} {l : List (Int × Value)} (g : ∀ e ∈ l, OkE w e) (k : Key) : k ∈ l.map kOf ↔ ∃ e ∈ l, keyIs k e.2 = true := by
  rw [List.mem_map]
  exact ⟨fun ⟨e, he, q⟩ => ⟨e, he, (okE_is (g e he) k).2 q⟩, fun ⟨e, he, q⟩ => ⟨e, he, (okE_is (g e he) k).1 q⟩⟩
/-- the set at a holds the keys ks, and it can be walked -/
def SetM (w : World) (h : Heap) (a : Addr) (S : Key → Bool) (n : Nat) : Prop :=
  ∃ o es ep t, h.get? a = some o ∧ o.ExactSet ∧ o.data = .set es ep t ∧ (∀ e ∈ es.toList, OkE w e) ∧ (es.toList.map kOf).Nodup ∧ (∀ k, S k = true ↔ k ∈ es.toList.map kOf) ∧
    (es.size < scanBound ∧ t.fits es.size = true) ∧ es.size = n ∧ Ris t.place.toList ∧ (w.params.followText "set-order" = true ∨ t.led = true)
section
variable {P : Program} {w : World} {h h' : Heap} {a : Addr} {S : Key → Bool} {n : Nat}
theorem SetM.keep (R : SetM w h a S n) (k : ∀ o, h.get? a = some o → h'.get? a = some o) : SetM w h' a S n := by
  obtain ⟨o, es, ep, t, ho, r⟩ := R
  exact ⟨o, es, ep, t, k o ho, r⟩
theorem SetM.cast {S' : Key → Bool} {m : Nat} (R : SetM w h a S n) (e : ∀ k, S' k = S k) (em : m = n) : SetM w h a S' m := by
  have q : S' = S := funext e
  rw [q, em]; exact R
theorem SetM.setOf (R : SetM w h a S n) : h.SetOf (mixKind P w) a S n := by
  obtain ⟨o, es, ep, t, ho, hx, hd, g, nd, hm, ⟨hb, hf⟩, hn, _⟩ := R
  exact ⟨o, es, ep, t, ho, hx, hd, okE_elems g, fun k => (hm k).trans (okE_mem g k), hb, hf, hn⟩
end
section
variable {P : Program} {w : World} {A : Around} {E : Value → Shared → Prop} {s : Shared} {a : Addr} {S : Key → Bool} {n : Nat}
/-! ### add -/
theorem setM_tail {g : Bool → Sem Unit} (hg : ∀ (b : Bool) (s1 : Shared) (Q' : Unit → Shared → Prop), Q' () s1 → wpAny (model P w) A (g b) Q' E s1)
    {o : Obj} {es es1 : Array (Int × Value)} {ep : Nat} {t t2 : SetTable} {S' : Key → Bool} (ho : s.heap.get? a = some o) (hex : o.ExactSet) (hd : o.data = .set es ep t)
    (g1 : ∀ e ∈ es1.toList, OkE w e) (nd1 : (es1.toList.map kOf).Nodup) (m1 : ∀ k, S' k = true ↔ k ∈ es1.toList.map kOf)
    (hb1 : es1.size < scanBound) (hf2 : t2.fits es1.size = true) (hr : Ris t2.place.toList) (hl : w.params.followText "set-order" = true ∨ t2.led = true) {gone : Bool} {R : Option Bool → Shared → Prop}
    (hR : ∀ h', Heap.SameBut a s.heap h' → SetM w h' a S' es1.size → R (some true) { s with heap := h' }) :
    wpAny (model P w) A (do
        storeSet a es1 t2
        if (!gone && t2.tooFull) = true then do
            g (relayAll t2 es1 (SetTable.grown es1.size)).2.2
            storeSet a (relayAll t2 es1 (SetTable.grown es1.size)).1 (relayAll t2 es1 (SetTable.grown es1.size)).2.1
            pure (some true)
          else pure (some true)) R E s := by
  refine wpAny_bind (wpAny_storeSet_of ho hd ?_ (fits_of_scanBound hb1))
  have o1 := store_at (es' := es1) (t' := t2) ho hd
  have b1 := Heap.SameBut.update s.heap a (Obj.putSet es1 t2)
  split
  · have y1 := relayAll_perm t2 es1 (SetTable.grown es1.size)
    have y2 := relayAll_fits t2 es1 (SetTable.grown es1.size)
    have y3 := relayAll_ris t2 es1 (SetTable.grown es1.size)
    have y4 := relayAll_led t2 es1 (SetTable.grown es1.size)
    generalize relayAll t2 es1 (SetTable.grown es1.size) = Z at y1 y2 y3 y4 ⊢
    obtain ⟨es2, t3, gave⟩ := Z
    dsimp only at y1 y2 y3 y4 ⊢
    have z1 : es2.size = es1.size := by rw [← Array.length_toList, y1.length_eq, Array.length_toList]
    have z2 : es2.size < scanBound := z1 ▸ hb1
    refine wpAny_bind (hg _ _ _ (wpAny_bind (wpAny_storeSet_of o1 rfl ?_ (fits_of_scanBound z2))))
    have o2 := store_at (es' := es2) (t' := t3) o1 rfl
    exact wpAny_pure (hR _ (b1.trans (Heap.SameBut.update _ a _)) ⟨_, es2, _, t3, o2, hex, rfl, fun e he => g1 e (y1.mem_iff.mp he), (y1.map kOf).nodup_iff.mpr nd1, fun k => (m1 k).trans (y1.map kOf).mem_iff.symm, ⟨z2, y2⟩, z1, y3, hl.imp id fun z => by rw [y4]; exact z⟩)
  · exact wpAny_pure (hR _ b1 ⟨_, es1, _, t2, o1, hex, rfl, g1, nd1, m1, ⟨hb1, hf2⟩, rfl, hr, hl⟩)
theorem setM_hashed {k : Key} {v : Value} {Q : Bool → Shared → Prop} (hv : keyIs k v = true) (R : SetM w s.heap a S n) (room : n + 1 < scanBound)
    (hQ : ∀ h', Heap.SameBut a s.heap h' → SetM w h' a (fun j => S j || decide (j = k)) (if S k = true then n else n + 1) → Q (!S k) { s with heap := h' }) :
    wpAny (model P w) A (setAddHashed a v ((mixKind P w).hash k)) Q E s := by
  obtain ⟨o, es, ep, t, ho, hex, hd, g, nd, hm, ⟨hb, hf⟩, hn, hr, hl⟩ := R
  have hkey : (mixKind P w).is k v = true := hv
  have hsc : v.scannable = true := key_scan (relV_key hv)
  have hel : ElemsOf (mixKind P w) es.toList := okE_elems g
  unfold setAddHashed setAddHashedIn
  refine wpAny_holding (wpAny_bind (wpAny_setState_of ho hd hf ?_))
  dsimp only
  rw [byScan_of hsc hb hel]
  simp only [↓reduceIte]
  unfold setAddByScan
  refine wpAny_bind (wpAny_bind (wpAny_rule (wpAny_bind (wpAny_setScan_of hkey ho hd hf hel ?_))))
  cases hfi : List.findIdx? (fun e => (mixKind P w).is k e.2) es.toList with
  | some j =>
    dsimp only
    obtain ⟨hj, pj, _⟩ := List.findIdx?_eq_some_iff_getElem.mp hfi
    have hS : S k = true := (hm k).2 ((okE_mem g k).2 ⟨es.toList[j], List.getElem_mem hj, pj⟩)
    have q := hQ s.heap (Heap.SameBut.refl a s.heap) ⟨o, es, ep, t, ho, hex, hd, g, nd, fun i => by
      rw [Bool.or_eq_true, decide_eq_true_eq, ← hm i]
      exact ⟨fun z => z.elim id (fun e => e ▸ hS), .inl⟩, ⟨hb, hf⟩, by rw [if_pos hS]; exact hn, hr, hl⟩
    rw [hS] at q
    exact wpAny_pure (wpAny_pure q)
  | none =>
    dsimp only
    have nk : k ∉ es.toList.map kOf := fun z => by
      obtain ⟨e, he, q⟩ := (okE_mem g k).1 z
      have c := List.findIdx?_eq_none_iff.mp hfi e he
      have c : keyIs k e.2 = false := c
      rw [q] at c
      cases c
    have hS : S k = false := by
      cases q : S k with
      | false => rfl
      | true => exact absurd ((hm k).1 q) nk
    have way : ∀ (b : Bool) {s1 : Shared} {Q' : Unit → Shared → Prop}, Q' () s1 → wpAny (model P w) A (match b with | true => rule "set.scan.the-table-gave-way" | false => pure ()) Q' E s1 := fun b s1 Q' q => by
      cases b <;> first | exact wpAny_pure q | exact wpAny_rule q
    have y1 := layNew_perm t es ((mixKind P w).hash k) v
    have y2 := layNew_fits t es ((mixKind P w).hash k) v
    have y3 := layNew_ris t es ((mixKind P w).hash k) v hr
    have y4 := layNew_led t es ((mixKind P w).hash k) v
    generalize layNew t es ((mixKind P w).hash k) v = Z at y1 y2 y3 y4 ⊢
    obtain ⟨es1, t1, gone, gave⟩ := Z
    dsimp only at y1 y2 y3 y4 ⊢
    rw [Array.toList_push] at y1
    have pc : es1.toList.Perm (((mixKind P w).hash k, v) :: es.toList) := y1.trans (List.perm_append_singleton _ _)
    have ke : kOf ((mixKind P w).hash k, v) = k := (okE_is (w := w) (e := ((mixKind P w).hash k, v)) ⟨k, hv, rfl⟩ k).1 hv
    have pk : (es1.toList.map kOf).Perm (k :: es.toList.map kOf) := by
      have := pc.map kOf
      rw [List.map_cons, ke] at this
      exact this
    have g1 : ∀ e ∈ es1.toList, OkE w e := fun e he => by
      rcases List.mem_cons.mp (pc.mem_iff.mp he) with z | z
      · rw [z]; exact ⟨k, hv, rfl⟩
      · exact g e z
    have nd1 : (es1.toList.map kOf).Nodup := pk.nodup_iff.mpr (List.nodup_cons.mpr ⟨nk, nd⟩)
    have m1 : ∀ i, (S i || decide (i = k)) = true ↔ i ∈ es1.toList.map kOf := fun i => by
      rw [Bool.or_eq_true, decide_eq_true_eq, hm i, pk.mem_iff, List.mem_cons]
      exact Or.comm
    have z1 : es1.size = n + 1 := by rw [← Array.length_toList, pc.length_eq, List.length_cons, Array.length_toList, hn]
    have z2 : es1.size < scanBound := by rw [z1]; exact room
    have z3 : w.params.followText "set-order" = true ∨ t1.led = true := hl.imp id fun z => by rw [y4]; exact z
    have fin : ∀ h', Heap.SameBut a s.heap h' → SetM w h' a (fun j => S j || decide (j = k)) es1.size → Q true { s with heap := h' } := fun h' sb r => by
      have q := hQ h' sb
      rw [hS] at q
      rw [z1] at r
      exact q r
    refine wpAny_bind (way _ ?_)
    have tl : ∀ (b : Bool) (s1 : Shared) (Q' : Unit → Shared → Prop), Q' () s1 → wpAny (model P w) A (match b with | true => rule "set.scan.the-table-gave-way" | false => pure ()) Q' E s1 := fun b s1 Q' q => way b q
    split
    · rw [hashByValue_scannable 8 hsc]
      refine wpAny_bind (wpAny_pure ?_)
      refine setM_tail (fun b s1 Q' q => by cases b <;> first | exact wpAny_pure q | exact wpAny_rule q) ho hex hd g1 nd1 m1 z2 ?_ ?_ ?_ fun h' sb r => ?_
      · first | (split <;> first | exact y2 | exact SetTable.fits_plain_off y2) | exact y2
      · first | (split <;> exact y3) | exact y3
      · first | (split <;> exact z3) | exact z3
      · dsimp only; exact wpAny_pure (fin h' sb r)
    · refine wpAny_bind (wpAny_pure ?_)
      simp only [↓reduceIte]
      refine setM_tail (fun b s1 Q' q => by cases b <;> first | exact wpAny_pure q | exact wpAny_rule q) ho hex hd g1 nd1 m1 z2 y2 y3 z3 fun h' sb r => ?_
      dsimp only; exact wpAny_pure (fin h' sb r)
/-- found.add(k) -/
theorem setM_add {k : Key} {v : Value} {Q : Value → Shared → Prop} (hv : keyIs k v = true) (R : SetM w s.heap a S n) (room : n + 1 < scanBound)
    (hQ : ∀ h', Heap.SameBut a s.heap h' → SetM w h' a (fun j => S j || decide (j = k)) (if S k = true then n else n + 1) → Q .none { s with heap := h', toks := s.toks + 1 }) :
    wpAny (model P w) A (call (.builtin "set.add") [.ref a, v]) Q E s := by
  have hS : s.heap.SetOf (mixKind P w) a S n := R.setOf
  refine wpAny_call_entry F.slot_set_add hS.typeIs F.entry_set_add ?_ (F.args_set_add_2 _ _)
  unfold Builtin.«set.add» Builtin.Frozenset.oneOther
  simp only [List.isEmpty_nil, bind_assoc]
  unfold Builtin.Frozenset.addrOf setAdd
  refine wpAny_bind (wpAny_pure ?_)
  try dsimp only
  refine wpAny_bind (wpAny_pure ?_)
  try dsimp only
  refine wpAny_bind (wpAny_holding (wpAny_bind ((mixKind P w).pyHash (show (mixKind P w).is k v = true from hv) ?_)))
  refine setM_hashed (s := { s with toks := s.toks + 1 }) hv R room fun h' sb r => ?_
  show wpAny _ _ (ret Value.none) _ _ _
  exact wpAny_pure ⟨_, rfl, hQ h' sb r⟩
theorem setM_fresh {h : Heap} (w : World) : SetM w (h.push { cls := .type "set", dict := none, data := .set #[] 0 (.fresh 0 0 (!w.params.followText "set-order")) }) h.objs.size (fun _ => false) 0 :=
  ⟨_, #[], 0, _, Heap.get?_push_size _ rfl, ⟨rfl, rfl, rfl⟩, rfl, (fun e he => by simp at he), (by simp), (fun k => by simp), ⟨by decide, by rfl⟩, rfl, List.Pairwise.nil, by
    show _ ∨ (!w.params.followText "set-order") = true
    cases w.params.followText "set-order" <;> simp⟩
end
end DL
/-! DLz: set(list), set(tuple), sorted(a set), of keys. -/
namespace DL
open PySem PySem.Spec PyProof.Rows L2
abbrev frS (w : World) : Obj := { cls := .type "set", dict := none, data := .set #[] 0 (.fresh 0 0 (!w.params.followText "set-order")) }
section
variable {P : Program} {w : World} {A : Around} {E : Value → Shared → Prop} {s : Shared}
def inK (ks : List Key) (k : Key) : Bool := ks.any fun x => decide (x = k)
theorem inK_iff {ks : List Key} {k : Key} : inK ks k = true ↔ k ∈ ks := by
  unfold inK
  rw [List.any_eq_true]
  exact ⟨fun ⟨x, hx, q⟩ => (of_decide_eq_true q) ▸ hx, fun h => ⟨k, h, decide_eq_true rfl⟩⟩
theorem setM_loop {I : Addr} {fp wr : List Addr} {G : Array GenState → Array GenState → Prop} {n : Nat} {Pv : Nat → Value → Prop} {St : Nat → Shared → Prop} {R : Result → Shared → Prop}
    (W : WalksS P w A.in1 I fp wr G n Pv St) (D : Addr) (nD : D ∉ fp) (ks : List Key) (hn : n = ks.length) (hb : ks.length + 1 < scanBound) (hval : ∀ i v, Pv i v → ∃ k, ks[i]? = some k ∧ keyIs k v = true) :
    ∀ (j i : Nat) (s : Shared), n - i = j → i ≤ n → St i s → (∃ c, c ≤ i ∧ SetM w s.heap D (fun k => inK (ks.take i) k) c) →
      (∀ s' c, Moved (D :: wr) G s s' → c ≤ n → SetM w s'.heap D (fun k => inK ks k) c → R (.ok (.ret .none)) s') → codeAny (model P w) A (.builtin "set.update.loop" ⟨[.ref D, .ref I], []⟩) R s := by
  have nw : D ∉ wr := fun h => nD (W.sub _ h)
  have up : ∀ b ∈ wr, b ∈ D :: wr := fun b hb => List.mem_cons_of_mem _ hb
  intro j
  induction j with
  | zero =>
    intro i s hj hi hst ⟨c, hc, hS⟩ hR
    have ei : i = n := by omega
    subst ei
    refine codeAny_builtin F.entry_set_update_loop ?_
    rw [Around.under_plainId F.plain_set_update_loop _]
    show wpAny _ A.in1 (pyNext (.ref I) >>= _) _ _ s
    refine wpAny_bind (W.done s _ _ hst fun s' hm => ?_)
    show wpAny _ A.in1 (ret Value.none) _ _ s'
    rw [show ks.take i = ks from List.take_of_length_le (by omega)] at hS
    exact wpAny_pure (hR s' c (hm.mono up) hc (hS.keep fun o e => hm.heap D o nw e))
  | succ j ih =>
    intro i s hj hi hst ⟨c, hc, hS⟩ hR
    have hlt : i < n := by omega
    refine codeAny_builtin F.entry_set_update_loop ?_
    rw [Around.under_plainId F.plain_set_update_loop _]
    show wpAny _ A.in1 (pyNext (.ref I) >>= _) _ _ s
    refine wpAny_bind (W.item i s _ _ hlt hst fun v s' hP hst' hm => ?_)
    obtain ⟨k, hk, kv⟩ := hval i v hP
    have hS' : SetM w s'.heap D (fun k => inK (ks.take i) k) c := hS.keep fun o e => hm.heap D o nw e
    show wpAny _ A.in1 (holding [v] (setAdd D v) >>= _) _ _ s'
    refine wpAny_bind (wpAny_holding ?_)
    unfold setAdd
    refine wpAny_holding (wpAny_bind ((mixKind P w).pyHash (k := k) (show (mixKind P w).is k v = true from kv) ?_))
    refine setM_hashed (s := { s' with toks := s'.toks + 1 }) kv hS' (by omega) fun h' sb hS2 => ?_
    have hS3 : SetM w h' D (fun x => inK (ks.take (i + 1)) x) (if inK (ks.take i) k = true then c else c + 1) := hS2.cast (fun x => by
      rw [List.take_add_one, hk]
      unfold inK
      rw [List.any_append]
      have e : decide (k = x) = decide (x = k) := decide_eq_decide.mpr ⟨Eq.symm, Eq.symm⟩
      simp [e]) rfl
    have hc3 : (if inK (ks.take i) k = true then c else c + 1) ≤ i + 1 := by split <;> omega
    refine wpAny_pure ⟨plainId_quiet F.plain_set_update_loop _, ih (i + 1) _ (by omega) hlt (W.frame _ s' _ _ hst' (Nat.le_succ _) fun b hb o e => ?_) ⟨_, hc3, hS3⟩ fun s'' c2 m2 hc2 hS4 => ?_⟩
    · rw [sb.2 b (fun z : b = D => nD (by rw [← z]; exact hb))]; exact e
    · refine hR s'' c2 (Moved.trans W.gtrans ((hm.mono up).then_heap (Nat.le_succ _) fun b o hb e => ?_) m2) hc2 hS4
      rw [sb.2 b (fun z : b = D => hb (by rw [z]; exact List.mem_cons_self))]; exact e
theorem setM_at {h : Heap} {a : Addr} {ks : List Key} (ho : h.get? a = some (frS w)) : SetM w h a (fun k => inK (ks.take 0) k) 0 :=
  ⟨_, #[], 0, _, ho, ⟨rfl, rfl, rfl⟩, rfl, (fun e he => by simp at he), (by simp), (fun k => by simp [inK]), ⟨by decide, by rfl⟩, rfl, List.Pairwise.nil, by
    show _ ∨ (!w.params.followText "set-order") = true
    cases w.params.followText "set-order" <;> simp⟩
set_option maxHeartbeats 8000000 in
theorem setM_of_list {l : Addr} {items : Array Value} (ks : List Key) {Q : Value → Shared → Prop} (hh : A.handled = none) (hl : s.heap.IsList l items) (hsz : items.size = ks.length) (hb : ks.length + 1 < scanBound)
    (hval : ∀ (i : Nat) (v : Value), items[i]? = some v → ∃ k, ks[i]? = some k ∧ keyIs k v = true)
    (h : ∀ (h' : Heap) (tk c : Nat), SetM w h' s.heap.objs.size (fun k => inK ks k) c → c ≤ ks.length → (∀ b o, s.heap.get? b = some o → h'.get? b = some o) → Q (.ref s.heap.objs.size) { s with heap := h', toks := tk }) :
    wpAny (model P w) A (call (.type "set") [.ref l]) Q E s := by
  obtain ⟨c, tl, hmro⟩ := F.called_set.mro
  have hmade := F.called_set.made
  have hsub := F.called_set.sub
  refine wpAny_call (codeAny_of_tree ?_)
  show wpAny _ _ (callAny (.type "set") _) _ _ _
  refine wpAny_pure ⟨Code.quiet_builtin _ (by decide +kernel), codeAny_builtin F.entry_type_call ?_⟩
  rw [Around.under_plain (weight_type_call_type "set" [.ref l] []) rfl]
  have h1 := F.called_set.notType
  have h2 := F.called_set.canCreate
  have hct := F.typeCall_set_1 (.ref l)
  repeat (any_goals (first | assumption | wp_step))
  refine codeAny_mono (code_set_led1 (.ref l) (E := E) (Q₁ := fun obj s1 => obj = .ref s.heap.objs.size ∧ s1 = { s with heap := s.heap.push (frS w) }) ⟨rfl, rfl⟩) fun r s1 hr => ?_
  cases r with
  | error e => exact hr
  | ok fl =>
    cases fl with
    | ret obj =>
      obtain ⟨rfl, rfl⟩ := hr
      have hS : (s.heap.push (frS w)).get? s.heap.objs.size = some (frS w) := Heap.get?_push_size _ rfl
      have hT : Shared.TypeIs { s with heap := s.heap.push (frS w) } (.ref s.heap.objs.size) "set" := ⟨_, hS, rfl⟩
      have hli := F.called_set.init.lookup
      have hbi := F.called_set.init.bind (.ref s.heap.objs.size)
      repeat (any_goals (first | assumption | wp_step))
      refine codeAny_mono (codeAny_call_builtin (R := wants (fun r s2 => r = .none ∧ ∃ h' tk c, s2 = { s with heap := h', toks := tk } ∧ SetM w h' s.heap.objs.size (fun k => inK ks k) c ∧ c ≤ ks.length ∧
          (∀ b o, s.heap.get? b = some o → h'.get? b = some o)) E) F.called_set.init.plain F.entry_set_init (check_set_init_1 hT ?_)) fun r2 s2 hr2 => ?_
      · obtain ⟨ol, hol, hcl, nl, hdl⟩ := hl
        obtain ⟨ocls, odict, odata, oslots⟩ := ol
        simp only at hcl hdl
        subst hcl; subst hdl
        have hol' : (s.heap.push (frS w)).get? l = some { cls := .type "list", dict := odict, data := .seq items nl, slots := oslots } := Heap.get?_push_of_some _ hol
        have hsls := F.sub_list_set
        have hslf := F.sub_list_frozenset
        have hne : (Value.type "list" == Value.type "dict") = false := by decide
        have hl1 : (s.heap.push (frS w)).IsList l items := ⟨_, hol', rfl, nl, rfl⟩
        unfold Builtin.«set.__init__» noKeywords Builtin.Frozenset.updateFrom
        generalize hPI : pyIter = PI
        wp_walk
        subst hPI
        refine wpAny_pyIter_list hl1 (wpAny_bind (wpAny_runValue ?_))
        have hlS : l < s.heap.objs.size := Heap.lt_size hol
        have hh3 : A.in1.in1.in1.handled = none := by simp [hh]
        have hneI : l ≠ (s.heap.push (frS w)).objs.size := by rw [Heap.size_push]; exact Nat.ne_of_lt (Nat.lt_succ_of_lt hlS)
        have hSf : s.heap.objs.size ∉ [(s.heap.push (frS w)).objs.size, l] := by
          rw [Heap.size_push]; simp only [List.mem_cons, List.mem_singleton, List.not_mem_nil, or_false, not_or]
          exact ⟨Nat.ne_of_lt (Nat.lt_succ_self _), Nat.ne_of_gt hlS⟩
        refine setM_loop ((Walks.list hh3 _ l hneI items).toS) s.heap.objs.size hSf ks hsz hb hval (items.size - 0) 0 _ (by omega) (Nat.zero_le _) ⟨⟨_, Heap.get?_push_size _ rfl, rfl, rfl⟩, (hl1.push _)⟩ ?hS0 ?hR
        case hS0 =>
          have hget : ((s.heap.push (frS w)).push { cls := .type "list_iterator", data := .fields #[.ref l, .int 0 0] }).get? s.heap.objs.size = some (frS w) := Heap.get?_push_of_some _ hS
          exact ⟨0, Nat.le_refl 0, setM_at hget⟩
        case hR =>
          intro s' c' hm hc' hS'
          obtain ⟨h', g2, d', tk', os'⟩ := s'
          have eg : g2 = s.gens := hm.gens
          have ed : d' = s.drawn := hm.drawn
          have eo : os' = s.os := hm.os
          subst eg; subst ed; subst eo
          show wpAny _ _ _ _ _ _
          refine wpAny_pure ?_
          show wpAny _ _ (ret Value.none) _ _ _
          rw [hsz] at hc'
          refine wpAny_pure ⟨rfl, h', tk', c', rfl, hS', hc', fun b o e => ?_⟩
          have hb0 : b < s.heap.objs.size := Heap.lt_size e
          have hb1 : b ≠ s.heap.objs.size := Nat.ne_of_lt hb0
          have hb2 : b ≠ (s.heap.push (frS w)).objs.size := by rw [Heap.size_push]; exact Nat.ne_of_lt (Nat.lt_succ_of_lt hb0)
          exact hm.heap b o (by simp only [List.mem_cons, List.mem_singleton, List.not_mem_nil, or_false, not_or]; exact ⟨hb1, hb2⟩) (Heap.get?_push_of_some _ (Heap.get?_push_of_some _ e))
      · cases r2 with
        | error e => exact hr2
        | ok fl2 =>
          cases fl2 with
          | ret r =>
            obtain ⟨rfl, h', tk, c', rfl, hS', hc', hk'⟩ := hr2
            repeat (any_goals (first | assumption | wp_step))
            exact h _ _ _ hS' hc' hk'
          | _ => exact hr2.elim
    | _ => exact hr.elim
/-! ### sorted -/
def KeysAs (vs : List Value) (ks : List Key) : Prop := PySem.W.EachIs (fun v k => keyIs k v = true) vs ks
theorem keys_of {w : World} : ∀ {l : List (Int × Value)}, (∀ e ∈ l, OkE w e) → KeysAs (l.map (·.2)) (l.map kOf)
  | [], _ => .nil
  | e :: l, h => .cons ((okE_is (h e (List.mem_cons_self ..)) _).2 rfl) (keys_of fun x hx => h x (List.mem_cons_of_mem _ hx))
/-- the keys of a row of values -/
def vKey : Value → Key
  | .int i _ => .inl i
  | .str z _ => .inr z
  | _ => .inl 0
theorem vKey_is {k : Key} {v : Value} (h : keyIs k v = true) : vKey v = k := by
  rcases keyIs_shape h with ⟨i, t, rfl, rfl⟩ | ⟨x, t, rfl, rfl⟩ <;> rfl
theorem keysAs_map : ∀ {vs : List Value}, (∀ v ∈ vs, ∃ k, keyIs k v = true) → KeysAs vs (vs.map vKey)
  | [], _ => .nil
  | v :: vs, h => by
    obtain ⟨k, hk⟩ := h v (List.mem_cons_self ..)
    exact .cons (by rw [vKey_is hk]; exact hk) (keysAs_map fun x hx => h x (List.mem_cons_of_mem _ hx))
theorem key_reads {h : Heap} {k : Key} {v : Value} (e : keyIs k v = true) : Reads h v (keyP k) [] := by
  rcases keyIs_shape e with ⟨i, t, rfl, rfl⟩ | ⟨x, t, rfl, rfl⟩
  · exact Reads.int i t
  · exact Reads.str x t
theorem each_imp {α β : Type} {R S : α → β → Prop} (f : ∀ a b, R a b → S a b) : ∀ {xs : List α} {ys : List β}, PySem.W.EachIs R xs ys → PySem.W.EachIs S xs ys
  | _, _, .nil => .nil
  | _, _, .cons r t => .cons (f _ _ r) (each_imp f t)
def KeysSort (ks : List Key) : Prop := PySem.W.AllAlike (ks.map keyP)
theorem keyP_depth (k : Key) : (keyP k).depth ≤ 1 := by cases k <;> simp [keyP, PyData.depth]
theorem key_sortable (ks : List Key) : PySem.W.Sortable (ks.map keyP) := .inr fun d hd => by
  obtain ⟨k, _, rfl⟩ := List.mem_map.mp hd
  cases k
  · exact ⟨(fun z => nomatch z), fun xs z => nomatch z⟩
  · exact ⟨(fun z => nomatch z), fun xs z => nomatch z⟩
def leK (a b : Key) : Bool := !PySem.W.dataLt (keyP b) (keyP a)
theorem sorted_setM {a : Addr} {S : Key → Bool} {n : Nat} {Q : Value → Shared → Prop} (R : SetM w s.heap a S n) (hh : A.handled = none) (hu : A.units + 80 < cLine) (hal : ∀ ks : List Key, (∀ k, k ∈ ks ↔ S k = true) → KeysSort ks)
    (hQ : ∀ s' p (out : Array Value) (c : Nat) (ks : List Key), (∀ b o, s.heap.get? b = some o → s'.heap.get? b = some o) → s'.gens = s.gens → s'.os = s.os → s.heap.objs.size ≤ p →
      s'.heap.get? p = some (seqObj "list" out c) → KeysAs out.toList (ks.mergeSort leK) → ks.Nodup → (∀ k, k ∈ ks ↔ S k = true) → ks.length = n → n ≤ sizeLine → Q (.ref p) s') :
    wpAny (model P w) A (call (.builtin "sorted") [.ref a]) Q E s := by
  obtain ⟨o, es, ep, t, ho, hex, hd, g, nd, hm, ⟨hb, hf⟩, hn, hr, hl⟩ := R
  refine Calls.call_function_entry kind_sorted plain_sorted entry_sorted (args_sorted1 _) ?_
  unfold Builtin.«sorted»
  refine wpAny_bind (m := checkCount "sorted" 1 1 _) (wpAny_pure ?_)
  refine wpAny_bind (collect_set (A := A.in1) hh ⟨o, ho, hex.1, hd⟩ hf hb hr hl fun s1 vs k1 hz g1 o1 pm => ?_)
  have hvl : vs.length = n := by rw [pm.length_eq, List.length_map, Array.length_toList]; exact hn
  have hns : n ≤ sizeLine := by rw [← hn]; exact fits_of_scanBound hb
  have hK : KeysAs vs (vs.map vKey) := keysAs_map fun v hv => by
    obtain ⟨e, he, q⟩ := List.mem_map.mp (pm.mem_iff.mp hv)
    obtain ⟨k, q1, _⟩ := g e he
    exact ⟨k, by rw [← q]; exact q1⟩
  have pk : (vs.map vKey).Perm (es.toList.map kOf) := by
    have q := pm.map vKey
    rw [List.map_map] at q
    exact q
  have hmem : ∀ k, k ∈ vs.map vKey ↔ S k = true := fun k => by rw [pk.mem_iff, ← hm k]
  refine wpAny_bind (wpAny_newList ?_ (by rw [hvl]; exact hns))
  have hoL : (s1.heap.push (seqObj "list" vs.toArray 0)).get? s1.heap.objs.size = some (seqObj "list" vs.toArray 0) := Heap.get?_push_size _ rfl
  refine wpAny_bind (wpAny_holding (PySem.W.list_sort_data (enc := keyP) hoL hK (each_imp (fun v k e => ⟨[], key_reads e, by simp⟩) hK) (hal _ hmem) (key_sortable _) (by rw [List.length_map, hvl]; exact hns) (fun k _ => ?_) fun out hol he => ?_))
  · have := keyP_depth k
    show A.units + 1 + 1 + _ < _
    omega
  · obtain ⟨c, hc⟩ := sortedHeap_at (vs := vs) (out := out.toArray) hoL
    refine wpAny_pure ⟨_, rfl, hQ _ s1.heap.objs.size out.toArray c (vs.map vKey) (fun b u e => ?_) g1 o1 hz hc (by
      have e0 : (vs.map vKey).mergeSort (PySem.W.dataLe false keyP) = (vs.map vKey).mergeSort leK := rfl
      rw [e0] at he
      exact he) (pk.nodup_iff.mpr nd) hmem (by rw [List.length_map]; exact hvl) hns⟩
    have q := k1 b u e
    have hlt := Heap.lt_size q
    show (sortedHeap (s1.heap.push (seqObj "list" vs.toArray 0)) s1.heap.objs.size vs out.toArray).get? b = some u
    rw [sortedHeap_old (Nat.ne_of_lt hlt) (by rw [size_push']; exact Nat.lt_succ_of_lt hlt)]
    exact Heap.get?_push_of_some _ q
end
end DL
/-! DLsc: {e for a in xs for b in ys} of keys. -/
namespace DL
open PySem PySem.Spec PyProof.Rows L2

/-! ### one loop of a set comprehension, whatever its turn does -/
def turnC (p : Pos) (tg : Expr) (ifs : List Expr) (body : Sem PySem.Fin) (nxt : Code) (it : Value) (env : Env) : Sem PySem.Fin := do
  standAt p
  match ← pyNext it with
  | none => pure (.done .next)
  | some v =>
    letOwnedTupleGo tg it v
    assign tg env v
    let mut ok := true
    for c in ifs do
      if ok then ok ← isTrue c env (eval c env)
    if ok then body else again nxt
abbrev gens2 (tg iter : Expr) (ifs : List Expr) (tg1 iter1 : Expr) (ifs1 : List Expr) : List Comprehension := [⟨tg, iter, ifs, 0⟩, ⟨tg1, iter1, ifs1, 0⟩]
theorem turn_out (elt tg iter tg1 iter1 : Expr) (ifs ifs1 : List Expr) (scope : Scope) (pos : Pos) (it acc : Value) (env : Env) :
    compTurn (.SetComp elt (gens2 tg iter ifs tg1 iter1 ifs1) scope pos) 0 it acc env = turnC iter.pos tg ifs (do
      let x ← eval iter1 env
      standAt iter1.pos
      let x ← foldedSetIterable iter1 env x
      let _ ← runOwn (.compStart (.SetComp elt (gens2 tg iter ifs tg1 iter1 ifs1) scope pos) 1 (← holding [x] (pyIter x)) acc env) env
      again (.compLoop (.SetComp elt (gens2 tg iter ifs tg1 iter1 ifs1) scope pos) 0 it acc env)) (.compLoop (.SetComp elt (gens2 tg iter ifs tg1 iter1 ifs1) scope pos) 0 it acc env) it env := by rfl
theorem turn_in (elt tg iter tg1 iter1 : Expr) (ifs ifs1 : List Expr) (scope : Scope) (pos : Pos) (it acc : Value) (env : Env) :
    compTurn (.SetComp elt (gens2 tg iter ifs tg1 iter1 ifs1) scope pos) 1 it acc env = turnC iter1.pos tg1 ifs1 (do
      (do let v ← eval elt env; standAt elt.pos; let _ ← call (.builtin "set.add") [acc, v])
      again (.compLoop (.SetComp elt (gens2 tg iter ifs tg1 iter1 ifs1) scope pos) 1 it acc env)) (.compLoop (.SetComp elt (gens2 tg iter ifs tg1 iter1 ifs1) scope pos) 1 it acc env) it env := by rfl
theorem wipe_out' {σ : L2.St} {i : Nat} {vs : List Nat} (h : i ∉ vs) : (wipe σ vs)[i]? = σ[i]? := L2.wipe_out h
section
variable {X : Cx} {elt : Expr} {gs : List Comprehension} {scope : Scope} {cpos p : Pos} {tg : Expr} {ifs : List Expr} {k : Nat} {acc : Value} {body : Sem PySem.Fin} {g : TG} {tt : TT}
theorem loop_set {J : L2.It} {fp : List Addr} {it : Addr} {tn : Nat → Heap → Prop} (hc : X.calm = true) (T : Turn X.prog X.w X.K tg J fp it tn) (pg : PG X tg g) (pt : PTs X ifs tt) (hxe : X.xe = fun _ _ => False)
    (un : compTurn (.SetComp elt gs scope cpos) k (.ref it) acc X.env = turnC p tg ifs body (.compLoop (.SetComp elt gs scope cpos) k (.ref it) acc X.env) (.ref it) X.env)
    {pins : List (Addr × Obj)} {σ0 : L2.St} {vs : List Nat} (Bt : L2.St → Hp → (Hp → Prop) → Prop)
    (hB : ∀ pins s σ H N, Inv X pins σ H s → Bt σ H N → wpAny (model X.prog X.w) X.A body (fun fin s' => fin = .again (.compLoop (.SetComp elt gs scope cpos) k (.ref it) acc X.env) ∧ ∃ σ' H', Inv X pins σ' H' s' ∧ σ'.length = σ.length ∧ (∀ (j : Nat) v, j ∉ vs → σ[j]? = some (some v) → σ'[j]? = some (some v)) ∧ N H') (fun _ _ => False) s)
    (W : Nat → Nat → Hp → Prop) (Fn : Hp → Prop) (hσ : wipe σ0 vs = σ0)
    (turn : ∀ i n H, W i n H → (J.stop i H ∧ Fn H) ∨ (J.go i H ∧ ∃ Nx : Hp → Prop, (∀ H', Nx H' → ∃ m, m < n ∧ W (i + 1) m H') ∧ ∀ x H', J.yld i H x H' → g x σ0 H' fun σ2 H2 => wipe σ2 vs = σ0 ∧ tt σ2 H2 fun b H3 => if b = true then Bt σ2 H3 Nx else Nx H3))
    {R : Result → Shared → Prop} (done : ∀ s' H', Inv X pins σ0 H' s' → Fn H' → R (.ok .next) s') {s : Shared} {H : Hp} {m0 : Nat}
    (I : Inv X pins σ0 H s) (st : tn 0 s.heap) (nfp : ∀ b ∈ fp, H b = none) (stat : ∀ H', (∀ b ∈ fp, H' b = none) → ∀ b ∈ fp, FpOk X pins H' b) (w0 : W 0 m0 H) :
    codeAny (model X.prog X.w) X.A (.compLoop (.SetComp elt gs scope cpos) k (.ref it) acc X.env) R s := by
  refine codeAny_loop rfl (fun n s' => ∃ i H', Inv X pins σ0 H' s' ∧ tn i s'.heap ∧ (∀ b ∈ fp, H' b = none) ∧ W i n H') ?_ m0 ⟨0, H, I, st, nfp, w0⟩
  rintro n s5 ⟨i, H5, I5, st5, n5, w5⟩
  show wpAny _ X.A ((compTurn (.SetComp elt gs scope cpos) k (.ref it) acc X.env).onRaise (fun x => do noteFrame x X.env; theTreesLotGoes x)) _ _ s5
  refine wpAny_noted ?_
  rw [un]
  unfold turnC
  refine wpAny_bind (wpAny_standAt (wpAny_bind ?_))
  rcases turn i n H5 w5 with ⟨stop, qq⟩ | ⟨go, Nx, hNx, step⟩
  · refine thnF (T.done X rfl rfl rfl hc i pins s5 σ0 H5 (fun _ _ => False) I5 (stat H5 n5) st5 stop) fun r s6 ⟨hr, I6⟩ => ?_
    subst hr
    exact wpAny_pure (done s6 H5 I6 qq)
  · refine thnF (T.item X rfl rfl rfl hc i pins s5 σ0 H5 (fun _ _ => False) I5 (stat H5 n5) st5 go) fun r s6 ⟨u, hr, h6⟩ => ?_
    subst hr
    refine wpAny_bind (thnF h6 fun _ s7 ⟨x, H7, I7, r7, y7, st7, n7⟩ => ?_)
    have I7' := I7.pinned (stat H7 n7) (T.obj _ _ st7)
    have pgr := pg.run _ s7 σ0 H7 x u _ I7' r7 (step x H7 y7)
    rw [hxe] at pgr
    refine wpAny_bind (thnF pgr fun _ s8 ⟨σ8, H8, I8, hw8, q8⟩ => ?_)
    have ptr := pt.run _ s8 σ8 H8 _ I8 q8
    rw [hxe] at ptr
    refine wpAny_bind (thnF ptr fun b s9 ⟨H9, I9, q9⟩ => ?_)
    have fin : ∀ {σ9 : L2.St} {s' : Shared} {H' : Hp}, Inv X (pins ++ pinsAt fp s7.heap) σ9 H' s' → σ9.length = σ8.length → (∀ (j : Nat) v, j ∉ vs → σ8[j]? = some (some v) → σ9[j]? = some (some v)) → Nx H' →
        ∃ m, m < n ∧ ∃ i H', Inv X pins σ0 H' s' ∧ tn i s'.heap ∧ (∀ b ∈ fp, H' b = none) ∧ W i m H' := fun {σ9 s' H'} I' hl hk nx => by
      obtain ⟨m', hm, w'⟩ := hNx H' nx
      have pin' : ∀ b ∈ fp, ∀ o, s7.heap.get? b = some o → s'.heap.get? b = some o ∧ H' b = none := fun b hb o e =>
        have z := I'.pin (b, o) (List.mem_append_right _ (List.mem_append_right _ (mem_pinsAt hb e)))
        ⟨z.1, z.2.1⟩
      refine ⟨m', hm, i + 1, H', I'.unpinned.weak (by rw [hl, ← hw8, wipe_length]) (fun j v e => ?_), T.keep _ _ _ st7 fun b hb o e => (pin' b hb o e).1, fun b hb => ?_, w'⟩
      · rw [← hw8] at e
        obtain ⟨e1, e2⟩ := wipe_some e
        exact hk j v e2 e1
      · obtain ⟨o, e, _⟩ := T.obj _ _ st7 b hb
        exact (pin' b hb o e).2
    cases b with
    | false =>
      simp only [Bool.false_eq_true, if_false] at q9 ⊢
      exact wpAny_pure ⟨rfl, fin I9 rfl (fun _ _ _ e => e) q9⟩
    | true =>
      simp only [if_true] at q9 ⊢
      refine thnF (hB _ s9 σ8 H9 Nx I9 q9) fun f s10 ⟨hf, σ10, H10, I10, hl, hk, nx⟩ => ?_
      subst hf
      exact ⟨rfl, fin I10 hl hk nx⟩
end

/-! ### the set as a thing of the heap -/
def SetMO (w : World) (a : Addr) (S : Key → Bool) (n : Nat) : HO := .ext fun h => SetM w h a S n
section
variable {X : Cx} {pins : List (Addr × Obj)} {σ : L2.St} {H : Hp} {s : Shared}
theorem setMO_new {w : World} {P : Program} {H : Hp} {h : Heap} {a : Addr} {S : Key → Bool} {n : Nat} (R : SetM w h a S n) : ObjOk P w H h a (SetMO w a S n) := by
  have ⟨o, _, _, _, ho, _⟩ := R
  exact ⟨R, ⟨o, ho⟩, fun h1 h2 p k => p.keep k⟩
theorem setMO_get {a : Addr} {S : Key → Bool} {n : Nat} (I : Inv X pins σ H s) (ha : H a = some (SetMO X.w a S n)) : SetM X.w s.heap a S n := (I.hok a _ ha).1
theorem addM_ok {E : Value → Shared → Prop} {D : Addr} {S : Key → Bool} {n : Nat} {k : Key} {z : Value} {Q : Value → Shared → Prop} (I : Inv X pins σ H s) (hD : H D = some (SetMO X.w D S n)) (hr : n + 1 < scanBound) (hz : RelV (kV k) z)
    (hQ : ∀ s', Inv X pins σ (upd H D (SetMO X.w D (fun j => S j || decide (j = k)) (if S k = true then n else n + 1))) s' → Q .none s') : wpAny (model X.prog X.w) X.A (call (.builtin "set.add") [.ref D, z]) Q E s := by
  have hk : keyIs k z = true := kV_is (P := X.prog) (w := X.w) hz
  refine setM_add hk (setMO_get I hD) hr fun h' sb new => hQ _ ?_
  have he : ∃ u, h'.get? D = some u := have ⟨o, _, _, _, ho, _⟩ := new; ⟨o, ho⟩
  exact I.write (e := D) (t' := s.toks + 1) (by rw [hD]; trivial) (.inl rfl) (fun b u hb hu => (sb.2 b hb).trans hu) he (setMO_new new)
end
/-! ### the comprehension -/
abbrev tAd (w : World) (D : Addr) (y : V) (H : Hp) (N : Hp → Prop) : Prop := ∃ (k : Key) (S : Key → Bool) (n : Nat), y = kV k ∧ H D = some (SetMO w D S n) ∧ n + 1 < scanBound ∧ N (upd H D (SetMO w D (fun j => S j || decide (j = k)) (if S k = true then n else n + 1)))
abbrev tIn (w : World) (D : Addr) (te : TE) (σ : L2.St) (H : Hp) (N : Hp → Prop) : Prop := te σ H fun y H' => tAd w D y H' N
def tOut (w : World) (D : Addr) (wi1 : TI) (g1 : TG) (tt1 : TT) (te : TE) (vs1 : List Nat) (σ2 : L2.St) (H3 : Hp) (N : Hp → Prop) : Prop := wi1 σ2 H3 fun J1 H4 => ∃ W1 : Nat → Nat → Hp → Prop, (∃ m, W1 0 m H4) ∧ ∀ j n H, W1 j n H →
  (J1.stop j H ∧ N H) ∨ (J1.go j H ∧ ∃ Nx : Hp → Prop, (∀ H', Nx H' → ∃ m, m < n ∧ W1 (j + 1) m H') ∧ ∀ x H', J1.yld j H x H' → g1 x (wipe σ2 vs1) H' fun σ3 H5 => wipe σ3 vs1 = wipe σ2 vs1 ∧ tt1 σ3 H5 fun b H6 => if b = true then tIn w D te σ3 H6 Nx else Nx H6)
def tSc2 (w : World) (wi : TI) (g : TG) (tt : TT) (wi1 : TI) (g1 : TG) (tt1 : TT) (te : TE) (vs vs1 : List Nat) : TE := fun σ H Q => wi σ H fun J H1 => ∀ D, H1 D = none → ∃ W : Nat → Nat → Hp → Prop, (∃ m, W 0 m (upd H1 D (SetMO w D (fun _ => false) 0))) ∧ ∀ i n H, W i n H →
  (J.stop i H ∧ Q (.ref D) H) ∨ (J.go i H ∧ ∃ Nx : Hp → Prop, (∀ H', Nx H' → ∃ m, m < n ∧ W (i + 1) m H') ∧ ∀ x H', J.yld i H x H' → g x (wipe σ vs) H' fun σ2 H2 => wipe σ2 vs = wipe σ vs ∧ tt σ2 H2 fun b H3 => if b = true then tOut w D wi1 g1 tt1 te vs1 σ2 H3 Nx else Nx H3)
section
variable {prog : Program} {w : World} {A : Around} {R : Result → Shared → Prop} {s : Shared}
theorem start_in {elt tg iter tg1 iter1 : Expr} {ifs ifs1 : List Expr} {scope : Scope} {cpos : Pos} {it acc : Value} {env : Env} (h0 : codeAny (model prog w) A (.compLoop (.SetComp elt (gens2 tg iter ifs tg1 iter1 ifs1) scope cpos) 1 it acc env) R s)
    (h : wpAny (model prog w) A (pyIter it) (fun it' s' => codeAny (model prog w) A (.compLoop (.SetComp elt (gens2 tg iter ifs tg1 iter1 ifs1) scope cpos) 1 it' acc env) R s') (notedBy (model prog w) A env fun x s' => R (.error x) s') s) :
    codeAny (model prog w) A (.compStart (.SetComp elt (gens2 tg iter ifs tg1 iter1 ifs1) scope cpos) 1 it acc env) R s := by
  refine codeAny_of_tree ?_
  show wpAny _ _ ((compStart (.SetComp elt (gens2 tg iter ifs tg1 iter1 ifs1) scope cpos) 1 it acc env).onRaise (fun x => do noteFrame x env; standAt theWindowsPlace)) _ _ s
  refine wpAny_notedAt ?_
  unfold compStart
  show wpAny _ _ (ask >>= _) _ _ s
  refine wpAny_bind (wpAny_askSetting (wpAny_ite ?_))
  split
  · first | exact wpAny_bind (wpAny_pure (wpAny_pure (And.intro rfl h0))) | exact wpAny_pure (And.intro rfl h0)
  · refine wpAny_bind (wpAny_rule ?_)
    show wpAny _ _ (standAt iter1.pos >>= _) _ _ s
    exact wpAny_bind (wpAny_standAt (wpAny_bind (wpAny_mono h (fun it' s' h' => wpAny_pure (And.intro rfl h')) fun _ _ x => x)))
end
section
variable {X : Cx} {elt tg iter tg1 iter1 : Expr} {ifs ifs1 : List Expr} {scope : Scope} {own : List (Str × Nat)} {vs1 : List Nat} {cpos : Pos} {wi wi1 : TI} {g g1 : TG} {tt tt1 : TT} {te : TE}
/-- the second clause as the first one's turn, in the block's context -/
theorem out_runs {D : Addr} {k0 : Code} (hc : X.calm = true) (hxe : X.xe = fun _ _ => False) (hi1 : PI X tg1 iter1 wi1) (hg1 : PG X tg1 g1) (ht1 : PTs X ifs1 tt1) (he : PE X elt te) (hs1 : ∀ env x, foldedSetIterable iter1 env x = pure x)
    (pins : List (Addr × Obj)) (s : Shared) (σ : L2.St) (H : Hp) (N : Hp → Prop) (I : Inv X pins σ H s) (h : tOut X.w D wi1 g1 tt1 te vs1 σ H N) :
    wpAny (model X.prog X.w) X.A (do
      let x ← eval iter1 X.env
      standAt iter1.pos
      let x ← foldedSetIterable iter1 X.env x
      let _ ← runOwn (.compStart (.SetComp elt (gens2 tg iter ifs tg1 iter1 ifs1) scope cpos) 1 (← holding [x] (pyIter x)) (.ref D) X.env) X.env
      again k0) (fun fin s' => fin = .again k0 ∧ ∃ σ' H', Inv X pins σ' H' s' ∧ σ'.length = σ.length ∧ (∀ (j : Nat) v, j ∉ vs1 → σ[j]? = some (some v) → σ'[j]? = some (some v)) ∧ N H') (fun _ _ => False) s := by
  have hir := hi1.run pins s σ H _ I h
  rw [hxe] at hir
  refine wpAny_bind (thnF hir fun x s1 hx => wpAny_bind (wpAny_standAt (wpAny_bind (wpAny_of_eq (hs1 X.env x) (wpAny_bind (wpAny_holding (thnF hx fun itv s2 h2 => ?_)))))))
  obtain ⟨it, fp, tn, J, H2, e, I2, T, st2, f2, W1, ⟨m1, w1⟩, turn1⟩ := h2
  subst e
  refine wpAny_bind (wpAny_runOwn ?_ (by intro z; cases z))
  rw [Around.mark_none]
  have hσ : wipe (wipe σ vs1) vs1 = wipe σ vs1 := by
    refine List.ext_getElem? fun j => ?_
    by_cases hj : j ∈ vs1
    · rw [wipe_in hj, wipe_in hj, wipe_length]
    · rw [DL.wipe_out' hj]
  have lp : codeAny (model X.prog X.w) X.A (.compLoop (.SetComp elt (gens2 tg iter ifs tg1 iter1 ifs1) scope cpos) 1 (.ref it) (.ref D) X.env) (fun r s' => match r with
      | .ok _ => ∃ H', Inv X pins (wipe σ vs1) H' s' ∧ N H'
      | .error _ => False) s2 :=
    loop_set hc T hg1 ht1 hxe (turn_in elt tg iter tg1 iter1 ifs ifs1 scope cpos (.ref it) (.ref D) X.env) (vs := vs1) (tIn X.w D te) (fun pins' s' σ' H' N' I' h' => by
        have her := he.run pins' s' σ' H' _ I' h'
        rw [hxe] at her
        refine wpAny_bind (wpAny_bind (thnF her fun z s3 ⟨y, H3, I3, r3, k, S, n, ey, hD3, hn, nx⟩ => wpAny_bind (wpAny_standAt (wpAny_bind ?_))))
        subst ey
        exact addM_ok I3 hD3 hn r3 fun s4 I4 => wpAny_pure (wpAny_pure ⟨rfl, σ', _, I4, rfl, fun _ _ _ e => e, nx⟩))
      W1 N hσ turn1 (fun s' H' I' n' => ⟨H', I', n'⟩) (I2.weak (wipe_length _ _) fun j v e => (wipe_some e).1) st2 (fun b hb => (f2 b hb).1) (fun H' hn b hb => ⟨hn b hb, (f2 b hb).2⟩) w1
  refine codeAny_mono (start_in lp (T.self X.A 0 _ _ _ st2 lp)) fun r s' hr => ?_
  cases r with
  | ok f =>
    obtain ⟨H', I', n'⟩ := hr
    refine wpAny_pure ⟨rfl, wipe σ vs1, H', I', wipe_length _ _, fun j v hj e => ?_, n'⟩
    rw [DL.wipe_out' hj]; exact e
  | error e => exact hr.elim
theorem pe_sc2 (hc : X.calm = true) (hN : X.N.Nodup) (hi : PI X tg iter wi) (ok : BlkOk X.N X.env.scope scope own) (hv : ∀ i ∈ vs1, i ∈ own.map (·.2)) (hg : ∀ i : BI, PG (i.cx X scope) tg g) (ht : ∀ i : BI, PTs (i.cx X scope) ifs tt)
    (hi1 : ∀ i : BI, PI (i.cx X scope) tg1 iter1 wi1) (hg1 : ∀ i : BI, PG (i.cx X scope) tg1 g1) (ht1 : ∀ i : BI, PTs (i.cx X scope) ifs1 tt1) (he : ∀ i : BI, PE (i.cx X scope) elt te)
    (hs : ∀ x, foldedSetIterable iter X.env x = pure x := by intro _; rfl) (hs1 : ∀ env x, foldedSetIterable iter1 env x = pure x := by intro _ _; rfl) :
    PE X (.SetComp elt (gens2 tg iter ifs tg1 iter1 ifs1) scope cpos) (tSc2 X.w wi g tt wi1 g1 tt1 te (own.map (·.2)) vs1) := by
  refine ⟨fun pins s σ H Q I h => ?_⟩
  rw [show eval (.SetComp elt (gens2 tg iter ifs tg1 iter1 ifs1) scope cpos) X.env = comprehension (.SetComp elt (gens2 tg iter ifs tg1 iter1 ifs1) scope cpos) scope X.env (firstIterPos (gens2 tg iter ifs tg1 iter1 ifs1) cpos) (newSet (.type "set")) (firstAsync (gens2 tg iter ifs tg1 iter1 ifs1)) (firstIter (gens2 tg iter ifs tg1 iter1 ifs1) X.env) from rfl]
  have free : ∀ y ∈ scope.names, y.2 = .free → ∃ c, X.env.cells.lookup y.1 = some c := fun y hy e => (ok.free y hy e).elim (fun k => I.ok.has _ (.inl k)) fun k => I.ok.has _ (.inr k)
  refine wpAny_comprehension_free (use := none) rfl hs (closure_ok free) ok.kind (fun y hy e => by rw [ok.uniq y hy, e]) (thn (hi.run pins s σ H _ I h) fun xv s1 hx => thn hx fun itv s2 h2 => ?_)
  obtain ⟨it, fp, tn, J, H2, e, I2, T, st2, f2, q⟩ := h2
  subst e
  refine PpSet.newSet_ok (newEnv_comp ?_)
  generalize hD : s2.heap.objs.size = D
  have hDn : H2 D = none := I2.hok.fresh (Nat.le_of_eq hD)
  obtain ⟨W, ⟨m0, w0⟩, turn⟩ := q D hDn
  generalize hs3 : ({ s2 with heap := s2.heap.push (frS X.w) } : Shared) = s3
  have h3 : s3.heap = s2.heap.push (frS X.w) := by rw [← hs3]
  have I3 : Inv X pins σ (upd H2 D (SetMO X.w D (fun _ => false) 0)) s3 := by
    rw [← hs3]
    refine I2.laid (t' := s2.toks) (fun b o e => Heap.get?_push_of_some _ e) (Nat.le_of_eq hD) ?_
    rw [← hD]
    exact setMO_new (setM_fresh X.w)
  generalize hH3 : upd H2 D (SetMO X.w D (fun _ => false) 0) = H3 at I3 w0
  have f3 : ∀ b ∈ fp, FpOk X pins H3 b ∧ b < s3.heap.objs.size := fun b hb => by
    obtain ⟨o, e, _⟩ := T.obj _ _ st2 b hb
    have lt := Heap.lt_size e
    refine ⟨⟨?_, (f2 b hb).2⟩, by rw [h3, Heap.size_push]; exact Nat.lt_succ_of_lt lt⟩
    rw [← hH3, upd_ne (by rw [← hD]; exact Nat.ne_of_lt lt)]
    exact (f2 b hb).1
  have st3 : tn 0 s3.heap := T.keep _ _ _ st2 fun b _ o e => by rw [h3]; exact Heap.get?_push_of_some _ e
  have I4 := block_start I3 ok hN f3
  let bi : BI := ⟨s3, H3, s3.heap.objs.size, cellsFrom (s3.heap.objs.size + 1) scope.names (cloFrom X.env.cells scope.names []), fp⟩
  have cL : (bi.cx X scope).env.locals = s3.heap.objs.size := rfl
  have I4 : Inv (bi.cx X scope) [] (wipe σ (own.map (·.2))) H3 { s3 with heap := pushCells (s3.heap.push { cls := .type "dict", data := .dict #[] }) scope.names } := I4
  have hσ : wipe (wipe σ (own.map (·.2))) (own.map (·.2)) = wipe σ (own.map (·.2)) := by
    refine List.ext_getElem? fun j => ?_
    by_cases hj : j ∈ own.map (·.2)
    · rw [wipe_in hj, wipe_in hj, wipe_length]
    · rw [DL.wipe_out' hj]
  show codeAny _ _ (.compStart (.SetComp elt (gens2 tg iter ifs tg1 iter1 ifs1) scope cpos) 0 (.ref it) (.ref D) (bi.cx X scope).env) (compPost (model X.prog X.w) X.A X.xe none _ (.ref D) s3.heap.objs.size) { s3 with heap := pushCells (s3.heap.push { cls := .type "dict", data := .dict #[] }) scope.names }
  have st4 : tn 0 (pushCells (s3.heap.push { cls := .type "dict", data := .dict #[] }) scope.names) := T.keep _ _ _ st3 fun b _ o e => pushCells_keeps _ _ _ _ (Heap.get?_push_of_some _ e)
  have stat : ∀ H', (∀ b ∈ fp, H' b = none) → ∀ b ∈ fp, FpOk (bi.cx X scope) [] H' b := fun H' hn b hb => ⟨hn b hb, (I4.ok.exf b hb).1, I4.ok.exfs b hb, .inl hb, fun x c e => (I4.ok.exf b hb).2 x c e, fun p hp => absurd (show p ∈ ([] : List (Addr × Obj)) ++ [] from hp) (by simp)⟩
  have lp : codeAny (model X.prog X.w) X.A (.compLoop (.SetComp elt (gens2 tg iter ifs tg1 iter1 ifs1) scope cpos) 0 (.ref it) (.ref D) (bi.cx X scope).env) (compPost (model X.prog X.w) X.A X.xe none (EP X pins σ Q) (.ref D) s3.heap.objs.size) { s3 with heap := pushCells (s3.heap.push { cls := .type "dict", data := .dict #[] }) scope.names } := by
    refine loop_set (X := bi.cx X scope) hc T (hg bi) (ht bi) rfl (turn_out elt tg iter tg1 iter1 ifs ifs1 scope cpos (.ref it) (.ref D) (bi.cx X scope).env) (vs := own.map (·.2)) (tOut X.w D wi1 g1 tt1 te vs1) (fun pins' s' σ' H' N' I' h' => ?_)
      W (fun H' => Q (.ref D) H') hσ turn (fun s' H' I' q' => ?_) I4 st4 (fun b hb => (f3 b hb).1.1) stat w0
    · refine thnF (out_runs (X := bi.cx X scope) hc rfl (hi1 bi) (hg1 bi) (ht1 bi) (he bi) hs1 pins' s' σ' H' N' I' h') fun f s5 ⟨h1, σ5, H5, I5, h2, h4, h5⟩ => ⟨h1, σ5, H5, I5, h2, fun j v hj e => h4 j v (fun z => hj (hv j z)) e, h5⟩
    · have I7 : Inv X pins σ H' s' := I3.call' (ch := fp) I'.os I'.base I'.hok I'.bare fun b hb => ⟨(f3 b hb).1.2.2.2.1, (f3 b hb).1.2.1, (f3 b hb).1.2.2.2.2.1, (f3 b hb).1.2.2.2.2.2⟩
      have nC : H' s3.heap.objs.size = none := I'.free
      obtain ⟨m, hn, _⟩ := I'.loc
      obtain ⟨f0, f1, f4, f5, f6, f7⟩ := I3.fpOk (Nat.le_refl _) nC
      exact ⟨m, hn, fun h'' sb => ⟨.ref D, H', I7.turned (t' := s'.toks) (fun b o hb e => (sb.2 b hb).trans e) f0 f1 f5 f6 f7, rfl, q'⟩⟩
  exact PpSet.codeAny_compStart_set lp (T.self X.A 0 _ _ _ st4 lp)
end
end DL
/-! DLse: sorted({..}), sorted(set(xs)), over keys. -/
namespace DL
open PySem PySem.Spec PyProof.Rows L2

/-! ### keys are ordered -/
abbrev tkK (k : Key) : List (Int ⊕ List Nat) := PySem.W.keyToks (keyP k)
theorem leK_eq (a b : Key) : leK a b = !PyProof.Rows.lexLt PyProof.Rows.itemOrd (tkK b) (tkK a) := rfl
theorem tkK_inj {a b : Key} (e : tkK a = tkK b) : a = b := by
  cases a <;> cases b <;> simp only [tkK, keyP, PySem.W.keyToks] at e
  · injection e with e _
    cases e
    rfl
  · injection e with e _
    cases e
  · injection e with e _
    cases e
  · injection e with e _
    rw [PySem.W.str_of_cps (Sum.inr.inj e)]
theorem leK_trans (a b c : Key) (h : leK a b = true) (h' : leK b c = true) : leK a c = true := by
  rw [leK_eq, Bool.not_eq_true'] at h h' ⊢
  cases q : PyProof.Rows.lexLt PyProof.Rows.itemOrd (tkK c) (tkK a) with
  | false => rfl
  | true =>
    rcases PyProof.Rows.lex_negTrans _ (tkK b) _ q with z | z
    · rw [h'] at z; cases z
    · rw [h] at z; cases z
theorem leK_total (a b : Key) : (leK a b || leK b a) = true := by
  rw [leK_eq, leK_eq]
  cases q : PyProof.Rows.lexLt PyProof.Rows.itemOrd (tkK b) (tkK a) with
  | false => rfl
  | true =>
    cases q2 : PyProof.Rows.lexLt PyProof.Rows.itemOrd (tkK a) (tkK b) with
    | false => rfl
    | true =>
      have := PyProof.Rows.lex_trans _ _ _ q q2
      rw [PyProof.Rows.lex_irrefl] at this
      cases this
theorem leK_anti {a b : Key} (h : leK a b = true) (h' : leK b a = true) : a = b := by
  rw [leK_eq, Bool.not_eq_true'] at h h'
  exact tkK_inj (PyProof.Rows.lex_total _ _ h' h)
theorem sorted_uniq {α : Type} {le : α → α → Bool} (anti : ∀ {a b}, le a b = true → le b a = true → a = b) : ∀ {l1 l2 : List α}, l1.Perm l2 → l1.Pairwise (fun a b => le a b = true) → l2.Pairwise (fun a b => le a b = true) → l1 = l2
  | [], l2, p, _, _ => (List.nil_perm.mp p).symm
  | a :: l1, [], p, _, _ => by
    have := p.length_eq
    simp at this
  | a :: l1, b :: l2, p, h1, h2 => by
    obtain ⟨a1, a2⟩ := List.pairwise_cons.mp h1
    obtain ⟨b1, b2⟩ := List.pairwise_cons.mp h2
    have ab : a = b := by
      rcases List.mem_cons.mp (p.mem_iff.mp (List.mem_cons_self ..)) with z | z
      · exact z
      · rcases List.mem_cons.mp (p.mem_iff.mpr (List.mem_cons_self ..)) with y | y
        · exact y.symm
        · exact anti (a1 b y) (b1 a z)
    subst ab
    rw [sorted_uniq anti (List.Perm.cons_inv p) a2 b2]
theorem sortK_uniq {ks ls : List Key} (n1 : ks.Nodup) (n2 : ls.Nodup) (h : ∀ k, k ∈ ks ↔ k ∈ ls) : ks.mergeSort leK = ls.mergeSort leK := by
  have p : ks.Perm ls := (List.perm_ext_iff_of_nodup n1 n2).mpr h
  exact sorted_uniq (le := leK) leK_anti (((List.mergeSort_perm ks leK).trans p).trans (List.mergeSort_perm ls leK).symm) (List.pairwise_mergeSort leK_trans leK_total ks) (List.pairwise_mergeSort leK_trans leK_total ls)
def addK (acc : List Key) (k : Key) : List Key := if inK acc k = true then acc else acc ++ [k]
theorem addK_nd {acc : List Key} {k : Key} (h : acc.Nodup) : (addK acc k).Nodup := by
  unfold addK
  split
  · exact h
  · rename_i q
    rw [List.nodup_append]
    refine ⟨h, by simp, fun a ha b hb e => ?_⟩
    rw [List.mem_singleton.mp hb] at e
    exact q (inK_iff.mpr (e ▸ ha))
theorem addK_in (acc : List Key) (k j : Key) : inK (addK acc k) j = (inK acc j || decide (j = k)) := by
  have e : inK (addK acc k) j = true ↔ (inK acc j || decide (j = k)) = true := by
    rw [inK_iff, Bool.or_eq_true, inK_iff, decide_eq_true_iff]
    unfold addK
    split
    · rename_i q
      exact ⟨.inl, fun z => z.elim id fun z => z ▸ inK_iff.mp q⟩
    · rw [List.mem_append, List.mem_singleton]
  exact Bool.eq_iff_iff.mpr e
theorem addK_len (acc : List Key) (k : Key) : (addK acc k).length = if inK acc k = true then acc.length else acc.length + 1 := by
  unfold addK
  split
  · rfl
  · rw [List.length_append]; rfl
theorem setMO_add {w : World} {D : Addr} {acc : List Key} {k : Key} : SetMO w D (fun j => inK acc j || decide (j = k)) (if inK acc k = true then acc.length else acc.length + 1) = SetMO w D (inK (addK acc k)) (addK acc k).length := by
  rw [← addK_len]
  congr 1
  funext j
  exact (addK_in acc k j).symm

/-! ### sorted(a set) -/
def rSortM (w : World) : List V → Hp → VK → Prop := fun vs H Q => ∃ (a : Addr) (acc : List Key) (n : Nat), vs = [V.ref a] ∧ H a = some (SetMO w a (inK acc) n) ∧ KeysSort acc ∧ acc.Nodup ∧
  ∀ p : Addr, H p = none → Q (.ref p) (upd H p (.lst ((acc.mergeSort leK).map kV)))
theorem keysSort_mem {ks ls : List Key} (h : KeysSort ls) (e : ∀ k, k ∈ ks ↔ k ∈ ls) : KeysSort ks := fun d hd d' hd' => by
  obtain ⟨k, hk, rfl⟩ := List.mem_map.mp hd
  obtain ⟨k', hk', rfl⟩ := List.mem_map.mp hd'
  exact h _ (List.mem_map.mpr ⟨k, (e k).mp hk, rfl⟩) _ (List.mem_map.mpr ⟨k', (e k').mp hk', rfl⟩)
theorem vals_keys : ∀ {us : List Value} {ks : List Key}, KeysAs us ks → Vals (ks.map kV) us
  | _, _, .nil => .nil
  | _, _, .cons r t => .cons (relV_key r) (vals_keys t)
section
variable {X : Cx}
theorem cr_sortM (hc : X.calm = true) (hu : X.A.units + 80 < cLine) : CallR X (.builtin "sorted") (rSortM X.w) := by
  intro pins s σ H vs us Q I r h
  obtain ⟨a, acc, n, rfl, ha, hk, nd, q⟩ := h
  have R := setMO_get I ha
  rw [Vals.ref1 r]
  refine sorted_setM R (I.ok.hd hc) hu (fun ks e => keysSort_mem hk fun k => (e k).trans inK_iff) fun s' p out c ks k g o hp hg hi nk hm hl hn => ?_
  have e1 : ks.mergeSort leK = acc.mergeSort leK := sortK_uniq nk nd fun k => (hm k).trans inK_iff
  rw [e1] at hi
  have hlen : ((acc.mergeSort leK).map kV).length ≤ sizeLine := by
    rw [List.length_map, ← e1, List.length_mergeSort, hl]
    exact hn
  have hf : H p = none := I.hok.fresh hp
  have J : Inv X pins σ (upd H p (.lst ((acc.mergeSort leK).map kV))) { s with heap := s'.heap, gens := s'.gens, drawn := s'.drawn, toks := s'.toks } :=
    I.call (ch := []) (Un.laid k hp hf) (I.hok.laid k hp ⟨hlen, out.toList, c, vals_keys hi, hg⟩) (by rw [g]; exact I.bare) (fun _ z => nomatch z)
  have e : s' = { s with heap := s'.heap, gens := s'.gens, drawn := s'.drawn, toks := s'.toks } := by
    cases s'
    cases s
    cases o
    rfl
  rw [e]
  exact ⟨.ref p, _, J, rfl, q p hf⟩
end
theorem rpa_keys {K : PySem.W.Frag} {G : Hp} : ∀ ks : List Key, RpA K G (ks.map kV) (ks.map keyP)
  | [] => .nil
  | k :: ks => .cons (rp_key k) (rpa_keys ks)

/-! ### readings -/
def scI (ok : Kap → Prop) (g : DTG) (t : DTT) (e : DTE) (ρw : Rho) (N : List Key → Kap → Prop) : List PyData → List Key → Kap → Prop
  | [], acc, κ => N acc κ
  | x :: xs, acc, κ => g (.d x) ρw κ fun ρ1 κ1 => t ρ1 κ1 fun b κ2 => if b = true then e ρ1 κ2 fun r κ3 => Opt (keyR r) fun k => acc.length + 1 < scanBound ∧ ok κ3 ∧ scI ok g t e ρw N xs (addK acc k) κ3 else ok κ2 ∧ scI ok g t e ρw N xs acc κ2
def sc2L (ok : Kap → Prop) (g : DTG) (t : DTT) (wi1 : DTI) (g1 : DTG) (t1 : DTT) (e : DTE) (ρw : Rho) (vs1 : List Nat) (N : List Key → Kap → Prop) : List PyData → List Key → Kap → Prop
  | [], acc, κ => N acc κ
  | x :: xs, acc, κ => g (.d x) ρw κ fun ρ1 κ1 => t ρ1 κ1 fun b κ2 => if b = true then wi1 ρ1 κ2 fun ys ok1 κ3 => scI ok1 g1 t1 e (wipeR ρ1 vs1) (fun acc' κ4 => ok κ4 ∧ sc2L ok g t wi1 g1 t1 e ρw vs1 N xs acc' κ4) ys acc κ3 else ok κ2 ∧ sc2L ok g t wi1 g1 t1 e ρw vs1 N xs acc κ2
def wSortSc2 (wi : DTI) (g : DTG) (t : DTT) (wi1 : DTI) (g1 : DTG) (t1 : DTT) (e : DTE) (vs vs1 : List Nat) : DTE := fun ρ κ P => wi ρ κ fun xs ok κ1 => sc2L ok g t wi1 g1 t1 e (wipeR ρ vs) vs1 (fun acc κ2 => KeysSort acc ∧ P (.f ((acc.mergeSort leK).map keyP)) κ2) xs [] κ1
section
variable {X : Cx} {elt tg iter tg1 iter1 : Expr} {ifs ifs1 : List Expr} {scope : Scope} {own : List (Str × Nat)} {pos : Pos} {wi wi1 : DTI} {g g1 : DTG} {wt wt1 : DTT} {we : DTE} {js js1 : List Nat}
theorem sc2_reads {ti ti1 : TI} {gg gg1 : TG} {tt tt1 : TT} {te : TE} {vs vs1 : List Nat} (hj : ∀ j, j ∈ js → j ∈ vs) (hj1 : ∀ j, j ∈ js1 → j ∈ vs1)
    (hi : ∀ (G H : Hp) (As : List Addr) (σ : L2.St) (ρ : Rho) (κ : Kap) (P : List PyData → (Kap → Prop) → Kap → Prop) (R : L2.It → Hp → Prop), Cells X.K G H As κ → Places X.K G As σ ρ → wi ρ κ P → (∀ J xs ok G' H' As' κ', Step G H As G' H' As' → Cells X.K G' H' As' κ' → Places X.K G' As' σ ρ → WalkOk X.K G' As' J xs ok → ok κ' → P xs ok κ' → R J H') → ti σ H R)
    (hg : ∀ (G H : Hp) (As : List Addr) (σ : L2.St) (ρ : Rho) (κ : Kap) (v : V) (r : R) (P : Rho → Kap → Prop) (Q : L2.St → Hp → Prop), Cells X.K G H As κ → Places X.K G As σ ρ → It X.K G As v r → g r ρ κ P → (∀ σ' ρ' G' H' As' κ', Wr js σ σ' → Step G H As G' H' As' → Cells X.K G' H' As' κ' → Places X.K G' As' σ' ρ' → P ρ' κ' → Q σ' H') → gg v σ H Q)
    (ht : ∀ (G H : Hp) (As : List Addr) (σ : L2.St) (ρ : Rho) (κ : Kap) (P : Bool → Kap → Prop) (Q : Bool → Hp → Prop), Cells X.K G H As κ → Places X.K G As σ ρ → wt ρ κ P → (∀ b G' H' As' κ', Step G H As G' H' As' → Cells X.K G' H' As' κ' → Places X.K G' As' σ ρ → P b κ' → Q b H') → tt σ H Q)
    (hi1 : ∀ (G H : Hp) (As : List Addr) (σ : L2.St) (ρ : Rho) (κ : Kap) (P : List PyData → (Kap → Prop) → Kap → Prop) (R : L2.It → Hp → Prop), Cells X.K G H As κ → Places X.K G As σ ρ → wi1 ρ κ P → (∀ J xs ok G' H' As' κ', Step G H As G' H' As' → Cells X.K G' H' As' κ' → Places X.K G' As' σ ρ → WalkOk X.K G' As' J xs ok → ok κ' → P xs ok κ' → R J H') → ti1 σ H R)
    (hg1 : ∀ (G H : Hp) (As : List Addr) (σ : L2.St) (ρ : Rho) (κ : Kap) (v : V) (r : R) (P : Rho → Kap → Prop) (Q : L2.St → Hp → Prop), Cells X.K G H As κ → Places X.K G As σ ρ → It X.K G As v r → g1 r ρ κ P → (∀ σ' ρ' G' H' As' κ', Wr js1 σ σ' → Step G H As G' H' As' → Cells X.K G' H' As' κ' → Places X.K G' As' σ' ρ' → P ρ' κ' → Q σ' H') → gg1 v σ H Q)
    (ht1 : ∀ (G H : Hp) (As : List Addr) (σ : L2.St) (ρ : Rho) (κ : Kap) (P : Bool → Kap → Prop) (Q : Bool → Hp → Prop), Cells X.K G H As κ → Places X.K G As σ ρ → wt1 ρ κ P → (∀ b G' H' As' κ', Step G H As G' H' As' → Cells X.K G' H' As' κ' → Places X.K G' As' σ ρ → P b κ' → Q b H') → tt1 σ H Q)
    (he : ∀ (G H : Hp) (As : List Addr) (σ : L2.St) (ρ : Rho) (κ : Kap) (P : R → Kap → Prop) (Q : VK), Cells X.K G H As κ → Places X.K G As σ ρ → we ρ κ P → (∀ v r G' H' As' κ', Step G H As G' H' As' → Cells X.K G' H' As' κ' → Places X.K G' As' σ ρ → Rv X.K H G' H' As' v r → P r κ' → Q v H') → te σ H Q)
    (G H : Hp) (As : List Addr) (σ : L2.St) (ρ : Rho) (κ : Kap) (N : List Key → Kap → Prop) (Q : VK) (c : Cells X.K G H As κ) (p : Places X.K G As σ ρ) (w : wi ρ κ fun xs ok κ1 => sc2L ok g wt wi1 g1 wt1 we (wipeR ρ vs) vs1 N xs [] κ1)
    (k : ∀ D acc G' H' As' κ', Step G H As G' H' As' → Cells X.K G' H' As' κ' → Places X.K G' As' σ ρ → H' D = some (SetMO X.w D (inK acc) acc.length) → acc.Nodup → N acc κ' → Q (.ref D) H') : tSc2 X.w ti gg tt ti1 gg1 tt1 te vs vs1 σ H Q := by
  refine hi G H As σ ρ κ _ _ c p w fun J xs ok G1 H1 As1 κ1 s1 c1 p1 wk o1 w1 => fun D hD => ?_
  have gD1 : G1 D = none := c1.ext.free hD
  have nD1 : D ∉ As1 := c1.notin hD
  let W : Nat → Hp → Prop := fun i H' => ∃ G' As' κ' acc, Step G1 H1 As1 G' H' As' ∧ Cells X.K G' H' As' κ' ∧ G' D = none ∧ D ∉ As' ∧ H' D = some (SetMO X.w D (inK acc) acc.length) ∧ acc.Nodup ∧ ok κ' ∧ sc2L ok g wt wi1 g1 wt1 we (wipeR ρ vs) vs1 N (xs.drop i) acc κ'
  have h0 : (upd H1 D (SetMO X.w D (fun _ => false) 0)) D = some (SetMO X.w D (inK []) ([] : List Key).length) := upd_same
  refine ⟨fun i n H' => i + n = xs.length ∧ W i H', ⟨xs.length, by omega, G1, As1, κ1, [], Step.fresh hD, c1.fresh hD, gD1, nD1, h0, List.nodup_nil, o1, w1⟩, fun i n H' hW => ?_⟩
  obtain ⟨em, G', As', κ', acc, s', c', g', n', h', nd, o', f⟩ := hW
  obtain ⟨wgo, wst, wyl⟩ := wk G' H' As' κ' s'.ex s'.pre c' o'
  have wip : ∀ {τ τ' : L2.St} {us is : List Nat}, (∀ j, j ∈ is → j ∈ us) → Wr is (wipe τ us) τ' → wipe τ' us = wipe τ us := fun {τ τ' us is} h a => by
    have hw : wipe (wipe τ us) us = wipe τ us := by
      refine List.ext_getElem? fun j => ?_
      by_cases hj : j ∈ us
      · rw [wipe_in hj, wipe_in hj, wipe_length]
      · rw [wipe_out hj]
    rw [← hw]
    exact a.wipe h
  cases n with
  | zero =>
    have ei : i = xs.length := by omega
    subst ei
    rw [List.drop_length] at f
    have st := s1.trans s'
    exact .inl ⟨wst, k D acc G' H' As' κ' st c' (p.step st) h' nd f⟩
  | succ n =>
    have hi' : i < xs.length := by omega
    rw [List.drop_eq_getElem_cons hi'] at f
    refine .inr ⟨wgo i hi', W (i + 1), fun H2 q => ⟨n, by omega, by omega, q⟩, fun v H2 hy => ?_⟩
    obtain ⟨G2, s2, c2, r2⟩ := wyl i v H2 _ hy (List.getElem?_eq_getElem hi')
    obtain ⟨g2, n2, h2⟩ := s2.keepD g' n' h'
    refine hg G2 H2 As' (wipe σ vs) (wipeR ρ vs) κ' v (.d xs[i]) _ _ c2 ((p.step ((s1.trans s').trans s2)).wipe vs) r2 f fun σ3 ρ3 G3 H3 As3 κ3 a3 s3 c3 p3 w3 => ⟨wip hj a3, ?_⟩
    obtain ⟨g3, n3, h3⟩ := s3.keepD g2 n2 h2
    refine ht G3 H3 As3 σ3 ρ3 κ3 _ _ c3 p3 w3 fun z G4 H4 As4 κ4 s4 c4 p4 w4 => ?_
    obtain ⟨g4, n4, h4⟩ := s4.keepD g3 n3 h3
    have st4 : Step G1 H1 As1 G4 H4 As4 := ((s'.trans s2).trans s3).trans s4
    cases z with
    | false =>
      rw [if_neg (by decide)] at w4 ⊢
      exact ⟨G4, As4, κ4, acc, st4, c4, g4, n4, h4, nd, w4.1, w4.2⟩
    | true =>
      rw [if_pos rfl] at w4 ⊢
      refine hi1 G4 H4 As4 σ3 ρ3 κ4 _ _ c4 p4 w4 fun J1 ys ok1 G5 H5 As5 κ5 s5 c5 p5 wk1 o5 w5 => ?_
      obtain ⟨g5, n5, h5⟩ := s5.keepD g4 n4 h4
      have st5 := st4.trans s5
      let W1 : Nat → Hp → Prop := fun j H' => ∃ G' As' κ' acc, Step G1 H1 As1 G' H' As' ∧ Ex G5 G' ∧ (∃ bs, As' = As5 ++ bs) ∧ Cells X.K G' H' As' κ' ∧ Places X.K G' As' σ3 ρ3 ∧ G' D = none ∧ D ∉ As' ∧ H' D = some (SetMO X.w D (inK acc) acc.length) ∧ acc.Nodup ∧ ok1 κ' ∧ scI ok1 g1 wt1 we (wipeR ρ3 vs1) (fun acc κ => ok κ ∧ sc2L ok g wt wi1 g1 wt1 we (wipeR ρ vs) vs1 N (xs.drop (i + 1)) acc κ) (ys.drop j) acc κ'
      refine ⟨fun j m H' => j + m = ys.length ∧ W1 j H', ⟨ys.length, by omega, G5, As5, κ5, acc, st5, Ex.refl G5, ⟨[], by simp⟩, c5, p5, g5, n5, h5, nd, o5, w5⟩, fun j m H' hW => ?_⟩
      obtain ⟨em1, G6, As6, κ6, acc6, s6, x56, y56, c6, p6, g6, n6, h6, nd6, o6, f6⟩ := hW
      obtain ⟨wgo1, wst1, wyl1⟩ := wk1 G6 H' As6 κ6 x56 y56 c6 o6
      cases m with
      | zero =>
        have ej : j = ys.length := by omega
        subst ej
        rw [List.drop_length] at f6
        exact .inl ⟨wst1, G6, As6, κ6, acc6, s6, c6, g6, n6, h6, nd6, f6.1, f6.2⟩
      | succ m =>
        have hj' : j < ys.length := by omega
        rw [List.drop_eq_getElem_cons hj'] at f6
        refine .inr ⟨wgo1 j hj', W1 (j + 1), fun H2 q => ⟨m, by omega, by omega, q⟩, fun v H7 hy => ?_⟩
        obtain ⟨G7, s7, c7, r7⟩ := wyl1 j v H7 _ hy (List.getElem?_eq_getElem hj')
        obtain ⟨g7, n7, h7⟩ := s7.keepD g6 n6 h6
        refine hg1 G7 H7 As6 (wipe σ3 vs1) (wipeR ρ3 vs1) κ6 v (.d ys[j]) _ _ c7 ((p6.step s7).wipe vs1) r7 f6 fun σ8 ρ8 G8 H8 As8 κ8 a8 s8 c8 p8 w8 => ⟨wip hj1 a8, ?_⟩
        obtain ⟨g8, n8, h8⟩ := s8.keepD g7 n7 h7
        refine ht1 G8 H8 As8 σ8 ρ8 κ8 _ _ c8 p8 w8 fun z G9 H9 As9 κ9 s9 c9 p9 w9 => ?_
        obtain ⟨g9, n9, h9⟩ := s9.keepD g8 n8 h8
        have s69 := (s7.trans s8).trans s9
        have st9 : Step G1 H1 As1 G9 H9 As9 := s6.trans s69
        cases z with
        | false =>
          rw [if_neg (by decide)] at w9 ⊢
          exact ⟨G9, As9, κ9, acc6, st9, x56.trans s69.ex, pre_trans y56 s69.pre, c9, p6.step s69, g9, n9, h9, nd6, w9.1, w9.2⟩
        | true =>
          rw [if_pos rfl] at w9 ⊢
          refine he G9 H9 As9 σ8 ρ8 κ9 _ _ c9 p9 w9 fun v5 r5 GA HA AsA κA sA cA pA iA wA => ?_
          obtain ⟨gA, nA, hA⟩ := sA.keepD g9 n9 h9
          obtain ⟨q, eq, hl, ho, wB⟩ := wA.ex
          have ek : v5 = kV q := by
            cases r5 with
            | d x => exact key_rel eq iA
            | _ => cases eq
          have s6B := s69.trans sA
          obtain ⟨stC, cC⟩ := (s6.trans s6B).growD (u := SetMO X.w D (inK (addK acc6 q)) (addK acc6 q).length) cA hD gA nA
          refine ⟨q, inK acc6, acc6.length, ek, hA, hl, ?_⟩
          rw [setMO_add]
          exact ⟨GA, AsA, κA, addK acc6 q, stC, x56.trans s6B.ex, pre_trans y56 s6B.pre, cC, p6.step s6B, gA, nA, upd_same, addK_nd nd6, ho, wB⟩
theorem de_sortSc2 {vs1 : List Nat} {p : Pos} {cpos : Pos} (hc : X.calm = true) (hu : X.A.units + 80 < cLine) (hN : X.N.Nodup) (hm : X.mg "sorted" = none) (hi : DI X tg iter wi) (ok : BlkOk X.N X.env.scope scope own) (hg : ∀ i : BI, DG (i.cx X scope) tg js g) (ht : ∀ i : BI, DTs (i.cx X scope) ifs wt) (hi1 : ∀ i : BI, DI (i.cx X scope) tg1 iter1 wi1) (hg1 : ∀ i : BI, DG (i.cx X scope) tg1 js1 g1) (ht1 : ∀ i : BI, DTs (i.cx X scope) ifs1 wt1) (he : ∀ i : BI, DE (i.cx X scope) elt we)
    (hv : ∀ i ∈ vs1, i ∈ own.map (·.2) := by decide) (hj : ∀ j, j ∈ js → j ∈ own.map (·.2) := by decide) (hj1 : ∀ j, j ∈ js1 → j ∈ vs1 := by decide) (hs : ∀ x, foldedSetIterable iter X.env x = pure x := by intro _; rfl) (hs1 : ∀ env x, foldedSetIterable iter1 env x = pure x := by intro _ _; rfl)
    (hgl : Gl X "sorted" := by rfl) (hst : starEach [.SetComp elt [⟨tg, iter, ifs, 0⟩, ⟨tg1, iter1, ifs1, 0⟩] scope cpos] X.env = (false, eval (.SetComp elt [⟨tg, iter, ifs, 0⟩, ⟨tg1, iter1, ifs1, 0⟩] scope cpos) X.env) :: starEach [] X.env := by rfl) (hpl : (backTo pos (starEach [] X.env)).any (·.1) = false := by rfl) :
    DE X (.Call (.Name "sorted" p) [.SetComp elt [⟨tg, iter, ifs, 0⟩, ⟨tg1, iter1, ifs1, 0⟩] scope cpos] [] pos) (wSortSc2 wi g wt wi1 g1 wt1 we (own.map (·.2)) vs1) := by
  obtain ⟨ti, pi, hi⟩ := hi
  obtain ⟨gg, pg, hg⟩ := uni_G hg
  obtain ⟨tt, pt, ht⟩ := uni_T ht
  obtain ⟨ti1, pi1, hi1⟩ := uni_I hi1
  obtain ⟨gg1, pg1, hg1⟩ := uni_G hg1
  obtain ⟨tt1, pt1, ht1⟩ := uni_T ht1
  obtain ⟨te, pe, he⟩ := uni_E he
  refine ⟨_, pe_callB (cr_sortM hc hu) hgl hm (by decide +kernel) (pa_cons (pe_sc2 hc hN pi ok hv pg pt pi1 pg1 pt1 pe hs hs1) pa_nil hst) (by decide) (by decide) hst hpl, fun G H As σ ρ κ P Q c p w k => ?_⟩
  show tSc2 X.w ti gg tt ti1 gg1 tt1 te (own.map (·.2)) vs1 σ H fun v H1 => rSortM X.w [v] H1 Q
  refine sc2_reads hj hj1 hi hg ht hi1 hg1 ht1 he G H As σ ρ κ _ _ c p w fun D acc G1 H1 As1 κ1 s1 c1 p1 hD nd w1 => ?_
  refine ⟨D, acc, acc.length, rfl, hD, w1.1, nd, fun q hq => ?_⟩
  exact k (.ref q) (.f ((acc.mergeSort leK).map keyP)) G1 _ As1 κ1 (s1.trans (Step.fresh hq)) (c1.fresh hq) p1 ⟨q, _, rfl, s1.dom q hq, c1.ext.free hq, c1.notin hq, upd_same, rpa_keys _⟩ w1.2
end
end DL
/-! SHp: ropes_in. -/
namespace SH
open PySem PySem.Spec PyProof.Rows L2 DL
def ropesK (row : Row) : List Key := row.foldl (fun acc h => addK (addK acc (.inr h.1)) (.inr h.2.1)) []
def unK : Key → Str
  | .inr s => s
  | .inl _ => ""
/-- the ropes of a row, rising -/
def ropesF (row : Row) : List Str := ((ropesK row).mergeSort leK).map unK
def Ph_ropes_in (rs : List R) (P : R → Prop) : Prop := ∃ (row : Row) (D : PyData), RowD D row ∧ rs = [.d D] ∧ row.length ≤ 2000 ∧ P (.d (.tuple ((ropesF row).map .str)))
/-- ropes_in -/
def w_ropes_in : DTS := (wRet (wCB tupC (wCons (wSortSc2 (wSq (wVar 0)) (wName 1) wYes (wSq (wSl (wVar 1) wNoP (wP (wC (.int 2))))) (wName 2) wYes (wVar 2) [1, 2] [2]) wNil)))
theorem foldR_mem : ∀ (row : Row) (acc : List Key) (k : Key), k ∈ row.foldl (fun acc h => addK (addK acc (.inr h.1)) (.inr h.2.1)) acc ↔ k ∈ acc ∨ ∃ h ∈ row, k = .inr h.1 ∨ k = .inr h.2.1
  | [], acc, k => by simp
  | h :: hs, acc, k => by
    rw [List.foldl_cons, foldR_mem hs, ← inK_iff, addK_in, addK_in, Bool.or_eq_true, Bool.or_eq_true, inK_iff, decide_eq_true_iff, decide_eq_true_iff]
    constructor
    · rintro (((z | z) | z) | ⟨x, hx, z⟩)
      · exact .inl z
      · exact .inr ⟨h, List.mem_cons_self .., .inl z⟩
      · exact .inr ⟨h, List.mem_cons_self .., .inr z⟩
      · exact .inr ⟨x, List.mem_cons_of_mem _ hx, z⟩
    · rintro (z | ⟨x, hx, z⟩)
      · exact .inl (.inl (.inl z))
      · rcases List.mem_cons.mp hx with rfl | hx
        · rcases z with z | z
          · exact .inl (.inl (.inr z))
          · exact .inl (.inr z)
        · exact .inr ⟨x, hx, z⟩
theorem foldR_nd : ∀ (row : Row) (acc : List Key), acc.Nodup → (row.foldl (fun acc h => addK (addK acc (.inr h.1)) (.inr h.2.1)) acc).Nodup
  | [], _, h => h
  | _ :: hs, _, h => foldR_nd hs _ (addK_nd (addK_nd h))
theorem ropesK_mem (row : Row) (k : Key) : k ∈ ropesK row ↔ ∃ h ∈ row, k = .inr h.1 ∨ k = .inr h.2.1 := by
  unfold ropesK
  rw [foldR_mem]
  simp
theorem ropesK_nd (row : Row) : (ropesK row).Nodup := foldR_nd row [] List.nodup_nil
theorem ropesF_mem (row : Row) (r : Str) : r ∈ ropesF row ↔ ∃ h ∈ row, touches r h = true := by
  unfold ropesF
  rw [List.mem_map]
  constructor
  · rintro ⟨k, hk, rfl⟩
    obtain ⟨h, hh, z⟩ := (ropesK_mem row k).mp ((List.mergeSort_perm _ _).mem_iff.mp hk)
    refine ⟨h, hh, touches_iff.mpr ?_⟩
    rcases z with rfl | rfl
    · exact .inl rfl
    · exact .inr rfl
  · rintro ⟨h, hh, t⟩
    refine ⟨.inr r, (List.mergeSort_perm _ _).mem_iff.mpr ((ropesK_mem row _).mpr ⟨h, hh, ?_⟩), rfl⟩
    rcases touches_iff.mp t with rfl | rfl
    · exact .inl rfl
    · exact .inr rfl
theorem ropesF_keys (row : Row) : ((ropesK row).mergeSort leK).map keyP = (ropesF row).map .str := by
  unfold ropesF
  rw [List.map_map]
  refine List.map_congr_left fun k hk => ?_
  obtain ⟨h, hh, z⟩ := (ropesK_mem row k).mp ((List.mergeSort_perm _ _).mem_iff.mp hk)
  rcases z with rfl | rfl <;> rfl
theorem ropes_sort (row : Row) : KeysSort (ropesK row) := fun d hd d' hd' => by
  obtain ⟨k, hk, rfl⟩ := List.mem_map.mp hd
  obtain ⟨k', hk', rfl⟩ := List.mem_map.mp hd'
  obtain ⟨h, hh, z⟩ := (ropesK_mem row k).mp hk
  obtain ⟨h', hh', z'⟩ := (ropesK_mem row k').mp hk'
  rcases z with rfl | rfl <;> rcases z' with rfl | rfl <;> simp [keyP, PySem.W.alike]
theorem addK_le (acc : List Key) (k : Key) : (addK acc k).length ≤ acc.length + 1 := by
  rw [addK_len]
  split <;> omega
theorem ropes_loop {ok : Kap → Prop} {D : PyData} {N : List Key → Kap → Prop} {κ : Kap} (hok : ok κ) : ∀ (hs : Row) (acc : List Key), acc.length + 2 * hs.length + 1 < scanBound → N (hs.foldl (fun acc h => addK (addK acc (.inr h.1)) (.inr h.2.1)) acc) κ →
    sc2L ok (wName 1) wYes (wSq (wSl (wVar 1) wNoP (wP (wC (.int 2))))) (wName 2) wYes (wVar 2) [some (.d D), none, none] [2] N (hs.map hookD) acc κ
  | [], acc, _, k => k
  | h :: hs, acc, hl, k => by
    rw [List.map_cons]
    unfold sc2L
    rw [List.length_cons] at hl
    have e2 : cut [PyData.str h.1, PyData.str h.2.1, PyData.int h.2.2] none (some 2) = [.str h.1, .str h.2.1] := rfl
    have l1 := addK_le acc (.inr h.1)
    have l2 := addK_le (addK acc (.inr h.1)) (.inr h.2.1)
    simp [hookD, e2]
    unfold scI
    simp [keyR, keyD]
    refine ⟨by omega, ?_⟩
    unfold scI
    simp [keyR, keyD]
    refine ⟨by omega, ?_⟩
    unfold scI
    exact ⟨hok, ropes_loop hok hs _ (by omega) k⟩
theorem r_ropes_in (rs : List R) (Pd : R → Prop) (h : Ph_ropes_in rs Pd) (hl : rs.length = 1) : w_ropes_in { nx := fun _ _ => Pd (.d .none), rt := fun r κ => Opt (outR κ 0 r) Pd } (rs.map some ++ List.replicate 2 none) [] := by
  obtain ⟨row, D, hD, rfl, hlen, k⟩ := h
  clear hl
  have hb : ([] : List Key).length + 2 * row.length + 1 < scanBound := by unfold scanBound; simp; omega
  have fin : ∀ κ, KeysSort (ropesK row) ∧ Opt (tupC [.list (((ropesK row).mergeSort leK).map keyP)]) fun o => Opt (outR κ 0 o.r) Pd := fun κ => ⟨ropes_sort row, by
    rw [ropesF_keys]
    simpa using k⟩
  unfold w_ropes_in wSortSc2
  simp only [s_ret, s_cb, s_cons, s_nil, s_sq, s_var, List.map_cons, List.map_nil, List.replicate_succ, List.replicate_zero, List.cons_append, List.nil_append, List.getElem?_cons_zero, st_d, val_d, Opt_some]
  rcases hD with rfl | rfl
  · refine ropes_loop ?_ row [] hb ?_
    · rfl
    · have e : row.foldl (fun acc h => addK (addK acc (.inr h.1)) (.inr h.2.1)) [] = ropesK row := rfl
      rw [e]
      simpa using fin []
  · refine ropes_loop ?_ row [] hb ?_
    · rfl
    · have e : row.foldl (fun acc h => addK (addK acc (.inr h.1)) (.inr h.2.1)) [] = ropesK row := rfl
      rw [e]
      simpa using fin []
end SH
/-! SHq: least, drawn, left, kept, held, freed. -/
namespace SH
open PySem PySem.Spec PyProof.Rows L2 DL
/-- names as a list or a tuple -/
def NmD (D : PyData) (ss : List Str) : Prop := (D = .list (ss.map .str) ∨ D = .tuple (ss.map .str)) ∧ ∀ z ∈ ss, IsName z
theorem flat_strs (ss : List Str) : (ss.map PyData.str).all flatD = true := by
  rw [List.all_eq_true]
  intro x hx
  obtain ⟨z, _, rfl⟩ := List.mem_map.mp hx
  rfl
theorem in_names {D : PyData} {ss : List Str} {z : Str} (neg : Bool) (h : NmD D ss) (hz : IsName z) : inD neg (.str z) D = some (.v (.bool (if neg then !decide (z ∈ ss) else decide (z ∈ ss)))) := by
  obtain ⟨h, hs⟩ := h
  rcases h with rfl | rfl
  · show (if SeqAt.shaped (.str z) = true ∧ SeqAt.shaped (.list (ss.map .str)) = true then some (Out.v (.bool (if neg then !(ss.map PyData.str).any fun y => PyData.eqv y (.str z) else (ss.map PyData.str).any fun y => PyData.eqv y (.str z)))) else none) = _
    rw [if_pos ⟨hz.shaped, shaped_strs hs⟩, any_str]
  · show (if flatD (.str z) = true ∧ (ss.map PyData.str).all flatD = true then some (Out.v (.bool (if neg then !(ss.map PyData.str).any fun y => PyData.eqv y (.str z) else (ss.map PyData.str).any fun y => PyData.eqv y (.str z)))) else none) = _
    rw [if_pos ⟨rfl, flat_strs ss⟩, any_str]
def drawnF (row : Row) (ss : List Str) : Row := row.filter fun h => !decide (h.1 ∈ ss) && !decide (h.2.1 ∈ ss)
def keptF (row : Row) (ss : List Str) : Row := row.filter fun h => decide (h.1 ∈ ss) && decide (h.2.1 ∈ ss)
def leastF (row : Row) : Row := firstF (settledF row)
def heldF (row : Row) : List Str := ropesF (settledF row)
def freedF (row : Row) (ss : List Str) : List Str := (heldF row).filter fun r => !decide (r ∈ ss ++ heldF (drawnF row ss))
def Ph_least (rs : List R) (P : R → Prop) : Prop := ∃ (row : Row) (D : PyData), RowD D row ∧ rs = [.d D] ∧ row.length ≤ 1000000 ∧ RowIn row ∧ P (.f ((leastF row).map hookD))
def Ph_drawn (rs : List R) (P : R → Prop) : Prop := ∃ (row : Row) (ss : List Str) (D E : PyData), RowD D row ∧ NmD E ss ∧ rs = [.d D, .d E] ∧ row.length ≤ 1000000 ∧ RowIn row ∧ P (.f ((drawnF row ss).map hookD))
def Ph_left (rs : List R) (P : R → Prop) : Prop := ∃ (row : Row) (ss : List Str) (D E : PyData), RowD D row ∧ NmD E ss ∧ rs = [.d D, .d E] ∧ row.length ≤ 1000000 ∧ RowIn row ∧ P (.f ((leastF (drawnF row ss)).map hookD))
def Ph_kept (rs : List R) (P : R → Prop) : Prop := ∃ (row : Row) (ss : List Str) (D E : PyData), RowD D row ∧ NmD E ss ∧ rs = [.d D, .d E] ∧ row.length ≤ 1000000 ∧ RowIn row ∧ P (.f ((leastF (keptF row ss)).map hookD))
def Ph_held (rs : List R) (P : R → Prop) : Prop := ∃ (row : Row) (D : PyData), RowD D row ∧ rs = [.d D] ∧ row.length ≤ 2000 ∧ RowIn row ∧ P (.d (.tuple ((heldF row).map .str)))
def Ph_freed (rs : List R) (P : R → Prop) : Prop := ∃ (row : Row) (ss : List Str) (D E : PyData), RowD D row ∧ NmD E ss ∧ rs = [.d D, .d E] ∧ row.length ≤ 2000 ∧ ss.length ≤ 2000 ∧ RowIn row ∧ P (.d (.tuple ((freedF row ss).map .str)))
/-- least -/
def w_least : DTS := (wRet (wCall Ph_first_of (wCons (wCall Ph_settled (wCons (wVar 0) wNil)) wNil)))
/-- drawn -/
def w_drawn : DTS := (wRet (wLc (wSq (wVar 0)) (wName 2) (wAnd (wB (wBin (inD true) (wBin ixD (wVar 2) (wC (.int 0))) (wVar 1))) (wB (wBin (inD true) (wBin ixD (wVar 2) (wC (.int 1))) (wVar 1)))) (wVar 2) [2]))
/-- left -/
def w_left : DTS := (wRet (wCall Ph_least (wCons (wCall Ph_drawn (wCons (wVar 0) (wCons (wVar 1) wNil))) wNil)))
/-- kept -/
def w_kept : DTS := (wRet (wCall Ph_least (wCons (wLc (wSq (wVar 0)) (wName 2) (wAnd (wB (wBin (inD false) (wBin ixD (wVar 2) (wC (.int 0))) (wVar 1))) (wB (wBin (inD false) (wBin ixD (wVar 2) (wC (.int 1))) (wVar 1)))) (wVar 2) [2]) wNil)))
/-- held -/
def w_held : DTS := (wRet (wCall Ph_ropes_in (wCons (wCall Ph_settled (wCons (wVar 0) wNil)) wNil)))
/-- freed -/
def w_freed : DTS := (wSeq (wSet false 2 (wBin addD (wCB listC (wCons (wVar 1) wNil)) (wCB listC (wCons (wCall Ph_held (wCons (wCall Ph_drawn (wCons (wVar 0) (wCons (wVar 1) wNil))) wNil)) wNil))))
  (wRet (wCB tupC (wCons (wLc (wSq (wCall Ph_held (wCons (wVar 0) wNil))) (wName 3) (wB (wBin (inD true) (wVar 3) (wVar 2))) (wVar 3) [3]) wNil))))
/-! ### plain facts -/
theorem sLoop_ok : ∀ (hs : Row) (row : Row) (ks : KR) (i : Nat), row.drop i = hs → KOk row i ks → KOk row (i + hs.length) (sLoop row ks i hs)
  | [], row, ks, i, _, K => K
  | h :: hs, row, ks, i, hd, K => by
    have hi : row[i]? = some h := by
      have := congrArg List.head? hd
      rw [List.head?_drop] at this
      exact this
    have hd2 : row.drop (i + 1) = hs := by
      have := congrArg List.tail hd
      rw [List.tail_drop] at this
      exact this
    rw [List.length_cons, show i + (hs.length + 1) = i + 1 + hs.length by omega]
    exact sLoop_ok hs row _ (i + 1) hd2 (sStep_ok K hi)
theorem settled_kok (row : Row) : KOk row row.length (sLoop row [] 0 row) := by
  have := sLoop_ok row row [] 0 rfl ⟨(fun p h => nomatch h), (fun p h => nomatch h), List.nodup_nil⟩
  rwa [Nat.zero_add] at this
theorem settled_mem {row : Row} {h : Hook} (m : h ∈ settledF row) : h ∈ row := by
  obtain ⟨p, hp, rfl⟩ := List.mem_map.mp m
  exact List.mem_of_getElem? ((settled_kok row).inr p hp)
theorem settled_len (row : Row) : (settledF row).length ≤ row.length := by
  unfold settledF
  rw [List.length_map]
  exact (settled_kok row).len
theorem RowIn.settled {row : Row} (h : RowIn row) : RowIn (settledF row) := fun x hx => h x (settled_mem hx)
theorem RowIn.filter {row : Row} {p : Hook → Bool} (h : RowIn row) : RowIn (row.filter p) := fun x hx => h x (List.mem_filter.mp hx).1
theorem held_names {row : Row} (h : RowIn row) : ∀ z ∈ heldF row, IsName z := fun z hz => by
  obtain ⟨g, hg, t⟩ := (ropesF_mem _ z).mp hz
  have := h.settled g hg
  rcases touches_iff.mp t with rfl | rfl
  · exact this.1
  · exact this.2.1
theorem foldR_len : ∀ (row : Row) (acc : List Key), (row.foldl (fun acc h => addK (addK acc (.inr h.1)) (.inr h.2.1)) acc).length ≤ acc.length + 2 * row.length
  | [], acc => by simp
  | h :: hs, acc => by
    rw [List.foldl_cons, List.length_cons]
    have := foldR_len hs (addK (addK acc (.inr h.1)) (.inr h.2.1))
    have := addK_le acc (.inr h.1)
    have := addK_le (addK acc (.inr h.1)) (.inr h.2.1)
    omega
theorem ropesF_len (row : Row) : (ropesF row).length ≤ 2 * row.length := by
  unfold ropesF
  rw [List.length_map, List.length_mergeSort]
  have := foldR_len row []
  unfold ropesK
  simpa using this
theorem held_len (row : Row) : (heldF row).length ≤ 2 * row.length := Nat.le_trans (ropesF_len _) (by have := settled_len row; omega)
/-! ### the readings -/
theorem r_least (rs : List R) (Pd : R → Prop) (h : Ph_least rs Pd) (hl : rs.length = 1) : w_least { nx := fun _ _ => Pd (.d .none), rt := fun r κ => Opt (outR κ 0 r) Pd } (rs.map some ++ List.replicate 0 none) [] := by
  obtain ⟨row, D, hD, rfl, hlen, hin, k⟩ := h
  simp [w_least]
  refine ⟨row, D, hD, rfl, hlen, hin, ?_⟩
  simp
  exact ⟨settledF row, rfl, by have := settled_len row; omega, hin.settled, by unfold leastF at k; simpa using k⟩
theorem ix_hook (h : Hook) : ixD (hookD h) (.int 0) = some (.v (.str h.1)) ∧ ixD (hookD h) (.int 1) = some (.v (.str h.2.1)) := ⟨ixD_tuple (atI_nat (j := 0) rfl), ixD_tuple (atI_nat (j := 1) rfl)⟩
theorem draw_loop {ok : Kap → Prop} {neg : Bool} {f : Hook → Bool} {row : Row} {ss : List Str} {D E : PyData} {P : R → Kap → Prop} {κ : Kap} (hok : ok κ) (hE : NmD E ss) (hin : RowIn row) (hlen : row.length ≤ 1000000)
    (hf : ∀ h, f h = ((if neg then !decide (h.1 ∈ ss) else decide (h.1 ∈ ss)) && if neg then !decide (h.2.1 ∈ ss) else decide (h.2.1 ∈ ss))) (k : P (.f ((row.filter f).map hookD)) κ) :
    lcL ok (wName 2) (wAnd (wB (wBin (inD neg) (wBin ixD (wVar 2) (wC (.int 0))) (wVar 1))) (wB (wBin (inD neg) (wBin ixD (wVar 2) (wC (.int 1))) (wVar 1)))) (wVar 2) [some (.d D), some (.d E), none] P (row.map hookD) [] κ := by
  refine lc_filter hookD f hookD hok row [] (by rw [sizeLine_eq, List.length_nil]; omega) (fun h hh C hC => ?_) (by simpa using k)
  obtain ⟨a, b, _⟩ := hin h hh
  obtain ⟨i0, i1⟩ := ix_hook h
  have e1 := in_names neg hE a
  have e2 := in_names neg hE b
  have fin : C (f h) [some (.d D), some (.d E), some (.d (hookD h))] κ := hC _ fun _ Q hQ => by simpa using hQ
  rw [hf h] at fin
  simp [i0, i1, e1, e2]
  cases neg
  · by_cases q : h.1 ∈ ss
    · simp [q] at fin ⊢
      simpa using fin
    · simp [q] at fin ⊢
      exact fin
  · by_cases q : h.1 ∈ ss
    · simp [q] at fin ⊢
      exact fin
    · simp [q] at fin ⊢
      simpa using fin
theorem r_drawn (rs : List R) (Pd : R → Prop) (h : Ph_drawn rs Pd) (hl : rs.length = 2) : w_drawn { nx := fun _ _ => Pd (.d .none), rt := fun r κ => Opt (outR κ 0 r) Pd } (rs.map some ++ List.replicate 1 none) [] := by
  obtain ⟨row, ss, D, E, hD, hE, rfl, hlen, hin, k⟩ := h
  rcases hD with rfl | rfl
  all_goals simp [w_drawn]
  all_goals exact draw_loop (f := fun h => !decide (h.1 ∈ ss) && !decide (h.2.1 ∈ ss)) trivial hE hin hlen (fun h => rfl) (by unfold drawnF at k; simpa using k)
theorem r_left (rs : List R) (Pd : R → Prop) (h : Ph_left rs Pd) (hl : rs.length = 2) : w_left { nx := fun _ _ => Pd (.d .none), rt := fun r κ => Opt (outR κ 0 r) Pd } (rs.map some ++ List.replicate 0 none) [] := by
  obtain ⟨row, ss, D, E, hD, hE, rfl, hlen, hin, k⟩ := h
  simp [w_left]
  refine ⟨row, ss, D, E, hD, hE, rfl, hlen, hin, ?_⟩
  simp
  refine ⟨drawnF row ss, _, .inl rfl, rfl, Nat.le_trans (List.length_filter_le _ _) hlen, hin.filter, by simpa using k⟩
theorem r_kept (rs : List R) (Pd : R → Prop) (h : Ph_kept rs Pd) (hl : rs.length = 2) : w_kept { nx := fun _ _ => Pd (.d .none), rt := fun r κ => Opt (outR κ 0 r) Pd } (rs.map some ++ List.replicate 1 none) [] := by
  obtain ⟨row, ss, D, E, hD, hE, rfl, hlen, hin, k⟩ := h
  rcases hD with rfl | rfl
  all_goals simp [w_kept]
  all_goals refine draw_loop (f := fun h => decide (h.1 ∈ ss) && decide (h.2.1 ∈ ss)) trivial hE hin hlen (fun h => rfl) ?_
  all_goals simp
  all_goals exact ⟨keptF row ss, _, .inl rfl, rfl, Nat.le_trans (List.length_filter_le _ _) hlen, hin.filter, by simpa using k⟩
theorem r_held (rs : List R) (Pd : R → Prop) (h : Ph_held rs Pd) (hl : rs.length = 1) : w_held { nx := fun _ _ => Pd (.d .none), rt := fun r κ => Opt (outR κ 0 r) Pd } (rs.map some ++ List.replicate 0 none) [] := by
  obtain ⟨row, D, hD, rfl, hlen, hin, k⟩ := h
  simp [w_held]
  refine ⟨row, D, hD, rfl, by omega, hin, ?_⟩
  simp
  exact ⟨settledF row, _, .inl rfl, rfl, by have := settled_len row; omega, by unfold heldF at k; simpa using k⟩
theorem r_freed (rs : List R) (Pd : R → Prop) (h : Ph_freed rs Pd) (hl : rs.length = 2) : w_freed { nx := fun _ _ => Pd (.d .none), rt := fun r κ => Opt (outR κ 0 r) Pd } (rs.map some ++ List.replicate 2 none) [] := by
  obtain ⟨row, ss, D, E, hD, hE, rfl, hlen, hsl, hin, k⟩ := h
  have dl : (drawnF row ss).length ≤ row.length := List.length_filter_le _ _
  have hd := held_len (drawnF row ss)
  have hh := held_len row
  have fin : ∀ κ, lcL (fun _ => True) (wName 3) (wB (wBin (inD true) (wVar 3) (wVar 2))) (wVar 3) [some (.d D), some (.d E), some (.d (.list ((ss ++ heldF (drawnF row ss)).map .str))), none]
      (fun r κ1 => Opt (vals κ1 [r.st]) fun xs => Opt (tupC xs) fun o => Opt (outR κ1 0 o.r) Pd) ((heldF row).map .str) [] κ := fun κ => by
    have hN : NmD (.list ((ss ++ heldF (drawnF row ss)).map .str)) (ss ++ heldF (drawnF row ss)) := ⟨.inl rfl, fun z hz => (List.mem_append.mp hz).elim (hE.2 z) (held_names hin.filter z)⟩
    refine lc_filter PyData.str (fun r => !decide (r ∈ ss ++ heldF (drawnF row ss))) PyData.str trivial (heldF row) [] (by rw [sizeLine_eq, List.length_nil]; omega) (fun z hz C hC => ?_) ?_
    · have e1 := in_names true hN (held_names hin z hz)
      simp only [s_name, s_B, s_bin, s_var, List.set_cons_succ, List.set_cons_zero, List.getElem?_cons_succ, List.getElem?_cons_zero, st_d, val_d, Opt_some, e1, out_v, if_true]
      exact hC _ fun _ Q hQ => by simpa using hQ
    · have := k
      unfold freedF at this
      simpa using this
  have step : ∀ (L : PyData), (L = .list (ss.map .str) ∨ L = .tuple (ss.map .str)) → listC [L] = some (.n (ss.map .str)) := fun L hL => by rcases hL with rfl | rfl <;> rfl
  simp only [w_freed, s_seq, s_set, s_bin, s_cb, s_cons, s_nil, s_call, s_var, List.map_cons, List.map_nil, List.replicate_succ, List.replicate_zero, List.cons_append, List.nil_append, List.getElem?_cons_succ, List.getElem?_cons_zero, st_d, args_d, DL.args_nil, Opt_some, vals_cons, vals_nil, val_d, step E hE.1, out_n, st_f, val_f]
  refine ⟨row, ss, D, E, hD, hE, rfl, by omega, hin, ?_⟩
  simp only [st_f, args_d, DL.args_nil, Opt_some]
  refine ⟨drawnF row ss, _, .inl rfl, rfl, by omega, hin.filter, ?_⟩
  have al : addD (.list (ss.map .str)) (.list ((heldF (drawnF row ss)).map .str)) = some (.n ((ss ++ heldF (drawnF row ss)).map .str)) := by
    rw [addD_list (by rw [List.length_map, List.length_map, sizeLine_eq]; omega), List.map_append]
  simp only [st_d, val_d, listC_tuple, Opt_some, out_n, st_f, val_f, al, sto_f, List.set_cons_succ, List.set_cons_zero, s_ret, s_cb, s_cons, s_nil, s_lc, s_sq, s_call, s_var, List.getElem?_cons_zero, args_d, DL.args_nil]
  refine ⟨row, D, hD, rfl, hlen, hin, ?_⟩
  simp only [st_d, val_d, Opt_some]
  exact fin []
end SH
/-! DLsf: sorted(set(xs)), len(set(xs)), xs a list of keys. -/
namespace DL
open PySem PySem.Spec PyProof.Rows L2
def keysD : List PyData → Option (List Key)
  | [] => some []
  | x :: xs => match keyD x, keysD xs with
    | some k, some ks => some (k :: ks)
    | _, _ => none
def dedupK (ks : List Key) : List Key := ks.foldl addK []
theorem foldK_nd : ∀ (ks acc : List Key), acc.Nodup → (ks.foldl addK acc).Nodup
  | [], _, h => h
  | k :: ks, acc, h => foldK_nd ks _ (addK_nd h)
theorem foldK_mem : ∀ (ks acc : List Key) (j : Key), j ∈ ks.foldl addK acc ↔ j ∈ acc ∨ j ∈ ks
  | [], acc, j => by simp
  | k :: ks, acc, j => by
    rw [List.foldl_cons, foldK_mem ks (addK acc k) j, ← inK_iff, addK_in, Bool.or_eq_true, inK_iff, decide_eq_true_iff, List.mem_cons]
    exact ⟨fun h => h.elim (fun h => h.elim .inl fun h => .inr (.inl h)) fun h => .inr (.inr h), fun h => h.elim (fun h => .inl (.inl h)) fun h => h.elim (fun h => .inl (.inr h)) .inr⟩
theorem dedupK_nd (ks : List Key) : (dedupK ks).Nodup := foldK_nd ks [] List.nodup_nil
theorem dedupK_mem (ks : List Key) (j : Key) : j ∈ dedupK ks ↔ j ∈ ks := by
  unfold dedupK
  rw [foldK_mem]
  simp
theorem keysD_ok {K : PySem.W.Frag} {G : Hp} : ∀ {ds : List PyData} {vs : List V} {ks : List Key}, keysD ds = some ks → RpA K G vs ds → vs = ks.map kV
  | [], _, _, e, h => by
    cases e; cases h; rfl
  | d :: ds, _, ks, e, h => by
    cases h with
    | cons h1 h2 =>
      unfold keysD at e
      cases q1 : keyD d with
      | none => rw [q1] at e; cases e
      | some k =>
        cases q2 : keysD ds with
        | none => rw [q1, q2] at e; cases e
        | some ks' =>
          rw [q1, q2] at e
          cases e
          rw [key_rel q1 h1, keysD_ok q2 h2]
          rfl
theorem SetM.len {w : World} {h : Heap} {a : Addr} {ks : List Key} {n : Nat} (R : SetM w h a (inK ks) n) : n = (dedupK ks).length ∧ n < scanBound := by
  obtain ⟨o, es, ep, t, ho, hex, hd, g, nd, hm, ⟨hb, hf⟩, hn, _⟩ := R
  refine ⟨?_, by omega⟩
  have p : (es.toList.map kOf).Perm (dedupK ks) := (List.perm_ext_iff_of_nodup nd (dedupK_nd ks)).mpr fun k => by rw [← hm k, dedupK_mem, inK_iff]
  rw [← p.length_eq, List.length_map, Array.length_toList]
  exact hn.symm
def rSetL (K : PySem.W.Frag) (w : World) : List V → Hp → VK → Prop := fun vs H Q => ∃ (l : Addr) (ks : List Key), vs = [V.ref l] ∧ SqL K H l (ks.map kV) ∧ ks.length + 1 < scanBound ∧ ∀ (p : Addr) (n : Nat), H p = none → Q (.ref p) (upd H p (SetMO w p (inK ks) n))
def rLenM (w : World) : List V → Hp → VK → Prop := fun vs H Q => ∃ (a : Addr) (ks : List Key) (n : Nat), vs = [V.ref a] ∧ H a = some (SetMO w a (inK ks) n) ∧ Q (.int ((dedupK ks).length : Nat)) H
section
variable {X : Cx}
theorem cr_setL (hc : X.calm = true) : CallR X (.type "set") (rSetL X.K X.w) := by
  intro pins s σ H vs us Q I r h
  obtain ⟨l, ks, rfl, hs, hb, q⟩ := h
  obtain ⟨its, rv, hl, _⟩ := I.list hs
  rw [Vals.ref1 r]
  have hlen : its.toArray.size = ks.length := by
    have := Paired.length rv
    rw [List.length_map] at this
    simpa using this.symm
  refine setM_of_list ks (I.ok.hd hc) hl.isList hlen hb (fun i v hv => ?_) fun h' tk c hS hcn hk => ?_
  · obtain ⟨x, e1, e2⟩ := prd_getR rv (i := i) (y := v) (by simpa using hv)
    rw [List.getElem?_map] at e1
    cases q1 : ks[i]? with
    | none => rw [q1] at e1; cases e1
    | some k =>
      rw [q1] at e1
      cases e1
      exact ⟨k, rfl, kV_is (P := X.prog) (w := X.w) e2⟩
  · exact ⟨.ref _, _, I.laid (t' := tk) hk (Nat.le_refl _) (setMO_new hS), rfl, q _ c (I.hok.fresh (Nat.le_refl _))⟩
theorem cr_lenM : CallR X (.builtin "len") (rLenM X.w) := by
  intro pins s σ H vs us Q I r h
  obtain ⟨a, ks, n, rfl, ha, q⟩ := h
  have R := setMO_get I ha
  obtain ⟨e1, e2⟩ := R.len
  rw [Vals.ref1 r]
  obtain ⟨o, es, ep, t, ho, hex, hd, g, nd, hm, ⟨hb, hf⟩, hn, _⟩ := R
  refine call_len_set ho hex hd hf (by unfold scanBound at hb; omega) ?_
  rw [hn, e1]
  exact ⟨.int _, H, I.kept (t' := s.toks + 1 + 1) (fun b o e => e), ⟨_, rfl⟩, q⟩
end
def wSortSet (we : DTE) : DTE := fun ρ κ P => we ρ κ fun r κ1 => Opt (val κ1 r.st) fun x => match x with
  | .list xs => Opt (keysD xs) fun ks => KeysSort ks ∧ ks.length + 1 < scanBound ∧ P (.f (((dedupK ks).mergeSort leK).map keyP)) κ1
  | _ => False
def wLenSet (we : DTE) : DTE := fun ρ κ P => we ρ κ fun r κ1 => Opt (val κ1 r.st) fun x => match x with
  | .list xs => Opt (keysD xs) fun ks => ks.length + 1 < scanBound ∧ P (.d (.int (dedupK ks).length)) κ1
  | _ => False
section
variable {X : Cx} {e : Expr} {we : DTE} {p p2 pos cpos : Pos}
theorem de_sortSet (hc : X.calm = true) (hu : X.A.units + 80 < cLine) (hm : X.mg "sorted" = none) (hm2 : X.mg "set" = none) (he : DE X e we) (hg : Gl X "sorted" := by rfl) (hg2 : Gl X "set" := by rfl) (h1 : starEach [e] X.env = (false, eval e X.env) :: starEach [] X.env := by rfl)
    (h2 : starEach [.Call (.Name "set" p2) [e] [] cpos] X.env = (false, eval (.Call (.Name "set" p2) [e] [] cpos) X.env) :: starEach [] X.env := by rfl) (h3 : (backTo cpos (starEach [] X.env)).any (·.1) = false := by rfl) (h4 : (backTo pos (starEach [] X.env)).any (·.1) = false := by rfl) :
    DE X (.Call (.Name "sorted" p) [.Call (.Name "set" p2) [e] [] cpos] [] pos) (wSortSet we) := by
  obtain ⟨t, pt, he⟩ := he
  refine ⟨_, pe_callB (cr_sortM hc hu) hg hm (by decide +kernel) (pa_cons (pe_callTy (cr_setL hc) hg2 hm2 (by decide +kernel) (pa_cons pt pa_nil h1) (by decide) (by decide) h1 h3) pa_nil h2) (by decide) (by decide) h2 h4, fun G H As σ ρ κ P Q c pl w k => ?_⟩
  show t σ H fun v H1 => rSetL X.K X.w [v] H1 fun v2 H2 => rSortM X.w [v2] H2 Q
  refine he G H As σ ρ κ _ _ c pl w fun v r G1 H1 As1 κ1 s1 c1 p1 i1 w1 => ?_
  obtain ⟨G1', s1', c1', p1', i1', _⟩ := settle s1 c1 p1 i1
  obtain ⟨x, ex, w2⟩ := w1.ex
  cases x with
  | list xs =>
    obtain ⟨ks, ek, hks, hb, w3⟩ := w2.ex
    obtain ⟨a, vs, rfl, q1, q2⟩ := i1'.vw c1' ex
    rw [keysD_ok ek q2] at q1
    refine ⟨a, ks, rfl, sql_of q1, hb, fun q n hq => ?_⟩
    have st2 := s1'.trans (Step.fresh (o := SetMO X.w q (inK ks) n) hq)
    have c2 : Cells X.K G1' (upd H1 q (SetMO X.w q (inK ks) n)) As1 κ1 := c1'.fresh hq
    have es : SetMO X.w q (inK ks) n = SetMO X.w q (inK (dedupK ks)) n := by
      congr 1
      funext j
      exact Bool.eq_iff_iff.mpr (by rw [inK_iff, inK_iff, dedupK_mem])
    refine ⟨q, dedupK ks, n, rfl, by rw [← es]; exact upd_same, keysSort_mem hks (dedupK_mem ks), dedupK_nd ks, fun u hu2 => ?_⟩
    exact k (.ref u) (.f (((dedupK ks).mergeSort leK).map keyP)) G1' _ As1 κ1 (st2.trans (Step.fresh hu2)) (c2.fresh hu2) p1' ⟨u, _, rfl, st2.dom u hu2, c2.ext.free hu2, c2.notin hu2, upd_same, rpa_keys _⟩ w3
  | _ => exact w2.elim
theorem de_lenSet (hc : X.calm = true) (hm : X.mg "len" = none) (hm2 : X.mg "set" = none) (he : DE X e we) (hg : Gl X "len" := by rfl) (hg2 : Gl X "set" := by rfl) (h1 : starEach [e] X.env = (false, eval e X.env) :: starEach [] X.env := by rfl)
    (h2 : starEach [.Call (.Name "set" p2) [e] [] cpos] X.env = (false, eval (.Call (.Name "set" p2) [e] [] cpos) X.env) :: starEach [] X.env := by rfl) (h3 : (backTo cpos (starEach [] X.env)).any (·.1) = false := by rfl) (h4 : (backTo pos (starEach [] X.env)).any (·.1) = false := by rfl) :
    DE X (.Call (.Name "len" p) [.Call (.Name "set" p2) [e] [] cpos] [] pos) (wLenSet we) := by
  obtain ⟨t, pt, he⟩ := he
  refine ⟨_, pe_callB cr_lenM hg hm (by decide +kernel) (pa_cons (pe_callTy (cr_setL hc) hg2 hm2 (by decide +kernel) (pa_cons pt pa_nil h1) (by decide) (by decide) h1 h3) pa_nil h2) (by decide) (by decide) h2 h4, fun G H As σ ρ κ P Q c pl w k => ?_⟩
  show t σ H fun v H1 => rSetL X.K X.w [v] H1 fun v2 H2 => rLenM X.w [v2] H2 Q
  refine he G H As σ ρ κ _ _ c pl w fun v r G1 H1 As1 κ1 s1 c1 p1 i1 w1 => ?_
  obtain ⟨G1', s1', c1', p1', i1', _⟩ := settle s1 c1 p1 i1
  obtain ⟨x, ex, w2⟩ := w1.ex
  cases x with
  | list xs =>
    obtain ⟨ks, ek, hb, w3⟩ := w2.ex
    obtain ⟨a, vs, rfl, q1, q2⟩ := i1'.vw c1' ex
    rw [keysD_ok ek q2] at q1
    refine ⟨a, ks, rfl, sql_of q1, hb, fun q n hq => ?_⟩
    have st2 := s1'.trans (Step.fresh (o := SetMO X.w q (inK ks) n) hq)
    have c2 : Cells X.K G1' (upd H1 q (SetMO X.w q (inK ks) n)) As1 κ1 := c1'.fresh hq
    exact ⟨q, ks, n, rfl, upd_same, k _ (.d (.int (dedupK ks).length)) G1' _ As1 κ1 st2 c2 p1' (.int _) w3⟩
  | _ => exact w2.elim
end
end DL
/-! DLo: sorted(d) of a dict of int keys. -/
namespace DL
open PySem PySem.Spec PyProof.Rows L2
def intsK : List Key → Option (List Int)
  | [] => some []
  | .inl i :: ks => match intsK ks with
    | some is => some (i :: is)
    | none => none
  | .inr _ :: _ => none
theorem intsK_eq : ∀ {ks : List Key} {is : List Int}, intsK ks = some is → ks = is.map Sum.inl
  | [], _, e => by cases e; rfl
  | .inl i :: ks, is, e => by
    unfold intsK at e
    cases q : intsK ks with
    | none => rw [q] at e; cases e
    | some js => rw [q] at e; cases e; rw [intsK_eq q]; rfl
  | .inr _ :: _, _, e => by cases e
theorem intsK_map : ∀ (is : List Int), intsK (is.map Sum.inl) = some is
  | [] => rfl
  | i :: is => by rw [List.map_cons]; unfold intsK; rw [intsK_map is]
def sortI (l : List Int) : List Int := l.mergeSort fun a b => decide (a ≤ b)
theorem sortI_perm (l : List Int) : (sortI l).Perm l := List.mergeSort_perm ..
theorem sortI_pw (l : List Int) : (sortI l).Pairwise (· ≤ ·) :=
  (List.pairwise_mergeSort (le := fun a b : Int => decide (a ≤ b)) (fun a b c h1 h2 => decide_eq_true (Int.le_trans (of_decide_eq_true h1) (of_decide_eq_true h2))) (fun a b => by rw [Bool.or_eq_true]; exact (Int.le_total a b).imp decide_eq_true decide_eq_true) l).imp fun h => of_decide_eq_true h
theorem sortI_uniq {ys l : List Int} (h1 : ys.Perm l) (h2 : ys.Pairwise (· ≤ ·)) : ys = sortI l :=
  sorted_uniq (le := fun a b : Int => decide (a ≤ b)) (fun h1 h2 => Int.le_antisymm (of_decide_eq_true h1) (of_decide_eq_true h2)) (h1.trans (sortI_perm l).symm) (h2.imp fun h => decide_eq_true h) ((sortI_pw l).imp fun h => decide_eq_true h)
theorem sortI_self {l : List Int} (h : l.Pairwise (· ≤ ·)) : sortI l = l := (sortI_uniq (.refl l) h).symm
def wSortDI (wo : DTE) : DTE := fun ρ κ P => wo ρ κ fun ro κ1 => match ro with
  | .c d => match κ1[d]? with
    | some (.m es) => Opt (intsK (es.map (·.1))) fun is => is.length ≤ 1000000 ∧ P (.f ((sortI is).map .int)) κ1
    | _ => False
  | _ => False
theorem mp_keys {K : PySem.W.Frag} {G : Hp} {As : List Addr} : ∀ {kvs : List (Key × V)} {es : List (Key × R)}, Mp K G As kvs es → kvs.map (·.1) = es.map (·.1)
  | _, _, .nil => rfl
  | _, _, .cons q t => by rw [List.map_cons, List.map_cons, mp_keys t, q.1]
theorem intsAre_each : ∀ {vs : List Value} {ks : List Int}, IntsAre vs ks → PySem.W.EachIs (fun (v : Value) (k : Int) => ∃ t : Tok, v = Value.int k t) vs ks
  | _, _, .nil => .nil
  | _, _, .cons _ t h => .cons ⟨t, rfl⟩ (intsAre_each h)
theorem each_imp' {α β : Type} {R S : α → β → Prop} (f : ∀ a b, R a b → S a b) : ∀ {xs : List α} {ys : List β}, PySem.W.EachIs R xs ys → PySem.W.EachIs S xs ys
  | _, _, .nil => .nil
  | _, _, .cons r t => .cons (f _ _ r) (each_imp' f t)
theorem each_vals : ∀ {vs : List Value} {ks : List Int}, PySem.W.EachIs (fun (v : Value) (k : Int) => ∃ t : Tok, v = Value.int k t) vs ks → Vals (ks.map V.int) vs
  | _, _, .nil => .nil
  | _, _, .cons h t => by
    obtain ⟨tk, rfl⟩ := h
    exact .cons ⟨tk, rfl⟩ (each_vals t)
section
variable {X : Cx}
/-- sorted(d) of a dict, all keys ints -/
theorem call_sortedDB (hu : X.A.units + 80 < cLine) (hcalm : X.calm = true) : CallR X (.builtin "sorted") (fun xs H Q => ∃ (a : Addr) (kvs : List (Key × V)) (ks : List Int), xs = [.ref a] ∧ Rd H a (.dK kvs) ∧ kvs.map (·.1) = ks.map Sum.inl ∧ ks.length ≤ 1000000 ∧
    ∀ (ys : List Int) (p : Addr), ys = sortI ks → H p = none → Q (.ref p) (upd H p (.lst (ys.map V.int)))) := by
  intro pins s σ H xs us Q I r q
  obtain ⟨a, kvs, ks, ex, hd, hks, hL, q⟩ := q
  subst ex
  obtain ⟨u, eu, rx⟩ := vals1 r
  subst eu
  cases rx
  obtain ⟨z, lo, vs, rel, dd⟩ := dk_rd I.hok hd
  obtain ⟨ep, hat⟩ := dd.dictAt
  have hkeys : vs.map (·.1) = ks.map Sum.inl := rel.keys.symm.trans hks
  have hl : vs.length = ks.length := by
    have e := congrArg List.length hkeys
    rw [List.length_map, List.length_map] at e
    exact e
  have h16 : vs.length ≤ sizeLine := by rw [hl, sizeLine_eq]; omega
  refine Calls.call_function_entry PyProof.Rows.kind_sorted PyProof.Rows.plain_sorted PyProof.Rows.entry_sorted (PyProof.Rows.args_sorted1 _) ?_
  unfold Builtin.«sorted»
  refine wpAny_bind (m := checkCount "sorted" 1 1 _) (wpAny_pure ?_)
  refine wpAny_bind (PySem.W.kdu_collect (A := X.A.in1) (PySem.W.kdl_dict (knd := mixKind X.prog X.w) (kvs := vs) (ep := ep) lo) (I.ok.hd hcalm) hat h16 fun h' tk acc hk hacc => ?_)
  have hal : acc.toList.length = ks.length := by rw [Array.length_toList, hacc.1, hl]
  have hS : IntsAre acc.toList ks := ints_each hal fun j v e => by
    obtain ⟨k, x, e1, e2⟩ := hacc.2 j v (by rw [← Array.getElem?_toList]; exact e)
    have e3 : (vs.map (·.1))[j]? = some k := by rw [List.getElem?_map, e1]; rfl
    rw [hkeys, List.getElem?_map] at e3
    cases e4 : ks[j]? with
    | none => rw [e4] at e3; cases e3
    | some y =>
      rw [e4] at e3
      have e5 : Sum.inl y = k := Option.some.inj e3
      subst e5
      rcases keyIs_shape (show keyIs (Sum.inl y) v = true from e2) with ⟨i, t, ek, ev⟩ | ⟨z, t, ek, ev⟩
      · cases ek
        exact ⟨y, t, rfl, ev⟩
      · cases ek
  have I1 : Inv X pins σ H { s with heap := h', toks := tk } := I.kept hk
  refine wpAny_bind (wpAny_newList ?_ (by rw [hal, sizeLine_eq]; omega))
  have hoL : (h'.push (seqObj "list" acc.toList.toArray 0)).get? h'.objs.size = some (seqObj "list" acc.toList.toArray 0) := Heap.get?_push_size _ rfl
  show wpAny _ _ _ _ _ { s with heap := h'.push (seqObj "list" acc.toList.toArray 0), toks := tk }
  have hE : PySem.W.EachIs (fun (v : Value) (k : Int) => ∃ t : Tok, v = Value.int k t) acc.toList ks := intsAre_each hS
  refine wpAny_bind (wpAny_holding (PySem.W.list_sort_data (s := { s with heap := h'.push (seqObj "list" acc.toList.toArray 0), toks := tk }) (enc := PyData.int) hoL hE (each_imp' (fun v k e => by obtain ⟨t, rfl⟩ := e; exact ⟨[], Reads.int k t, by simp⟩) hE)
    (PySem.W.AllAlike.of (fun _ _ => rfl)) (PySem.W.Sortable.others (fun _ => ⟨(fun z => nomatch z), fun xs z => nomatch z⟩)) (by rw [sizeLine_eq]; omega) (fun k _ => ?_) fun out hol he => ?_))
  · show X.A.units + 1 + 1 + 0 < _
    omega
  have e0 : ks.mergeSort (PySem.W.dataLe false PyData.int) = sortI ks := by
    rw [PySem.W.dataLe_int (fun k => k)]
    rfl
  rw [e0] at he
  obtain ⟨e', he'⟩ := PyProof.Rows.sortedHeap_at (vs := acc.toList) (out := out.toArray) hoL
  have hlen : ((sortI ks).map V.int).length ≤ sizeLine := by
    rw [List.length_map, (sortI_perm ks).length_eq, sizeLine_eq]
    omega
  refine wpAny_pure ⟨_, rfl, .ref h'.objs.size, upd H h'.objs.size (.lst ((sortI ks).map V.int)), I1.laid (t' := tk) (fun b u e => ?_) (Nat.le_refl _)
    (show ObjOk X.prog X.w _ _ _ (.lst ((sortI ks).map V.int)) from ⟨hlen, out, e', each_vals he, he'⟩), rfl, q _ _ rfl (I1.hok.fresh (Nat.le_refl _))⟩
  have hb : b < h'.objs.size := Heap.lt_size e
  show (PyProof.Rows.sortedHeap (h'.push (seqObj "list" acc.toList.toArray 0)) h'.objs.size acc.toList out.toArray).get? b = some u
  rw [PyProof.Rows.sortedHeap_old (Nat.ne_of_lt hb) (by rw [size_push']; exact Nat.lt_succ_of_lt hb)]
  exact Heap.get?_push_of_some _ e
end
section
variable {X : Cx} {e : Expr} {we : DTE} {p pos : Pos}
theorem rpa_int {K : PySem.W.Frag} {G : Hp} : ∀ (l : List Int), RpA K G (l.map V.int) (l.map PyData.int)
  | [] => .nil
  | i :: l => .cons (.int i) (rpa_int l)
theorem de_sortDI (hc : X.calm = true) (hu : X.A.units + 80 < cLine) (hm : X.mg "sorted" = none) (he : DE X e we) (hg : Gl X "sorted" := by rfl) (h1 : starEach [e] X.env = (false, eval e X.env) :: starEach [] X.env := by rfl)
    (h4 : (backTo pos (starEach [] X.env)).any (·.1) = false := by rfl) :
    DE X (.Call (.Name "sorted" p) [e] [] pos) (wSortDI we) := by
  obtain ⟨t, pt, he⟩ := he
  refine ⟨_, pe_callB (call_sortedDB hu hc) hg hm (by decide +kernel) (pa_cons pt pa_nil h1) (by decide) (by decide) h1 h4, fun G H As σ ρ κ P Q c pl w k => ?_⟩
  refine he G H As σ ρ κ _ _ c pl w fun v r G1 H1 As1 κ1 s1 c1 p1 i1 w1 => ?_
  cases r with
  | c d =>
    obtain ⟨a, ha, rfl⟩ := i1
    dsimp only at w1
    split at w1
    · rename_i es hk
      obtain ⟨is, ei, hl, w2⟩ := w1.ex
      obtain ⟨g0, kvs, hq, mp⟩ := c1.ok d _ a hk ha
      refine ⟨a, kvs, is, rfl, .inl hq, (mp_keys mp).trans (intsK_eq ei), hl, fun ys u hys hu => ?_⟩
      rw [hys]
      have st := s1.trans (Step.fresh (o := .lst ((sortI is).map V.int)) hu)
      exact k (.ref u) (.f ((sortI is).map .int)) G1 _ As1 κ1 st (c1.fresh hu) (pl.step st) ⟨u, _, rfl, s1.dom u hu, c1.ext.free hu, c1.notin hu, upd_same, rpa_int _⟩ w2
    · exact w1.elim
  | _ => exact w1.elim
end
end DL
/-! SHr: comparing good things; the ropes of a row named by a rising list. -/
namespace SH
open PySem PySem.Spec PyProof.Rows L2 DL
theorem layAll_of {xs : List PyData} (h : ∀ x ∈ xs, x.canLay0 = true) : PyData.canLayAll0 xs = true := by
  induction xs with
  | nil => simp [PyData.canLayAll0]
  | cons x xs ih => rw [PyData.canLayAll0, h x (List.mem_cons_self ..), ih fun y hy => h y (List.mem_cons_of_mem _ hy)]; rfl
theorem depthAll_of {xs : List PyData} {n : Nat} (h : ∀ x ∈ xs, x.depth ≤ n) : PyData.depthAll xs ≤ n := by
  induction xs with
  | nil => simp [PyData.depthAll]
  | cons x xs ih =>
    rw [PyData.depthAll]
    have := h x (List.mem_cons_self ..)
    have := ih fun y hy => h y (List.mem_cons_of_mem _ hy)
    omega
theorem good_lay : ∀ (n : Nat) (x : PyData), GoodN n x → x.canLay0 = true ∧ x.depth ≤ n
  | 0, _, h => h.elim
  | n + 1, .list xs, h => by
    refine ⟨?_, ?_⟩
    · rw [PyData.canLay0]; exact layAll_of fun x hx => (good_lay n x (h.2 x hx)).1
    · rw [PyData.depth]; have := depthAll_of fun x hx => (good_lay n x (h.2 x hx)).2; omega
  | n + 1, .tuple xs, h => by
    refine ⟨?_, ?_⟩
    · rw [PyData.canLay0]; exact layAll_of fun x hx => (good_lay n x (h.2 x hx)).1
    · rw [PyData.depth]; have := depthAll_of fun x hx => (good_lay n x (h.2 x hx)).2; omega
  | n + 1, .str z, h => ⟨SeqAt.canLay_of_shaped h, by simp [PyData.depth]⟩
  | n + 1, .int i, _ => ⟨by simp [PyData.canLay0], by simp [PyData.depth]⟩
  | n + 1, .bool i, _ => ⟨by simp [PyData.canLay0], by simp [PyData.depth]⟩
  | n + 1, .none, _ => ⟨by simp [PyData.canLay0], by simp [PyData.depth]⟩
theorem good_shaped {n : Nat} {x : PyData} (h : GoodN n x) (hn : n ≤ 64) : SeqAt.shaped x = true := by
  obtain ⟨a, b⟩ := good_lay n x h
  unfold SeqAt.shaped
  rw [a, Bool.true_and]
  exact decide_eq_true (by omega)
/-- a good thing equals itself -/
theorem eqD_self {n : Nat} {x : PyData} (neg : Bool) (h : GoodN n x) (hn : n ≤ 64 := by decide) : eqD neg x x = some (.v (.bool (!neg))) := by
  have s := good_shaped h hn
  rw [eqD_of s s, SeqAt.eqv_refl x (good_lay n x h).1]
  cases neg <;> rfl
theorem good_strs {n : Nat} {ss : List Str} (h : ∀ z ∈ ss, IsName z) (hl : ss.length ≤ 16000000) : GoodN (n + 2) (.tuple (ss.map .str)) ∧ GoodN (n + 2) (.list (ss.map .str)) := by
  have e : (ss.map PyData.str).length ≤ sizeLine := by rw [List.length_map, sizeLine_eq]; omega
  have f : ∀ x ∈ ss.map PyData.str, GoodN (n + 1) x := fun x hx => by
    obtain ⟨z, hz, rfl⟩ := List.mem_map.mp hx
    exact (h z hz).shaped
  exact ⟨⟨e, f⟩, ⟨e, f⟩⟩
theorem leK_lt {x y : Str} (h : cs x < cs y) : leK (.inr x) (.inr y) = true := by
  have t := leK_total (.inr x) (.inr y)
  rw [Bool.or_eq_true] at t
  rcases t with t | t
  · exact t
  · rw [leK_eq, Bool.not_eq_true'] at t
    have e : PyProof.Rows.lexLt PyProof.Rows.itemOrd (tkK (.inr x)) (tkK (.inr y)) = true := by
      show PyProof.Rows.lexLt PyProof.Rows.itemOrd [Sum.inr x.cps.toList] [Sum.inr y.cps.toList] = true
      rw [lex_s]
      have : x.cps.toList < y.cps.toList := h
      simp [this]
    rw [e] at t; cases t
theorem cs_ne {x y : Str} (h : cs x < cs y) : x ≠ y := fun e => by
  subst e
  exact List.lt_irrefl _ h
/-- the ropes of a row are known by what they are -/
theorem ropesF_eq {row : Row} {ns : List Str} (h1 : ns.Pairwise fun x y => cs x < cs y) (h2 : ∀ r, r ∈ ns ↔ ∃ h ∈ row, touches r h = true) : ropesF row = ns := by
  have nd : (ns.map Sum.inr : List Key).Nodup := by
    rw [List.nodup_iff_pairwise_ne, List.pairwise_map]
    exact h1.imp fun {a b} q e => cs_ne q (Sum.inr.inj e)
  have pw : (ns.map Sum.inr : List Key).Pairwise fun a b => leK a b = true := by
    rw [List.pairwise_map]
    exact h1.imp fun {a b} q => leK_lt q
  have e1 : (ropesK row).mergeSort leK = ns.map Sum.inr := by
    rw [sortK_uniq (ropesK_nd row) nd fun k => ?_]
    · exact sorted_uniq (le := leK) leK_anti (List.mergeSort_perm _ _) (List.pairwise_mergeSort leK_trans leK_total _) pw
    · rw [ropesK_mem, List.mem_map]
      constructor
      · rintro ⟨h, hh, rfl | rfl⟩
        · exact ⟨h.1, (h2 _).mpr ⟨h, hh, touches_iff.mpr (.inl rfl)⟩, rfl⟩
        · exact ⟨h.2.1, (h2 _).mpr ⟨h, hh, touches_iff.mpr (.inr rfl)⟩, rfl⟩
      · rintro ⟨r, hr, rfl⟩
        obtain ⟨h, hh, t⟩ := (h2 r).mp hr
        exact ⟨h, hh, (touches_iff.mp t).imp (fun e => by rw [e]) fun e => by rw [e]⟩
  unfold ropesF
  rw [e1, List.map_map]
  exact List.map_id _
end SH
/-! SHs: the law's own stacks. -/
namespace SH
open PySem PySem.Spec PyProof.Rows L2 DL
def Ph_law_settled (rs : List R) (P : R → Prop) : Prop := ∃ (row : Row) (D : PyData), RowD D row ∧ rs = [.d D] ∧ row.length < 1000 ∧ RowIn row ∧ P (.f ((settledF row).map hookD))
def wt_law_settled : DTT := (wAnd (wB (wBin (eqD true) (wVar 7) (wLst wNil))) (wAnd (wB (wBin (eqD true) (wVar 8) (wLst wNil))) (wAnd (wB (wBin (eqD false) (wBin ixD (wVar 7) (wUn negD (wC (.int 1)))) (wBin ixD (wVar 8) (wUn negD (wC (.int 1)))))) (wB (wBin (eqD false) (wBin ixD (wVar 0) (wBin ixD (wVar 7) (wUn negD (wC (.int 1))))) (wTup (wCons (wVar 4) (wCons (wVar 5) (wCons (wUn negD (wVar 6)) wNil)))))))))
def wd_law_settled : DTS := (wSeq (wDrop (wPopD (wVar 2) (wPop0 (wVar 7))))
  (wDrop (wPop0 (wVar 8))))
def wa_law_settled : DTS := (wSeq (wDrop (wAppend (wVar 7) (wVar 3)))
  (wSeq (wDrop (wAppend (wVar 8) (wVar 3)))
  (wAsg (wC (.bool true)) (wSubD (wVar 2) (wVar 3)))))
def wb_law_settled : DTS := (wSeq (wPar 7 8 (wConsM true (wSetd (wVar 1) (wVar 4)) (wConsM true (wSetd (wVar 1) (wVar 5)) wNil)))
  (wIfS wt_law_settled wd_law_settled wa_law_settled))
/-- _law_settled -/
def w_law_settled : DTS := (wSeq (wPar 1 2 (wConsM false wDict0 (wConsM true wDict0 wNil)))
  (wSeq (wFor (wEnum (wCons (wVar 0) wNil)) (wTupG 2 (wgCons (wName 3) (wgCons (wTupG 3 (wgCons (wName 4) (wgCons (wName 5) (wgCons (wName 6) wgNil)))) wgNil))) wb_law_settled)
  (wRet (wLc (wSq (wSortDI (wVar 2))) (wName 3) wYes (wBin ixD (wVar 0) (wVar 3)) [3]))))
/-- nothing but a truth -/
def trueH : Hook → PyData := fun _ => .bool true
theorem eqD_nats0 (l : List Nat) : eqD true (.list (natsD l)) (.list []) = some (.v (.bool (!l.isEmpty))) := by
  have s : SeqAt.shaped (.list (natsD l)) = true := by
    have a : PyData.canLay0 (.list (natsD l)) = true := by
      rw [PyData.canLay0]
      refine layAll_of fun x hx => ?_
      obtain ⟨i, _, rfl⟩ := List.mem_map.mp hx
      simp [PyData.canLay0]
    have b : (PyData.list (natsD l)).depth ≤ 64 := by
      rw [PyData.depth]
      have := depthAll_of (xs := natsD l) (n := 0) fun x hx => by
        obtain ⟨i, _, rfl⟩ := List.mem_map.mp hx
        simp [PyData.depth]
      omega
    unfold SeqAt.shaped
    rw [a, Bool.true_and]
    exact decide_eq_true (by omega)
  rw [eqD_of s (by unfold SeqAt.shaped PyData.canLay0; simp [PyData.canLayAll0, PyData.depth, PyData.depthAll])]
  cases l <;> simp [natsD, PyData.eqv, PyData.eqvAll]
abbrev env9 (D : PyData) (i : Nat) (h : Hook) (j1 j2 : Nat) : Rho := [some (.d D), some (.c 0), some (.c 1), some (.d (.int i)), some (.d (.str h.1)), some (.d (.str h.2.1)), some (.d (.int h.2.2)), some (.c j1), some (.c j2)]
theorem test_law_settled {n i : Nat} {κ : Kap} {st : List (Key × R)} {ks : KR} {h : Hook} {row : Row} {D : PyData} {j1 j2 : Nat} {P : Bool → Kap → Prop} (hD : RowD D row) (I : SInv trueH n κ st ks) (K : KOk row i ks) (hin : RowIn row) (hh : IsName h.1 ∧ IsName h.2.1 ∧ h.1 ≠ h.2.1)
    (l1 : lookM st (.inr h.1) = some (.c j1)) (l2 : lookM st (.inr h.2.1) = some (.c j2))
    (kt : ∀ p, (posOf h.1 ks).getLast? = some p → (posOf h.2.1 ks).getLast? = some p → row[p]? = some (turned h) → P true κ)
    (kf : (¬ ∃ p, (posOf h.1 ks).getLast? = some p ∧ (posOf h.2.1 ks).getLast? = some p ∧ row[p]? = some (turned h)) → P false κ) :
    wt_law_settled (env9 D i h j1 j2) κ P := by
  obtain ⟨g1, a1⟩ := I.at_ _ _ l1
  obtain ⟨g2, a2⟩ := I.at_ _ _ l2
  have ne0 : ∀ {l : List Nat} {p : Nat}, l.getLast? = some p → eqD true (.list (natsD l)) (.list []) = some (.v (.bool true)) := fun {l p} e => by
    rw [eqD_nats0]
    cases l with
    | nil => cases e
    | cons => rfl
  have em0 : eqD true (.list []) (.list []) = some (.v (.bool false)) := eqD_nats0 []
  cases e1 : (posOf h.1 ks).getLast? with
  | none =>
    have n1 := List.getLast?_eq_none_iff.mp e1
    have f := kf fun ⟨p, q, _⟩ => by rw [e1] at q; cases q
    rw [n1] at a1
    simp [wt_law_settled, val_c a1, natsD, em0]
    exact f
  | some p =>
    cases e2 : (posOf h.2.1 ks).getLast? with
    | none =>
      have n2 := List.getLast?_eq_none_iff.mp e2
      have f := kf fun ⟨p, _, q, _⟩ => by rw [e2] at q; cases q
      rw [n2] at a2
      have a2' : κ[j2]? = some (.l []) := a2
      simp [wt_law_settled, val_c a1, val_c a2', ne0 e1, em0]
      exact f
    | some q =>
      obtain ⟨g, hg, hrow, _, _⟩ := K.get (List.mem_of_getLast? e1)
      have ixr : ixD D (.int (p : Int)) = some (.v (hookD g)) := by
        have e : (row.map hookD)[p]? = some (hookD g) := by
          rw [List.getElem?_map, hrow]
          rfl
        rcases hD with rfl | rfl
        · exact ixD_list (atI_nat e)
        · exact ixD_tuple (atI_nat e)
      have hgin := hin g (List.mem_of_getElem? hrow)
      by_cases epq : p = q
      · subst epq
        have ed : eqD false (hookD g) (.tuple [.str h.1, .str h.2.1, .int (-h.2.2)]) = some (.v (.bool (decide (g = turned h)))) := eqD_hook hgin.1 hgin.2.1 (h := turned h) hh.1 hh.2.1
        simp [wt_law_settled, val_c a1, val_c a2, ne0 e1, ne0 e2, ix_natsD e1, ix_natsD e2, eqD_int3, ixr, ed]
        by_cases eg : g = turned h
        · simp only [eg, if_true, decide_true]
          refine ⟨by rw [sizeLine_eq]; decide, ?_⟩
          exact kt p e1 e2 (by rw [hrow, eg])
        · refine ⟨by rw [sizeLine_eq]; decide, ?_⟩
          rw [decide_eq_false eg]
          refine kf fun ⟨p', q1, _, q3⟩ => ?_
          rw [e1] at q1
          cases q1
          rw [hrow] at q3
          exact eg (Option.some.inj q3)
      · have f := kf fun ⟨p', q1, q2, _⟩ => by
          rw [e1] at q1
          rw [e2] at q2
          cases q1
          cases q2
          exact epq rfl
        simp [wt_law_settled, val_c a1, val_c a2, ne0 e1, ne0 e2, ix_natsD e1, ix_natsD e2, eqD_int3, epq]
        rw [if_neg (by omega)]
        exact f
theorem keptT_look {f : Hook → PyData} {ks : KR} {p : Nat} {g : Hook} (h : (p, g) ∈ ks) : ∃ y, lookM (keptE f ks) (.inl (p : Int)) = some (.d y) := by
  obtain ⟨r, e⟩ := keptE_look (f := f) h
  have : ∃ y, r = .d y := by
    unfold lookM at e
    cases q : (keptE f ks).find? fun e => decide (e.1 = Sum.inl (p : Int)) with
    | none => rw [q] at e; cases e
    | some x =>
      rw [q] at e
      cases e
      obtain ⟨z, _, rfl⟩ := List.mem_map.mp (List.mem_of_find?_eq_some q)
      exact ⟨_, rfl⟩
  obtain ⟨y, rfl⟩ := this
  exact ⟨y, e⟩
theorem law_app_branch {n i : Nat} {κ : Kap} {st : List (Key × R)} {ks : KR} {h : Hook} {j1 j2 : Nat} {D : PyData} {E : DEnds} (I : SInv trueH n κ st ks) (l1 : lookM st (.inr h.1) = some (.c j1)) (l2 : lookM st (.inr h.2.1) = some (.c j2)) (hne : h.1 ≠ h.2.1)
    (lt : ∀ p ∈ ks, p.1 < i) (hk : ks.length ≤ 1000000)
    (k : ∀ κ', SInv trueH n κ' st (ks ++ [(i, h)]) → E.nx (env9 D i h j1 j2) κ') :
    wa_law_settled E (env9 D i h j1 j2) κ := by
  obtain ⟨g1, a1⟩ := I.at_ _ _ l1
  obtain ⟨g2, a2⟩ := I.at_ _ _ l2
  have j12 : j1 ≠ j2 := fun e => by
    subst e
    exact hne (I.apart _ _ _ l1 l2)
  have b1 : (κ.set j1 (Cell.l (natsD (posOf h.1 ks) ++ [.int (i : Int)])))[j2]? = some (.l (natsD (posOf h.2.1 ks))) := by rw [List.getElem?_set_ne j12]; exact a2
  have b2 : ((κ.set j1 (Cell.l (natsD (posOf h.1 ks) ++ [.int (i : Int)]))).set j2 (Cell.l (natsD (posOf h.2.1 ks) ++ [.int (i : Int)])))[1]? = some (.m (keptE trueH ks)) := by
    rw [List.getElem?_set_ne (by omega), List.getElem?_set_ne (by omega)]; exact I.s1
  have f1 := pos_len h.1 ks
  have f2 := pos_len h.2.1 ks
  have kl : (keptE trueH ks).length = ks.length := by unfold keptE; rw [List.length_map]
  simp [wa_law_settled, a1, b1]
  refine ⟨by rw [sizeLine_eq, natsD_len]; omega, by rw [sizeLine_eq, natsD_len]; omega, ?_⟩
  unfold wSubD
  simp only [dat_d, Opt_some, s_var, List.getElem?_cons_succ, List.getElem?_cons_zero]
  simp only [b2, keyD, Opt_some]
  refine ⟨by rw [sizeLine_eq, kl]; omega, ?_⟩
  have e : putM (keptE trueH ks) (.inl (i : Int)) (.d (.bool true)) = keptE trueH (ks ++ [(i, h)]) := keptE_put (f := trueH) lt
  rw [e]
  exact k _ (I.app l1 l2)
theorem law_del_branch {n i p : Nat} {κ : Kap} {st : List (Key × R)} {ks : KR} {h g : Hook} {row : Row} {j1 j2 : Nat} {D : PyData} {E : DEnds} (I : SInv trueH n κ st ks) (K : KOk row i ks) (l1 : lookM st (.inr h.1) = some (.c j1)) (l2 : lookM st (.inr h.2.1) = some (.c j2)) (hne : h.1 ≠ h.2.1)
    (e1 : (posOf h.1 ks).getLast? = some p) (e2 : (posOf h.2.1 ks).getLast? = some p) (hg : (p, g) ∈ ks) (hgt : g = turned h)
    (k : ∀ κ', SInv trueH n κ' st (ks.filter fun e => decide (e.1 ≠ p)) → E.nx (env9 D i h j1 j2) κ') :
    wd_law_settled E (env9 D i h j1 j2) κ := by
  obtain ⟨g1, a1⟩ := I.at_ _ _ l1
  obtain ⟨g2, a2⟩ := I.at_ _ _ l2
  have j12 : j1 ≠ j2 := fun e => by
    subst e
    exact hne (I.apart _ _ _ l1 l2)
  obtain ⟨t1, d1⟩ := last_natsD e1
  obtain ⟨t2, d2⟩ := last_natsD e2
  have b1 : (κ.set j1 (Cell.l (natsD (posOf h.1 ks).dropLast)))[1]? = some (.m (keptE trueH ks)) := by rw [List.getElem?_set_ne (by omega)]; exact I.s1
  obtain ⟨y, lk⟩ := keptT_look (f := trueH) hg
  have b2 : ((κ.set j1 (Cell.l (natsD (posOf h.1 ks).dropLast))).set 1 (Cell.m (keptE trueH (ks.filter fun e => decide (e.1 ≠ p)))))[j2]? = some (.l (natsD (posOf h.2.1 ks))) := by
    rw [List.getElem?_set_ne (by omega), List.getElem?_set_ne j12]; exact a2
  unfold wd_law_settled
  rw [s_seq, s_drop]
  unfold wPopD wPop0
  simp only [s_var, List.getElem?_cons_succ, List.getElem?_cons_zero, a1, t1, Opt_some, d1, st_d, b1, keyD, lk]
  refine ⟨⟨_, I.s1⟩, ?_⟩
  rw [keptE_drop]
  simp only [s_drop, s_var, List.getElem?_cons_succ, List.getElem?_cons_zero, b2, t2, Opt_some, d2]
  exact k _ (I.del K l1 l2 hne e1 e2 hg hgt)
theorem law_settled_body {n i : Nat} {κ : Kap} {st : List (Key × R)} {ks : KR} {h : Hook} {row : Row} {D : PyData} {p7 p8 : Option R} {E : DEnds} (hD : RowD D row) (I : SInv trueH n κ st ks) (K : KOk row i ks) (hin : RowIn row) (hi : row[i]? = some h) (hn : n < 4000000) (hl : row.length ≤ 1000000)
    (k : ∀ κ' st' q7 q8, SInv trueH (n + 2) κ' st' (sStep row ks i h) → E.nx [some (.d D), some (.c 0), some (.c 1), some (.d (.int i)), some (.d (.str h.1)), some (.d (.str h.2.1)), some (.d (.int h.2.2)), q7, q8] κ') :
    wb_law_settled E [some (.d D), some (.c 0), some (.c 1), some (.d (.int i)), some (.d (.str h.1)), some (.d (.str h.2.1)), some (.d (.int h.2.2)), p7, p8] κ := by
  have hh := hin h (List.mem_of_getElem? hi)
  have il : i < row.length := (List.getElem?_eq_some_iff.mp hi).1
  unfold wb_law_settled
  rw [s_seq, s_par, s_consM]
  refine setd_step (v := 4) I (by omega) rfl rfl fun j1 κ1 st1 I1 l1 _ => ?_
  simp only [s_consM, s_nil]
  refine setd_step (v := 5) I1 (by omega) rfl rfl fun j2 κ2 st2 I2 l2 keep => ?_
  have l1' := keep _ _ l1
  simp only [List.set_cons_succ, List.set_cons_zero, s_if]
  refine test_law_settled hD I2 K hin hh l1' l2 (fun p e1 e2 e3 => ?_) fun ne => ?_
  · rw [if_pos rfl]
    obtain ⟨g, hg, hrow, _, _⟩ := K.get (List.mem_of_getLast? e1)
    have eg : g = turned h := by
      rw [hrow] at e3
      exact Option.some.inj e3
    refine law_del_branch I2 K l1' l2 hh.2.2 e1 e2 hg eg fun κ3 I3 => ?_
    rw [← sStep_true (row := row) (i := i) e1 e2 e3] at I3
    exact k κ3 st2 _ _ I3
  · rw [if_neg (by decide)]
    have kl := K.len
    refine law_app_branch I2 l1' l2 hh.2.2 K.lt (by omega) fun κ3 I3 => ?_
    rw [← sStep_false (row := row) ne] at I3
    exact k κ3 st2 _ _ I3
theorem law_settled_loop {ok : Kap → Prop} {E : DEnds} {row : Row} {D : PyData} (hD : RowD D row) (hok : ∀ κ, ok κ) (hin : RowIn row) (hl : row.length ≤ 1000000) : ∀ (hs : Row) (i n : Nat) (κ : Kap) (st : List (Key × R)) (ks : KR) (p3 p4 p5 p6 p7 p8 : Option R), row.drop i = hs → i + hs.length = row.length → n ≤ 2 * i → SInv trueH n κ st ks → KOk row i ks →
    (∀ n κ st p3 p4 p5 p6 p7 p8, SInv trueH n κ st (sLoop row ks i hs) → E.nx [some (.d D), some (.c 0), some (.c 1), p3, p4, p5, p6, p7, p8] κ) →
    forL ok (wTupG 2 (wgCons (wName 3) (wgCons (wTupG 3 (wgCons (wName 4) (wgCons (wName 5) (wgCons (wName 6) wgNil)))) wgNil))) wb_law_settled E (enumD i (hs.map hookD)) [some (.d D), some (.c 0), some (.c 1), p3, p4, p5, p6, p7, p8] κ
  | [], i, n, κ, st, ks, p3, p4, p5, p6, p7, p8, _, _, _, I, _, k => k n κ st p3 p4 p5 p6 p7 p8 I
  | h :: hs, i, n, κ, st, ks, p3, p4, p5, p6, p7, p8, hd, hlen, hn, I, K, k => by
    show forL _ _ _ _ (.tuple [.int i, hookD h] :: enumD (i + 1) (hs.map hookD)) _ _
    rw [forL_cons, s_tupG]
    refine ⟨rfl, ?_⟩
    simp only [List.length_cons] at hlen
    have hi : row[i]? = some h := by
      have := congrArg List.head? hd
      rw [List.head?_drop] at this
      exact this
    have hd2 : row.drop (i + 1) = hs := by
      have := congrArg List.tail hd
      rw [List.tail_drop] at this
      exact this
    simp [hookD]
    refine law_settled_body hD I K hin hi (by omega) hl fun κ' st' q7 q8 I' => ⟨hok _, ?_⟩
    exact law_settled_loop hD hok hin hl hs (i + 1) (n + 2) κ' st' _ _ _ _ _ _ _ hd2 (by omega) (by omega) I' (sStep_ok K hi) k
/-- what is kept stands in order -/
theorem sStep_pw {row : Row} {ks : KR} {i : Nat} {h : Hook} (lt : ∀ p ∈ ks, p.1 < i) (pw : (ks.map (·.1)).Pairwise (· < ·)) : ((sStep row ks i h).map (·.1)).Pairwise (· < ·) := by
  by_cases q : ∃ p, (posOf h.1 ks).getLast? = some p ∧ (posOf h.2.1 ks).getLast? = some p ∧ row[p]? = some (turned h)
  · obtain ⟨p, e1, e2, e3⟩ := q
    rw [sStep_true e1 e2 e3]
    exact pw.sublist (List.Sublist.map _ List.filter_sublist)
  · rw [sStep_false q, List.map_append, List.pairwise_append]
    refine ⟨pw, by simp, fun a ha b hb => ?_⟩
    obtain ⟨p, hp, rfl⟩ := List.mem_map.mp ha
    have hb : b = i := by simpa using hb
    rw [hb]
    exact lt p hp
theorem sLoop_pw : ∀ (hs row : Row) (ks : KR) (i : Nat), row.drop i = hs → KOk row i ks → (ks.map (·.1)).Pairwise (· < ·) → ((sLoop row ks i hs).map (·.1)).Pairwise (· < ·)
  | [], row, ks, i, _, _, pw => pw
  | h :: hs, row, ks, i, hd, K, pw => by
    have hi : row[i]? = some h := by
      have := congrArg List.head? hd
      rw [List.head?_drop] at this
      exact this
    have hd2 : row.drop (i + 1) = hs := by
      have := congrArg List.tail hd
      rw [List.tail_drop] at this
      exact this
    exact sLoop_pw hs row _ (i + 1) hd2 (sStep_ok K hi) (sStep_pw K.lt pw)
theorem settled_pw (row : Row) : ((sLoop row [] 0 row).map (·.1)).Pairwise (· < ·) :=
  sLoop_pw row row [] 0 rfl ⟨(fun p h => nomatch h), (fun p h => nomatch h), List.nodup_nil⟩ List.Pairwise.nil
theorem r_law_settled (rs : List R) (Pd : R → Prop) (h : Ph_law_settled rs Pd) (hl : rs.length = 1) : w_law_settled { nx := fun _ _ => Pd (.d .none), rt := fun r κ => Opt (outR κ 0 r) Pd } (rs.map some ++ List.replicate 8 none) [] := by
  obtain ⟨row, D, hD, rfl, hlen, hin, k⟩ := h
  clear hl
  have I0 : SInv trueH 0 [Cell.m [], Cell.m (keptE trueH [])] [] [] := ⟨rfl, rfl, Nat.le_refl _, (fun r j h => nomatch h), (fun r _ => rfl), (fun r x h => nomatch h), (fun r r' j h _ => nomatch h)⟩
  have K0 : KOk row 0 [] := ⟨(fun p h => nomatch h), (fun p h => nomatch h), List.nodup_nil⟩
  have KF := settled_kok row
  have pw := settled_pw row
  have kl := KF.len
  have el : (sLoop row [] 0 row).map (·.2) = settledF row := rfl
  have fin : ∀ n κ st p3 p4 p5 p6 p7 p8, SInv trueH n κ st (sLoop row [] 0 row) → (wRet (wLc (wSq (wSortDI (wVar 2))) (wName 3) wYes (wBin ixD (wVar 0) (wVar 3)) [3])) { nx := fun _ _ => Pd (.d .none), rt := fun r κ => Opt (outR κ 0 r) Pd } [some (.d D), some (.c 0), some (.c 1), p3, p4, p5, p6, p7, p8] κ := fun n κ st p3 p4 p5 p6 p7 p8 I => by
    generalize hks : sLoop row [] 0 row = ks at *
    have ek : (keptE trueH ks).map (·.1) = (ks.map fun p => (p.1 : Int)).map Sum.inl := by
      unfold keptE
      rw [List.map_map, List.map_map]
      rfl
    rw [s_ret, s_lc, s_sq]
    unfold wSortDI
    simp only [s_var, List.getElem?_cons_succ, List.getElem?_cons_zero, I.s1]
    rw [ek, intsK_map]
    simp only [Opt_some]
    refine ⟨by rw [List.length_map]; omega, ?_⟩
    have es : sortI (ks.map fun p => (p.1 : Int)) = ks.map fun p => (p.1 : Int) := sortI_self (by
      rw [List.pairwise_map] at pw ⊢
      exact pw.imp fun h => by omega)
    rw [es]
    rw [List.map_map]
    simp only [st_f, val_f, val_d, Opt_some]
    refine lc_map (fun p : Nat × Hook => PyData.int (p.1 : Int)) (fun p => hookD p.2) trivial ks [] (by rw [sizeLine_eq, List.length_nil]; omega) (fun p hp C hC => ?_) ?_
    · have e : ixD D (.int (p.1 : Int)) = some (.v (hookD p.2)) := by
        have e : (row.map hookD)[p.1]? = some (hookD p.2) := by
          rw [List.getElem?_map, KF.inr p hp]
          rfl
        rcases hD with rfl | rfl
        · exact ixD_list (atI_nat e)
        · exact ixD_tuple (atI_nat e)
      simp [e]
      exact hC
    · rw [← el, List.map_map] at k
      have k' : Pd (.f (ks.map fun p => hookD p.2)) := k
      simpa using k'
  unfold w_law_settled
  rw [s_seq]
  rcases hD with rfl | rfl
  all_goals simp [wDict0]
  all_goals refine law_settled_loop (ok := fun _ => True) (by first | exact .inl rfl | exact .inr rfl) (fun _ => trivial) hin (by omega) row 0 0 _ _ _ _ _ _ _ _ _ rfl (by omega) (by omega) I0 K0 fun n κ st p3 p4 p5 p6 p7 p8 I => ?_
  all_goals exact fin n κ st p3 p4 p5 p6 p7 p8 I
end SH
/-! SHk: pieces of rows by draws. -/
namespace SH
open PySem PySem.Spec PyProof.Rows L2 DL
def RowOf (ns : List Str) (r : Row) : Prop := ∀ h ∈ r, HookOf ns h
theorem HookOf.turn {ns : List Str} {h : Hook} (a : HookOf ns h) : HookOf ns (turned h) := ⟨a.1, a.2.1, a.2.2.1, by
  show -h.2.2 = 1 ∨ -h.2.2 = -1
  rcases a.2.2.2 with e | e <;> rw [e] <;> simp⟩
theorem RowOf.back {ns : List Str} {r : Row} (a : RowOf ns r) : RowOf ns (back r) := fun x hx => by
  obtain ⟨y, hy, rfl⟩ := List.mem_map.mp hx
  exact (a y (List.mem_reverse.mp hy)).turn
theorem RowOf.app {ns : List Str} {r q : Row} (a : RowOf ns r) (b : RowOf ns q) : RowOf ns (r ++ q) := fun x hx => by
  rcases List.mem_append.mp hx with h | h
  · exact a x h
  · exact b x h
theorem RowOf.mono {ns ms : List Str} {r : Row} (a : RowOf ms r) (h : ∀ z ∈ ms, z ∈ ns) : RowOf ns r := fun x hx => ⟨h _ (a x hx).1, h _ (a x hx).2.1, (a x hx).2.2⟩
theorem knotL_of {ns : List Str} : ∀ (xs : List Str) (r : Row) (l : Str), RowOf ns r → l ∈ ns → (∀ z ∈ xs, z ∈ ns) → (l :: xs).Pairwise (fun x y => cs x < cs y) → RowOf ns (knotL r l xs)
  | [], r, l, h, _, _, _ => h
  | x :: xs, r, l, h, hl, hn, hp => by
    rw [knotL]
    have hp' := List.pairwise_cons.mp hp
    have hx := hn x (List.mem_cons_self ..)
    have one : HookOf ns (l, x, 1) := ⟨hl, hx, hp'.1 x (List.mem_cons_self ..), .inl rfl⟩
    have two : HookOf ns (l, x, -1) := ⟨hl, hx, hp'.1 x (List.mem_cons_self ..), .inr rfl⟩
    refine knotL_of xs _ x ?_ hx (fun z hz => hn z (List.mem_cons_of_mem _ hz)) hp'.2
    unfold kstep
    refine ((h.app fun y hy => ?_).app h.back).app fun y hy => ?_
    · rw [List.mem_singleton.mp hy]; exact one
    · rw [List.mem_singleton.mp hy]; exact two
theorem knot_of {a b : Str} {xs : List Str} (h : Names (a :: b :: xs)) : RowOf (a :: b :: xs) (knot (a :: b :: xs)) := by
  have hp := List.pairwise_cons.mp h.2
  refine knotL_of xs _ b (fun y hy => ?_) (by simp) (fun z hz => by simp [hz]) hp.2
  rw [List.mem_singleton.mp hy]
  exact ⟨by simp, by simp, hp.1 b (List.mem_cons_self ..), .inl rfl⟩
def Ph_law_piece (bs : List PyData) (rs : List R) (P : R → List PyData → Prop) : Prop := ∃ (N : Int) (ns : List Str), Box N bs ∧ N ≤ 2 ^ 38 ∧ rs = [.d (.list (ns.map .str))] ∧ 2 ≤ ns.length ∧ ns.length ≤ 1000 ∧ Names ns ∧
  ∀ (r : Row) (bs' : List PyData), RowOf ns r → 1 ≤ r.length → r.length ≤ 40 → Box (N + 2000) bs' → P (.f (r.map hookD)) bs' ∧ P (.d (.list (r.map hookD))) bs'
/-- _law_piece -/
def w_law_piece : DTS := (wSeq (wPar3 2 3 4 (wConsM false (wCallL Ph_law_take (wCons (wVar 0) (wCons (wC (.int 9)) wNil))) (wConsM false (wCallL Ph_law_hook (wCons (wVar 0) (wCons (wVar 1) wNil))) (wConsM false (wCallL Ph_law_hook (wCons (wVar 0) (wCons (wVar 1) wNil))) wNil))))
  (wSeq (wIfS (wB (wBin (ordD ltI ltS) (wVar 2) (wC (.int 3)))) (wRet (wLst (wCons (wVar 3) wNil))) wNext)
  (wSeq (wIfS (wB (wBin (eqD false) (wVar 2) (wC (.int 3)))) (wRet (wBin mulD (wLst (wCons (wVar 3) wNil)) (wBin addD (wC (.int 2)) (wCallL Ph_law_take (wCons (wVar 0) (wCons (wC (.int 2)) wNil)))))) wNext)
  (wSeq (wIfS (wB (wBin (ordD ltI ltS) (wVar 2) (wC (.int 6)))) (wRet (wBin addD (wLst (wCons (wVar 3) (wCons (wVar 4) wNil))) (wCall Ph_law_back (wCons (wLst (wCons (wVar 4) (wCons (wVar 3) wNil))) wNil)))) wNext)
  (wSeq (wIfS (wB (wBin (eqD false) (wVar 2) (wC (.int 6)))) (wRet (wCall Ph_law_knot (wCons (wCallL Ph_law_some (wCons (wVar 0) (wCons (wSl (wVar 1) wNoP (wP (wC (.int 4)))) (wCons (wC (.int 2)) wNil)))) wNil))) wNext)
  (wRet (wIf (wB (wBin (eqD false) (wVar 2) (wC (.int 7)))) (wBin addD (wLst (wCons (wVar 3) (wCons (wVar 4) wNil))) (wCall Ph_law_back (wCons (wLst (wCons (wVar 3) wNil)) wNil))) (wBin addD (wLst (wCons (wVar 3) wNil)) (wCall Ph_law_back (wCons (wLst (wCons (wVar 3) wNil)) wNil))))))))))

@[simp] theorem s_par3 (i j l : Nat) (wa : DTA) (E : DEnds) (ρ : Rho) (κ : Kap) : wPar3 i j l wa E ρ κ = wa ρ κ fun rs κ1 => match rs with
  | [q1, q2, q3] => E.nx (((ρ.set i (some q1)).set j (some q2)).set l (some q3)) κ1
  | _ => False := rfl
theorem eqD_ii (i j : Int) : eqD false (.int i) (.int j) = some (.v (.bool (decide (i = j)))) := by
  rw [eqD_of (by unfold SeqAt.shaped PyData.canLay0; simp [PyData.depth]) (by unfold SeqAt.shaped PyData.canLay0; simp [PyData.depth])]
  have e : PyData.eqv (.int i) (.int j) = decide (i = j) := by
    rw [PyData.eqv]
    by_cases q : i = j <;> simp [q]
  rw [e]
  rfl
theorem mulD_one {x : PyData} {n : Nat} (h : n ≤ 1000) : mulD (.list [x]) (.int (n : Int)) = some (.n (List.replicate n x)) := by
  unfold mulD
  simp only
  rw [if_pos ⟨by omega, by omega, by rw [sizeLine_eq]; simp; omega⟩, Int.toNat_natCast]
  have : (List.replicate n [x]).flatten = List.replicate n x := by
    induction n with
    | zero => rfl
    | succ n ih => rw [List.replicate_succ, List.flatten_cons, ih (by omega), List.replicate_succ]; rfl
  rw [this]
theorem cut_take {α : Type} (xs : List α) (m : Nat) : cut xs none (some (m : Int)) = xs.take m := by
  unfold cut
  rw [show HT.sIx xs.length xs.length (some (m : Int)) = min m xs.length from HT.sIx_nat _ _ m, HT.sIx_none, List.drop_zero, Nat.sub_zero]
  rcases Nat.le_total m xs.length with h | h
  · rw [Nat.min_eq_left h]
  · rw [Nat.min_eq_right h, List.take_of_length_le (Nat.le_refl _), List.take_of_length_le h]
theorem r_law_piece (bs : List PyData) (rs : List R) (Pd : R → List PyData → Prop) (h : Ph_law_piece bs rs Pd) (hl : rs.length = 1) : w_law_piece { nx := fun _ κ => endL κ (.d .none) Pd, rt := fun r κ => endL κ r Pd } (some (.c 0) :: (rs.map some ++ List.replicate 3 none)) [.l bs] := by
  obtain ⟨N, ns, hb, hN, rfl, h2, h3, hn, k⟩ := h
  clear hl
  unfold w_law_piece
  rw [s_seq, s_par3]
  simp only [s_consM, s_callL, s_cons, s_nil, s_c, s_var, List.map_cons, List.map_nil, List.cons_append, List.nil_append, List.getElem?_cons_zero, List.getElem?_cons_succ, st_c, st_d, lend_c, args_d, DL.args_nil, Opt_some]
  refine ⟨N, 9, hb, by omega, rfl, by decide, by decide, fun w bs1 w0 w1 hb1 => ?_⟩
  simp
  refine ⟨N + 1, ns, hb1, by omega, rfl, h2, h3, hn, fun g bs2 hg hb2 => ?_⟩
  simp
  refine ⟨N + 1 + 3, ns, hb2, by omega, rfl, h2, h3, hn, fun t bs3 ht hb3 => ?_⟩
  simp
  have bx : ∀ {M : Int} {b : List PyData}, Box M b → M ≤ N + 2000 → Box (N + 2000) b := fun h l => h.mono l
  have one : RowOf ns [g] := fun y hy => by rw [List.mem_singleton.mp hy]; exact hg
  have two : RowOf ns [g, t] := fun y hy => by
    rcases List.mem_cons.mp hy with rfl | hy
    · exact hg
    · rw [List.mem_singleton.mp hy]; exact ht
  have owt : RowOf ns [t, g] := fun y hy => by
    rcases List.mem_cons.mp hy with rfl | hy
    · exact ht
    · rw [List.mem_singleton.mp hy]; exact hg
  have hb4 : Box (N + 2000) bs3 := bx hb3 (by omega)
  by_cases c3 : w < 3
  · rw [if_pos (show ltI w 3 = true from decide_eq_true c3)]
    exact ⟨by rw [sizeLine_eq]; decide, (k [g] bs3 one (by simp) (by simp) hb4).1⟩
  rw [if_neg (show ¬ ltI w 3 = true from fun z => c3 (of_decide_eq_true z)), eqD_ii, Opt_some]
  simp only [out_v]
  by_cases e3 : w = 3
  · rw [if_pos (decide_eq_true e3)]
    refine ⟨by rw [sizeLine_eq]; decide, N + 1 + 3 + 3, 2, hb3, by omega, rfl, by decide, by decide, fun z bs4 z0 z1 hb5 => ?_⟩
    obtain ⟨q, hq⟩ : ∃ q : Nat, 2 + z = (q : Int) := ⟨(2 + z).toNat, by omega⟩
    simp only [lab_d, st_d, val_d, Opt_some, addD_int, out_v, hq]
    rw [mulD_one (n := q) (by omega)]
    simp only [Opt_some, out_n, endL_f]
    have e : List.replicate q (hookD g) = (List.replicate q g).map hookD := by rw [List.map_replicate]
    rw [e]
    exact (k _ bs4 (fun y hy => by rw [List.eq_of_mem_replicate hy]; exact hg) (by rw [List.length_replicate]; omega) (by rw [List.length_replicate]; omega) (bx hb5 (by omega))).1
  rw [if_neg (by simpa using e3)]
  by_cases c6 : w < 6
  · rw [if_pos (show ltI w 6 = true from decide_eq_true c6)]
    refine ⟨by rw [sizeLine_eq]; decide, [t, g], rfl, by rw [sizeLine_eq]; show 2 ≤ 16777216; decide, ?_⟩
    simp only [st_f, val_d, Opt_some]
    have e : addD (.list [hookD g, hookD t]) (.list ((back [t, g]).map hookD)) = some (.n (([g, t] ++ back [t, g]).map hookD)) := by
      rw [addD_list (by simp [back_len, sizeLine_eq])]; simp
    rw [e]
    simp only [Opt_some, out_n, endL_f]
    exact (k _ bs3 (two.app owt.back) (by simp) (by simp [back_len]) hb4).1
  rw [if_neg (show ¬ ltI w 6 = true from fun z => c6 (of_decide_eq_true z)), eqD_ii, Opt_some]
  simp only [out_v]
  by_cases e6 : w = 6
  · rw [if_pos (decide_eq_true e6), show ((4 : Int)) = ((4 : Nat) : Int) from rfl, cut_take, ← List.map_take]
    have hn4 : Names (ns.take 4) := ⟨fun z hz => hn.1 z (List.mem_of_mem_take hz), hn.2.sublist (List.take_sublist _ _)⟩
    have l4 : (ns.take 4).length = min 4 ns.length := List.length_take
    refine ⟨N + 1 + 3 + 3, ns.take 4, 2, hb3, by omega, rfl, by omega, by omega, hn4, fun ms bs4 hm m1 m2 sub hb5 => ?_⟩
    simp only [lab_f, st_f, args_d, DL.args_nil, Opt_some]
    obtain ⟨a, b, ms', rfl⟩ : ∃ a b ms', ms = a :: b :: ms' := by
      match ms, m1 with
      | a :: b :: ms', _ => exact ⟨a, b, ms', rfl⟩
    simp only [List.length_cons] at m1 m2
    refine ⟨a, b, ms', _, rfl, .inr rfl, by omega, ?_⟩
    have kl : (knot (a :: b :: ms')).length + 2 = 3 * 2 ^ ms'.length := knotL_len ms' _ b
    have pw := Nat.pow_le_pow_right (n := 2) (by decide) (show ms'.length ≤ 2 by omega)
    have p1 : 1 ≤ 2 ^ ms'.length := Nat.one_le_two_pow
    exact (k _ bs4 ((knot_of hm).mono fun z hz => List.mem_of_mem_take (sub z hz)) (by omega) (by omega) (bx hb5 (by omega))).2
  rw [if_neg (by simpa using e6), eqD_ii, Opt_some]
  simp only [out_v]
  by_cases e7 : w = 7
  · rw [if_pos (decide_eq_true e7)]
    refine ⟨by rw [sizeLine_eq]; decide, by rw [sizeLine_eq]; decide, [g], rfl, by rw [sizeLine_eq]; show 1 ≤ 16777216; decide, ?_⟩
    simp only [st_f, val_d, Opt_some]
    have e : addD (.list [hookD g, hookD t]) (.list ((back [g]).map hookD)) = some (.n (([g, t] ++ back [g]).map hookD)) := by
      rw [addD_list (by simp [back_len, sizeLine_eq])]; simp
    rw [e]
    simp only [Opt_some, out_n, endL_f]
    exact (k _ bs3 (two.app one.back) (by simp) (by simp [back_len]) hb4).1
  rw [if_neg (by simpa using e7)]
  refine ⟨by rw [sizeLine_eq]; decide, [g], rfl, by rw [sizeLine_eq]; show 1 ≤ 16777216; decide, ?_⟩
  simp only [st_f, val_d, Opt_some]
  have e : addD (.list [hookD g]) (.list ((back [g]).map hookD)) = some (.n (([g] ++ back [g]).map hookD)) := by
    rw [addD_list (by simp [back_len, sizeLine_eq])]; simp
  rw [e]
  simp only [Opt_some, out_n, endL_f]
  exact (k _ bs3 (one.app one.back) (by simp) (by simp [back_len]) hb4).1
end SH
/-! SHl: rows by draws. -/
namespace SH
open PySem PySem.Spec PyProof.Rows L2 DL
theorem lay_hook {h : Hook} (a : IsName h.1) (b : IsName h.2.1) : PyData.canLay0 (hookD h) = true ∧ (hookD h).depth = 1 := by
  have s1 := a.shaped
  have s2 := b.shaped
  unfold SeqAt.shaped at s1 s2
  rw [Bool.and_eq_true] at s1 s2
  have q1 := s1.1
  have q2 := s2.1
  simp [PyData.canLay0] at q1 q2
  exact ⟨by simp [hookD, PyData.canLay0, PyData.canLayAll0, q1, q2], by simp [hookD, PyData.depth, PyData.depthAll]⟩
theorem shaped_row {ns : List Str} (hn : Names ns) {r : Row} (h : RowOf ns r) : SeqAt.shaped (.list (r.map hookD)) = true := by
  have a1 : PyData.canLayAll0 (r.map hookD) = true ∧ PyData.depthAll (r.map hookD) ≤ 1 := by
    induction r with
    | nil => exact ⟨by simp [PyData.canLayAll0], by simp [PyData.depthAll]⟩
    | cons z r ih =>
      obtain ⟨h1, h2⟩ := ih fun y hy => h y (List.mem_cons_of_mem _ hy)
      have hz := h z (List.mem_cons_self ..)
      obtain ⟨l1, l2⟩ := lay_hook (hn.1 _ hz.1) (hn.1 _ hz.2.1)
      rw [List.map_cons]
      refine ⟨by rw [PyData.canLayAll0, l1, h1]; rfl, ?_⟩
      rw [PyData.depthAll, l2]
      omega
  unfold SeqAt.shaped PyData.canLay0
  rw [Bool.and_eq_true]
  refine ⟨a1.1, ?_⟩
  rw [PyData.depth]
  exact decide_eq_true (by omega)
theorem eqD_row0 {ns : List Str} (hn : Names ns) {r : Row} (h : RowOf ns r) : eqD true (.list (r.map hookD)) (.list []) = some (.v (.bool (!r.isEmpty))) := by
  rw [eqD_of (shaped_row hn h) (by unfold SeqAt.shaped PyData.canLay0; simp [PyData.canLayAll0, PyData.depth, PyData.depthAll])]
  cases r <;> simp [PyData.eqv, PyData.eqvAll]
theorem cut_map {α β : Type} (f : α → β) (xs : List α) (lo hi : Option Int) : cut (xs.map f) lo hi = (cut xs lo hi).map f := by
  unfold cut
  rw [List.length_map, List.map_take, List.map_drop]
theorem cut_sub {α : Type} (xs : List α) (lo hi : Option Int) : (∀ y ∈ cut xs lo hi, y ∈ xs) ∧ (cut xs lo hi).length ≤ xs.length := by
  unfold cut
  refine ⟨fun y hy => List.mem_of_mem_drop (List.mem_of_mem_take hy), ?_⟩
  rw [List.length_take, List.length_drop]
  omega
def Ph_law_row (bs : List PyData) (rs : List R) (P : R → List PyData → Prop) : Prop := ∃ (N : Int) (ns : List Str) (room : Nat), Box N bs ∧ N ≤ 2 ^ 37 ∧ rs = [.d (.list (ns.map .str)), .d (.int room)] ∧ 2 ≤ ns.length ∧ ns.length ≤ 1000 ∧ Names ns ∧ room ≤ 1000 ∧
  ∀ (r : Row) (bs' : List PyData), RowOf ns r → r.length ≤ room → Box (N + 20000) bs' → P (.d (.list (r.map hookD))) bs'
def wb_row : DTS := (wSeq (wSet false 5 (wCallL Ph_law_piece (wCons (wVar 0) (wCons (wVar 1) wNil))))
  (wSeq (wIfS (wAnd (wB (wBin (eqD true) (wVar 3) (wLst wNil))) (wB (wBin (eqD false) (wCallL Ph_law_take (wCons (wVar 0) (wCons (wC (.int 4)) wNil))) (wC (.int 0))))) (wSeq (wSet false 6 (wCallL Ph_law_take (wCons (wVar 0) (wCons (wCB lenD (wCons (wVar 3) wNil)) wNil))))
  (wSet false 5 (wCall Ph_law_back (wCons (wSl (wVar 3) (wP (wVar 6)) (wP (wBin addD (wBin addD (wVar 6) (wC (.int 1))) (wCallL Ph_law_take (wCons (wVar 0) (wCons (wC (.int 6)) wNil)))))) wNil)))) wNext)
  (wIfS (wB (wBin (ciD leI) (wBin addD (wCB lenD (wCons (wVar 3) wNil)) (wCB lenD (wCons (wVar 5) wNil))) (wVar 2))) (wSet false 3 (wBin addD (wVar 3) (wVar 5))) wNext)))
/-- _law_row -/
def w_law_row : DTS := (wSeq (wSet false 3 (wLst wNil))
  (wSeq (wFor (wRng1 (wCons (wBin addD (wC (.int 1)) (wCallL Ph_law_take (wCons (wVar 0) (wCons (wC (.int 8)) wNil)))) wNil)) (wName 4) wb_row)
  (wRet (wVar 3))))
theorem row_body {E : DEnds} {N : Int} {ns : List Str} {room : Nat} {bs : List PyData} {f : Row} {p4 p5 p6 : Option R} (hb : Box N bs) (hN : N ≤ 2 ^ 38 - 1) (h2 : 2 ≤ ns.length) (h3 : ns.length ≤ 1000) (hn : Names ns) (hr : room ≤ 1000) (hf : RowOf ns f) (fl : f.length ≤ room)
    (k : ∀ f' bs' p5 p6, RowOf ns f' → f'.length ≤ room → Box (N + 2003) bs' → E.nx [some (.c 0), some (.d (.list (ns.map .str))), some (.d (.int room)), some (.d (.list (f'.map hookD))), p4, p5, p6] [.l bs']) :
    wb_row E [some (.c 0), some (.d (.list (ns.map .str))), some (.d (.int room)), some (.d (.list (f.map hookD))), p4, p5, p6] [.l bs] := by
  have fin : ∀ (q : Row) (bs' : List PyData) (p6 : Option R), RowOf ns q → q.length ≤ 1000 → Box (N + 2003) bs' →
      wIfS (wB (wBin (ciD leI) (wBin addD (wCB lenD (wCons (wVar 3) wNil)) (wCB lenD (wCons (wVar 5) wNil))) (wVar 2))) (wSet false 3 (wBin addD (wVar 3) (wVar 5))) wNext E [some (.c 0), some (.d (.list (ns.map .str))), some (.d (.int room)), some (.d (.list (f.map hookD))), p4, some (.d (.list (q.map hookD))), p6] [.l bs'] := fun q bs' p6 hq lq hb' => by
    have ea : addD (.list (f.map hookD)) (.list (q.map hookD)) = some (.n ((f ++ q).map hookD)) := by
      rw [addD_list (by rw [List.length_map, List.length_map, sizeLine_eq]; omega)]; simp
    by_cases c : f.length + q.length ≤ room
    · have d : leI ((f.length : Int) + (q.length : Int)) (room : Int) = true := decide_eq_true (by omega)
      simp [d, ea]
      rw [← List.map_append]
      exact k _ bs' _ _ (hf.app hq) (by rw [List.length_append]; exact c) hb'
    · have d : leI ((f.length : Int) + (q.length : Int)) (room : Int) = false := decide_eq_false (by omega)
      simp [d]
      exact k _ bs' _ _ hf fl hb'
  unfold wb_row
  rw [s_seq, s_set]
  simp only [s_callL, s_cons, s_nil, s_var, List.getElem?_cons_zero, List.getElem?_cons_succ, st_c, st_d, lend_c, args_d, DL.args_nil, Opt_some]
  refine ⟨N, ns, hb, by omega, rfl, h2, h3, hn, fun q bs1 hq q1 q2 hb1 => ?_⟩
  have e0 := eqD_row0 hn hf
  have main : wSeq (wIfS (wAnd (wB (wBin (eqD true) (wVar 3) (wLst wNil))) (wB (wBin (eqD false) (wCallL Ph_law_take (wCons (wVar 0) (wCons (wC (.int 4)) wNil))) (wC (.int 0))))) (wSeq (wSet false 6 (wCallL Ph_law_take (wCons (wVar 0) (wCons (wCB lenD (wCons (wVar 3) wNil)) wNil))))
      (wSet false 5 (wCall Ph_law_back (wCons (wSl (wVar 3) (wP (wVar 6)) (wP (wBin addD (wBin addD (wVar 6) (wC (.int 1))) (wCallL Ph_law_take (wCons (wVar 0) (wCons (wC (.int 6)) wNil)))))) wNil)))) wNext)
      (wIfS (wB (wBin (ciD leI) (wBin addD (wCB lenD (wCons (wVar 3) wNil)) (wCB lenD (wCons (wVar 5) wNil))) (wVar 2))) (wSet false 3 (wBin addD (wVar 3) (wVar 5))) wNext) E
      [some (.c 0), some (.d (.list (ns.map .str))), some (.d (.int room)), some (.d (.list (f.map hookD))), p4, some (.d (.list (q.map hookD))), p6] [.l bs1] := by
    rw [s_seq]
    generalize hC : wIfS (wB (wBin (ciD leI) (wBin addD (wCB lenD (wCons (wVar 3) wNil)) (wCB lenD (wCons (wVar 5) wNil))) (wVar 2))) (wSet false 3 (wBin addD (wVar 3) (wVar 5))) wNext = C at fin
    cases hem : f.isEmpty with
    | true =>
      rw [hem] at e0
      simp [e0]
      exact fin q bs1 _ hq (by omega) (hb1.mono (by omega))
    | false =>
      rw [hem] at e0
      simp [e0]
      refine ⟨N + 2000, 4, hb1, by omega, rfl, by decide, by decide, fun z bs2 z0 z1 hb2 => ?_⟩
      simp [eqD_ii]
      have fpos : 0 < f.length := by
        cases f with
        | nil => simp at hem
        | cons x r => simp
      by_cases cz : z = 0
      · rw [if_pos cz]
        refine ⟨N + 2000 + 1, f.length, hb2, by omega, rfl, by omega, by omega, fun a bs3 a0 a1 hb3 => ?_⟩
        simp
        refine ⟨N + 2000 + 1 + 1, 6, hb3, by omega, rfl, by decide, by decide, fun u bs4 u0 u1 hb4 => ?_⟩
        simp
        rw [cut_map]
        obtain ⟨cs1, cs2⟩ := cut_sub f (some a) (some (a + 1 + u))
        generalize cut f (some a) (some (a + 1 + u)) = g at cs1 cs2
        refine ⟨g, rfl, by rw [sizeLine_eq]; omega, ?_⟩
        have hg : RowOf ns g := fun y hy => hf y (cs1 y hy)
        exact fin (back g) bs4 _ hg.back (by rw [back_len]; omega) (hb4.mono (by omega))
      · rw [if_neg cz]
        exact fin q bs2 _ hq (by omega) (hb2.mono (by omega))
  exact ⟨main, main⟩

theorem row_loop {E : DEnds} {ns : List Str} {room : Nat} (h2 : 2 ≤ ns.length) (h3 : ns.length ≤ 1000) (hn : Names ns) (hr : room ≤ 1000) : ∀ (xs : List PyData) (N : Int) (bs : List PyData) (f : Row) (p4 p5 p6 : Option R), Box N bs → N + 2003 * (xs.length : Int) ≤ 2 ^ 38 - 1 → RowOf ns f → f.length ≤ room →
    (∀ (f' : Row) (bs' : List PyData) (p4 p5 p6 : Option R), RowOf ns f' → f'.length ≤ room → Box (N + 2003 * (xs.length : Int)) bs' → E.nx [some (.c 0), some (.d (.list (ns.map .str))), some (.d (.int room)), some (.d (.list (f'.map hookD))), p4, p5, p6] [.l bs']) →
    forL (fun _ => True) (wName 4) wb_row E xs [some (.c 0), some (.d (.list (ns.map .str))), some (.d (.int room)), some (.d (.list (f.map hookD))), p4, p5, p6] [.l bs]
  | [], N, bs, f, p4, p5, p6, hb, _, hf, fl, k => by
    rw [forL_nil]
    exact k f bs p4 p5 p6 hf fl (by simpa using hb)
  | x :: xs, N, bs, f, p4, p5, p6, hb, hN, hf, fl, k => by
    rw [forL_cons]
    simp only [List.length_cons] at hN k
    refine row_body (p4 := some (.d x)) hb (by omega) h2 h3 hn hr hf fl fun f' bs' p5 p6 hf' fl' hb' => ⟨trivial, ?_⟩
    exact row_loop h2 h3 hn hr xs (N + 2003) bs' f' _ _ _ hb' (by omega) hf' fl' fun f2 bs2 p4 p5 p6 g1 g2 g3 => k f2 bs2 p4 p5 p6 g1 g2 (g3.mono (by omega))
theorem r_law_row (bs : List PyData) (rs : List R) (Pd : R → List PyData → Prop) (h : Ph_law_row bs rs Pd) (hl : rs.length = 2) : w_law_row { nx := fun _ κ => endL κ (.d .none) Pd, rt := fun r κ => endL κ r Pd } (some (.c 0) :: (rs.map some ++ List.replicate 4 none)) [.l bs] := by
  obtain ⟨N, ns, room, hb, hN, rfl, h2, h3, hn, hr, k⟩ := h
  clear hl
  simp [w_law_row, sizeLine_eq]
  refine ⟨N, 8, hb, by omega, rfl, by decide, by decide, fun z bs1 z0 z1 hb1 => ?_⟩
  simp
  refine ⟨by omega, by omega, ?_⟩
  have e0 : ([] : List PyData) = (([] : Row).map hookD) := rfl
  rw [e0]
  refine row_loop h2 h3 hn hr _ (N + 1) bs1 [] _ _ _ hb1 (by simp; omega) (fun y hy => nomatch hy) (Nat.zero_le _) fun f' bs' p4 p5 p6 g1 g2 g3 => ?_
  simp
  exact k f' bs' g1 g2 (g3.mono (by simp; omega))
end SH
/-! SHt: the law's own ropes, struck; sorted(set(names)). -/
namespace SH
open PySem PySem.Spec PyProof.Rows L2 DL
theorem keysD_strs : ∀ (ss : List Str), keysD (ss.map .str) = some (ss.map Sum.inr)
  | [] => rfl
  | s :: ss => by
    show (match keyD (.str s), keysD (ss.map .str) with
      | some k, some ks => some (k :: ks)
      | _, _ => none) = _
    rw [keysD_strs ss]
    rfl
theorem keysSort_strs (ss : List Str) : KeysSort (ss.map Sum.inr) := fun d hd d' hd' => by
  obtain ⟨k, hk, rfl⟩ := List.mem_map.mp hd
  obtain ⟨k', hk', rfl⟩ := List.mem_map.mp hd'
  obtain ⟨s, _, rfl⟩ := List.mem_map.mp hk
  obtain ⟨s', _, rfl⟩ := List.mem_map.mp hk'
  simp [keyP, PySem.W.alike]
/-- sorted(set(names)) -/
def ssF (ss : List Str) : List Str := ((dedupK (ss.map Sum.inr)).mergeSort leK).map unK
theorem dedup_str {ss : List Str} {k : Key} (h : k ∈ (dedupK (ss.map Sum.inr)).mergeSort leK) : ∃ s ∈ ss, k = .inr s := by
  have := (dedupK_mem _ _).mp ((List.mergeSort_perm _ _).mem_iff.mp h)
  obtain ⟨s, hs, rfl⟩ := List.mem_map.mp this
  exact ⟨s, hs, rfl⟩
theorem ssF_keys (ss : List Str) : ((dedupK (ss.map Sum.inr)).mergeSort leK).map keyP = (ssF ss).map .str := by
  unfold ssF
  rw [List.map_map]
  refine List.map_congr_left fun k hk => ?_
  obtain ⟨s, _, rfl⟩ := dedup_str hk
  rfl
theorem ssF_mem (ss : List Str) (z : Str) : z ∈ ssF ss ↔ z ∈ ss := by
  unfold ssF
  rw [List.mem_map]
  constructor
  · rintro ⟨k, hk, rfl⟩
    obtain ⟨s, hs, rfl⟩ := dedup_str hk
    exact hs
  · intro h
    exact ⟨.inr z, (List.mergeSort_perm _ _).mem_iff.mpr ((dedupK_mem _ _).mpr (List.mem_map.mpr ⟨z, h, rfl⟩)), rfl⟩
theorem foldK_len : ∀ (ks acc : List Key), (ks.foldl addK acc).length ≤ acc.length + ks.length
  | [], acc => by simp
  | k :: ks, acc => by
    rw [List.foldl_cons, List.length_cons]
    have := foldK_len ks (addK acc k)
    have := addK_le acc k
    omega
theorem ssF_len (ss : List Str) : (ssF ss).length ≤ ss.length := by
  unfold ssF
  rw [List.length_map, List.length_mergeSort]
  have := foldK_len (ss.map Sum.inr) []
  unfold dedupK
  simpa using this
theorem s_sortSet_strs {we : DTE} {ρ : Rho} {κ κ1 : Kap} {P : R → Kap → Prop} {ss : List Str} {r : R} (h : ∀ Q : R → Kap → Prop, Q r κ1 → we ρ κ Q) (e : val κ1 r.st = some (.list (ss.map .str))) (hl : ss.length + 1 < 4096) (k : P (.f ((ssF ss).map .str)) κ1) : wSortSet we ρ κ P := by
  unfold wSortSet
  refine h _ ?_
  rw [e]
  simp only [Opt_some, keysD_strs]
  refine ⟨keysSort_strs ss, by rw [List.length_map]; unfold scanBound; omega, ?_⟩
  rw [ssF_keys]
  exact k
theorem ssF_ropes (row : Row) : ssF (row.map (·.1) ++ row.map (·.2.1)) = ropesF row := by
  unfold ssF ropesF
  congr 1
  refine sortK_uniq (dedupK_nd _) (ropesK_nd row) fun k => ?_
  rw [dedupK_mem, ropesK_mem, List.map_append, List.mem_append, List.map_map, List.map_map, List.mem_map, List.mem_map]
  constructor
  · rintro (⟨h, hh, rfl⟩ | ⟨h, hh, rfl⟩)
    · exact ⟨h, hh, .inl rfl⟩
    · exact ⟨h, hh, .inr rfl⟩
  · rintro ⟨h, hh, rfl | rfl⟩
    · exact .inl ⟨h, hh, rfl⟩
    · exact .inr ⟨h, hh, rfl⟩
def Ph_law_ropes (rs : List R) (P : R → Prop) : Prop := ∃ row : Row, rs = [.d (.list (row.map hookD))] ∧ row.length ≤ 2000 ∧ P (.d (.tuple ((ropesF row).map .str)))
/-- _law_ropes -/
def w_law_ropes : DTS := (wRet (wCB tupC (wCons (wSortSet (wBin addD (wLc (wSq (wVar 0)) (wName 1) wYes (wBin ixD (wVar 1) (wC (.int 0))) [1]) (wLc (wSq (wVar 0)) (wName 1) wYes (wBin ixD (wVar 1) (wC (.int 1))) [1]))) wNil)))
theorem r_law_ropes (rs : List R) (Pd : R → Prop) (h : Ph_law_ropes rs Pd) (hl : rs.length = 1) : w_law_ropes { nx := fun _ _ => Pd (.d .none), rt := fun r κ => Opt (outR κ 0 r) Pd } (rs.map some ++ List.replicate 1 none) [] := by
  obtain ⟨row, rfl, hlen, k⟩ := h
  clear hl
  unfold w_law_ropes
  simp only [s_ret, s_cb, s_cons, s_nil, List.map_cons, List.map_nil, List.replicate_succ, List.replicate_zero, List.cons_append, List.nil_append]
  refine s_sortSet_strs (ss := row.map (·.1) ++ row.map (·.2.1)) (r := .f ((row.map (·.1) ++ row.map (·.2.1)).map .str)) (κ1 := []) (fun Q hQ => ?_) rfl (by rw [List.length_append, List.length_map, List.length_map]; omega) ?_
  · simp only [s_bin, s_lc, s_sq, s_var, List.getElem?_cons_zero, st_d, val_d, Opt_some]
    refine lc_map hookD (fun h => .str h.1) trivial row [] (by rw [sizeLine_eq, List.length_nil]; omega) (fun h hh C hC => ?_) ?_
    · simp [(ix_hook h).1]
      exact hC
    · simp only [List.nil_append]
      refine lc_map hookD (fun h => .str h.2.1) trivial row [] (by rw [sizeLine_eq, List.length_nil]; omega) (fun h hh C hC => ?_) ?_
      · simp [(ix_hook h).2]
        exact hC
      · simp only [List.nil_append, st_f, val_f, val_d, Opt_some]
        rw [addD_list (by rw [List.length_map, List.length_map, sizeLine_eq]; omega)]
        simp only [Opt_some, out_n]
        rw [List.map_append, List.map_map, List.map_map] at hQ
        exact hQ
  · rw [ssF_ropes]
    simpa using k
def Ph_law_struck (rs : List R) (P : R → Prop) : Prop := ∃ (row : Row) (ss : List Str) (D E : PyData), RowD D row ∧ NmD E ss ∧ rs = [.d D, .d E] ∧ row.length ≤ 1000000 ∧ RowIn row ∧ P (.f ((drawnF row ss).map hookD))
/-- _law_struck -/
def w_law_struck : DTS := (wRet (wLc (wSq (wVar 0)) (wName 2) (wAnd (wB (wBin (inD true) (wBin ixD (wVar 2) (wC (.int 0))) (wVar 1))) (wB (wBin (inD true) (wBin ixD (wVar 2) (wC (.int 1))) (wVar 1)))) (wVar 2) [2]))
theorem r_law_struck (rs : List R) (Pd : R → Prop) (h : Ph_law_struck rs Pd) (hl : rs.length = 2) : w_law_struck { nx := fun _ _ => Pd (.d .none), rt := fun r κ => Opt (outR κ 0 r) Pd } (rs.map some ++ List.replicate 1 none) [] := r_drawn rs Pd h hl
theorem RowOf.inn {ns : List Str} {r : Row} (hn : Names ns) (h : RowOf ns r) : RowIn r := fun x hx => ⟨hn.1 _ (h x hx).1, hn.1 _ (h x hx).2.1, cs_ne (h x hx).2.2.1⟩
end SH
/-! SHu: what many laws begin with: names by draws, strange names. -/
namespace SH
open PySem PySem.Spec PyProof.Rows L2 DL
theorem s_names {a b : Nat} {N : Int} {bs : List PyData} {ρ : Rho} {P : R → Kap → Prop} (h0 : ρ[0]? = some (some (.c 0))) (hb : Box N bs) (hN : N ≤ 2 ^ 38) (b0 : 0 < b) (ab : a + b ≤ 21)
    (k : ∀ (ns : List Str) (bs' : List PyData), a ≤ ns.length → ns.length < a + b → Names ns → Box (N + 201) bs' → P (.f (ns.map .str)) [.l bs']) :
    wCallL Ph_law_names (wCons (wVar 0) (wCons (wBin addD (wC (.int (a : Int))) (wCallL Ph_law_take (wCons (wVar 0) (wCons (wC (.int (b : Int))) wNil)))) wNil)) ρ [.l bs] P := by
  simp only [s_bin, s_c, s_callL, s_cons, s_nil, s_var, h0, st_c, st_d, lend_c, args_d, DL.args_nil, Opt_some, List.getElem?_cons_zero]
  refine ⟨N, (b : Int), hb, by omega, rfl, by omega, by omega, fun r bs1 r0 r1 hb1 => ?_⟩
  simp only [lab_d, st_d, val_d, addD_int, Opt_some, out_v, args_d, DL.args_nil, List.set_cons_zero, List.getElem?_cons_zero]
  obtain ⟨m, rfl⟩ : ∃ m : Nat, r = (m : Int) := ⟨r.toNat, by omega⟩
  refine ⟨N + 1, a + m, hb1, by omega, by rw [Int.natCast_add], by omega, fun ns bs2 nl hn hb2 => ?_⟩
  simp only [lab_f, List.set_cons_zero]
  exact k ns bs2 (by omega) (by omega) hn (hb2.mono (by omega))
theorem name_q : IsName "q" ∧ IsName "zz" ∧ IsName "pxq" := by
  refine ⟨⟨?_, ?_, ?_⟩, ⟨?_, ?_, ?_⟩, ⟨?_, ?_, ?_⟩⟩ <;> decide +kernel
theorem s_strange0 {ns : List Str} {q1 q2 q3 : Str} {v : Nat} {ρ : Rho} {κ : Kap} {P : R → Kap → Prop} (hq : IsName q1 ∧ IsName q2 ∧ IsName q3) (hn : Names ns) (h1 : ρ[1]? = some (some (.d (.list (ns.map .str))))) (hv : 1 < v) (hv2 : v < ρ.length)
    (k : ∀ sp : List Str, sp.length ≤ 1 → (∀ z ∈ sp, IsName z) → (∀ z ∈ sp, z ∉ ns) → P (.f (sp.map .str)) κ) :
    wSl (wLc (wSq (wTup (wCons (wC (.str q1)) (wCons (wC (.str q2)) (wCons (wC (.str q3)) wNil))))) (wName v) (wB (wBin (inD true) (wVar v) (wVar 1))) (wVar v) [v]) wNoP (wP (wC (.int 1))) ρ κ P := by
  have hN : NmD (.list (ns.map .str)) ns := ⟨.inl rfl, hn.1⟩
  have e1 : ∀ r, (ρ.set v r)[1]? = some (some (.d (.list (ns.map .str)))) := fun r => by rw [List.getElem?_set_ne (by omega)]; exact h1
  have e2 : ∀ r : Option R, (ρ.set v r)[v]? = some r := fun r => List.getElem?_set_self hv2
  have sz : 3 ≤ sizeLine := by rw [sizeLine_eq]; decide
  simp only [s_sl, s_lc, s_sq, s_tup, s_c, s_cons, s_nil, st_d, dats_d, dats_nil, Opt_some]
  refine ⟨sz, ?_⟩
  simp only [st_d, val_d, Opt_some, wipeR_cons, wipeR_nil]
  refine lc_filter PyData.str (fun z => !decide (z ∈ ns)) PyData.str trivial [q1, q2, q3] [] sz (fun z hz C hC => ?_) ?_
  · have hz' : IsName z := by
      rcases List.mem_cons.mp hz with rfl | hz
      · exact hq.1
      rcases List.mem_cons.mp hz with rfl | hz
      · exact hq.2.1
      rw [List.mem_singleton.mp hz]
      exact hq.2.2
    have e := in_names true hN hz'
    simp only [s_name, List.set_set, s_B, s_bin, s_var, e1, e2, st_d, val_d, Opt_some, e, out_v, if_true]
    exact hC _ fun _ Q hQ => by
      simp only [s_var, e2]
      exact hQ
  · simp only [List.nil_append, s_noP, s_P, s_c, st_f, val_f, val_d, slD_list, Opt_some, out_n]
    rw [show ((1 : Int)) = ((1 : Nat) : Int) from rfl, cut_take, ← List.map_take]
    refine k _ (by rw [List.length_take]; omega) (fun z hz => ?_) fun z hz => ?_
    · have hz := (List.mem_filter.mp (List.mem_of_mem_take hz)).1
      rcases List.mem_cons.mp hz with rfl | hz
      · exact hq.1
      rcases List.mem_cons.mp hz with rfl | hz
      · exact hq.2.1
      rw [List.mem_singleton.mp hz]
      exact hq.2.2
    · have hz := (List.mem_filter.mp (List.mem_of_mem_take hz)).2
      simpa using hz
theorem s_strange {ns : List Str} {v : Nat} {ρ : Rho} {κ : Kap} {P : R → Kap → Prop} (hn : Names ns) (h1 : ρ[1]? = some (some (.d (.list (ns.map .str))))) (hv : 1 < v) (hv2 : v < ρ.length)
    (k : ∀ sp : List Str, sp.length ≤ 1 → (∀ z ∈ sp, IsName z) → (∀ z ∈ sp, z ∉ ns) → P (.f (sp.map .str)) κ) :
    wSl (wLc (wSq (wTup (wCons (wC (.str "q")) (wCons (wC (.str "zz")) (wCons (wC (.str "pxq")) wNil))))) (wName v) (wB (wBin (inD true) (wVar v) (wVar 1))) (wVar v) [v]) wNoP (wP (wC (.int 1))) ρ κ P :=
  s_strange0 name_q hn h1 hv hv2 k
/-! a list of lent calls, each of them true -/
theorem lc_true {ok : Kap → Prop} {Ph : List PyData → List R → (R → List PyData → Prop) → Prop} {b v : Nat} {ρ : Rho} {κ : Kap} {P : R → Kap → Prop} {c : Int} (hc : 0 < c) (h0 : ∀ r, (ρ.set v r)[b]? = some (some (.c κ.length))) (hok : ∀ κ, ok κ) :
    ∀ (xs acc : List PyData) (N : Int) (bs : List PyData), Box N bs → acc.length + xs.length ≤ sizeLine → (∀ M bs, N ≤ M → M < N + c * (xs.length : Int) → Box M bs → ∀ Q : R → List PyData → Prop, (∀ bs', Box (M + c) bs' → Q (.d (.bool true)) bs') → Ph bs [] Q) →
    (∀ bs', Box (N + c * (xs.length : Int)) bs' → P (.f (acc ++ List.replicate xs.length (.bool true))) (κ ++ [.l bs'])) →
    lcL ok (wName v) wYes (wCallL Ph (wCons (wVar b) wNil)) ρ P xs acc (κ ++ [.l bs])
  | [], acc, N, bs, hb, _, _, k => by
    rw [lcL_nil]
    simpa using k bs (by simpa using hb)
  | x :: xs, acc, N, bs, hb, hl, hp, k => by
    rw [lcL_cons]
    simp only [List.length_cons] at hl hp k
    have ec : c * ((xs.length + 1 : Nat) : Int) = c + c * (xs.length : Int) := by
      rw [Int.natCast_add, Int.mul_add]
      simp [Int.add_comm]
    have pos : 0 ≤ c * (xs.length : Int) := Int.mul_nonneg (by omega) (by omega)
    have gl : ∀ bs : List PyData, (κ ++ [Cell.l bs])[κ.length]? = some (.l bs) := fun bs => by
      rw [List.getElem?_append_right (Nat.le_refl _), Nat.sub_self]; rfl
    have st : ∀ bs bs' : List PyData, (κ ++ [Cell.l bs]).set κ.length (.l bs') = κ ++ [.l bs'] := fun bs bs' => by
      rw [List.set_append_right _ _ (Nat.le_refl _), Nat.sub_self]; rfl
    simp only [s_name, wYes, if_true, s_callL, s_cons, s_nil, s_var, h0, st_c, lend_c, DL.args_nil, gl, Opt_some]
    refine hp N bs (Int.le_refl _) (by rw [ec]; omega) hb _ fun bs' hb' => ?_
    simp only [lab_d, st_d, dat_d, Opt_some, st]
    refine ⟨by omega, hok _, ?_⟩
    refine lc_true hc h0 hok xs _ (N + c) bs' hb' (by rw [List.length_append, List.length_singleton]; omega) (fun M bs h1 h2 => hp M bs (by omega) (by rw [ec]; omega)) fun bs2 hb2 => ?_
    have := k bs2 (by rw [ec]; exact hb2.mono (by omega))
    rw [List.append_assoc]
    exact this
end SH
/-! SHv: the shapes of the laws themselves. -/
namespace SH
open PySem PySem.Spec PyProof.Rows L2 DL
def Ph_law (rs : List R) (P : R → Prop) : Prop := ∃ ns : List Int, rs = [.s ns] ∧ P (.d (.bool true))
/-- one that's asked with a box says True and goes on with the box -/
def RightOk (Ph : List PyData → List R → (R → List PyData → Prop) → Prop) (c : Int) : Prop := 0 < c ∧ c ≤ 2 ^ 26 ∧ ∀ (N : Int) (bs : List PyData) (Q : R → List PyData → Prop), Box N bs → 0 ≤ N → N ≤ 2 ^ 30 → (∀ bs', Box (N + c) bs' → Q (.d (.bool true)) bs') → Ph bs [] Q
section
variable {Ph : List PyData → List R → (R → List PyData → Prop) → Prop} {c : Int}
/-! for k in ..: box = _law_box(script, k); if not all([_law_right(box) for turn in range(m)]): return False -/
def wb_lawA (Ph : List PyData → List R → (R → List PyData → Prop) → Prop) (m : Nat) : DTS := (wSeq (wSet true 2 (wCall Ph_law_box (wCons (wVar 0) (wCons (wVar 1) wNil))))
  (wIfS (wNot (wTru (wCB (allC fun bs => bs.all id) (wCons (wLc (wRng1 (wCons (wC (.int (m : Int))) wNil)) (wName 3) wYes (wCallL Ph (wCons (wVar 2) wNil)) [3]) wNil)))) (wRet (wC (.bool false))) wNext))
theorem all_true (n : Nat) : allC (fun bs => bs.all id) [.list (List.replicate n (.bool true))] = some (.v (.bool true)) := by
  have e : ∀ n : Nat, bools (List.replicate n (.bool true)) = some (List.replicate n true) := fun n => by
    induction n with
    | zero => rfl
    | succ n ih => rw [List.replicate_succ, List.replicate_succ]; unfold bools; rw [ih]; rfl
  unfold allC
  simp only [e]
  have : (List.replicate n true).all id = true := by
    rw [List.all_eq_true]
    intro x hx
    rw [List.eq_of_mem_replicate hx]
    rfl
  simp [this]
theorem law_bodyA {m : Nat} (hp : RightOk Ph c) (hm2 : m ≤ 4) {E : DEnds} {ns : List Int} {i : Nat} {p2 : Option R} {κ : Kap} (hi : i ≤ 1000) (k : ∀ p2 κ', E.nx [some (.s ns), some (.d (.int i)), p2, none] κ') : wb_lawA Ph m E [some (.s ns), some (.d (.int i)), p2, none] κ := by
  unfold wb_lawA
  rw [s_seq]
  simp only [s_set, s_call, s_cons, s_nil, s_var, List.getElem?_cons_succ, List.getElem?_cons_zero, st_d, st_s, args_d, args_s, DL.args_nil, Opt_some]
  refine ⟨ns, i, rfl, by omega, by omega, fun bs hb => ?_⟩
  have tt : truth (.bool true) = some true := rfl
  simp only [sto_t, List.set_cons_succ, List.set_cons_zero, s_if, s_not, s_tru, s_cb, s_cons, s_nil, s_lc, s_rng1, s_c, st_d, wipeR_cons, wipeR_nil]
  obtain ⟨c0, c1, hp⟩ := hp
  have cm : c * ((m : Nat) : Int) ≤ 2 ^ 26 * 4 := Int.mul_le_mul c1 (by omega) (by omega) (by decide)
  refine ⟨by omega, by omega, ?_⟩
  refine lc_true (b := 2) c0 (fun r => rfl) (fun _ => trivial) _ [] 0 bs hb ?_ (fun M bs h1 h2 hbM Q hQ => hp M bs Q hbM (by omega) ?_ hQ) fun bs' hb' => ?_
  · rw [List.length_map, List.length_range, List.length_nil, sizeLine_eq]; omega
  · rw [List.length_map, List.length_range, Int.toNat_natCast] at h2
    omega
  · simp only [List.nil_append, st_f, vals_cons, vals_nil, val_f, val_d, Opt_some, all_true, out_v, tt]
    simp only [st_d, val_d, Opt_some, tt, Bool.not_true]
    exact k _ _
/-- for k in range(max(1, min(M, len(script)))) -/
def w_lawC (Ph : List PyData → List R → (R → List PyData → Prop) → Prop) (M m : Nat) : DTS := (wSeq (wFor (wRng1 (wCons (wCB max2D (wCons (wC (.int 1)) (wCons (wCB min2D (wCons (wC (.int (M : Int))) (wCons (wLenS (wVar 0)) wNil))) wNil))) wNil)) (wName 1) (wb_lawA Ph m))
  (wRet (wC (.bool true))))
/-- for k in range(1 + min(M, len(script))) -/
def w_lawA (Ph : List PyData → List R → (R → List PyData → Prop) → Prop) (M m : Nat) : DTS := (wSeq (wFor (wRng1 (wCons (wBin addD (wC (.int 1)) (wCB min2D (wCons (wC (.int (M : Int))) (wCons (wLenS (wVar 0)) wNil)))) wNil)) (wName 1) (wb_lawA Ph m))
  (wRet (wC (.bool true))))
theorem rng_C (l M : Nat) : (if 1 < (if l < M then (l : Int) else (M : Int)) then (if l < M then (l : Int) else (M : Int)) else 1).toNat = max 1 (min M l) := by
  by_cases h : l < M
  · simp only [if_pos h]
    split <;> omega
  · simp only [if_neg h]
    split <;> omega
theorem rng_A (l M : Nat) : (1 + (if l < M then (l : Int) else (M : Int))).toNat = 1 + min M l := by
  by_cases h : l < M
  · simp only [if_pos h]
    omega
  · simp only [if_neg h]
    omega
theorem law_loop {Pd : R → Prop} {m n : Nat} (hp : RightOk Ph c) (hm2 : m ≤ 4) {ns : List Int} (hn : n ≤ 1000) (k : Pd (.d (.bool true))) : wSeq (fun E ρ κ => forL (fun _ => True) (wName 1) (wb_lawA Ph m) E ((List.range n).map fun (i : Nat) => .int (0 + (i : Int))) ρ κ) (wRet (wC (.bool true)))
    { nx := fun _ _ => Pd (.d .none), rt := fun r κ => Opt (outR κ 0 r) Pd } [some (.s ns), none, none, none] [] := by
  rw [s_seq]
  refine for_each (fun ρ κ => ∃ p1 p2, ρ = [some (.s ns), p1, p2, none]) (fun _ => trivial) _ _ _ ⟨_, _, rfl⟩ (fun x hx ρ κ h E' h1 h2 h3 h4 => ?_) (fun ρ κ h => ?_)
  · obtain ⟨p1, p2, rfl⟩ := h
    obtain ⟨i, hi, rfl⟩ := List.mem_map.mp hx
    have := List.mem_range.mp hi
    simp only [s_name, List.set_cons_succ, List.set_cons_zero, Int.zero_add]
    exact law_bodyA hp hm2 (by omega) fun p2 κ' => h3 _ _ ⟨_, _, rfl⟩
  · obtain ⟨p1, p2, rfl⟩ := h
    simp
    exact k
theorem r_lawC {M m : Nat} (hp : RightOk Ph c) (hM : M ≤ 100) (hm2 : m ≤ 4) (rs : List R) (Pd : R → Prop) (h : Ph_law rs Pd) (hl : rs.length = 1) : w_lawC Ph M m { nx := fun _ _ => Pd (.d .none), rt := fun r κ => Opt (outR κ 0 r) Pd } (rs.map some ++ List.replicate 3 none) [] := by
  obtain ⟨ns, rfl, k⟩ := h
  have := law_loop (m := m) (n := max 1 (min M ns.length)) hp hm2 (ns := ns) (by omega) k
  simp [w_lawC] at this ⊢
  refine ⟨by split <;> split <;> omega, by split <;> split <;> omega, ?_⟩
  rw [rng_C]
  exact this
theorem r_lawA {M m : Nat} (hp : RightOk Ph c) (hM : M ≤ 100) (hm2 : m ≤ 4) (rs : List R) (Pd : R → Prop) (h : Ph_law rs Pd) (hl : rs.length = 1) : w_lawA Ph M m { nx := fun _ _ => Pd (.d .none), rt := fun r κ => Opt (outR κ 0 r) Pd } (rs.map some ++ List.replicate 3 none) [] := by
  obtain ⟨ns, rfl, k⟩ := h
  have := law_loop (m := m) (n := 1 + min M ns.length) hp hm2 (ns := ns) (by omega) k
  simp [w_lawA] at this ⊢
  refine ⟨by split <;> omega, by split <;> omega, ?_⟩
  rw [rng_A]
  exact this
end
end SH
/-! SHza: boxes = [..]; return all([_law_right(box) for box in boxes * m]) -/
namespace SH
open PySem PySem.Spec PyProof.Rows L2 DL
def BoxesK (N : Int) (κ : Kap) : Prop := ∀ i, i < κ.length → ∃ bs, κ[i]? = some (.l bs) ∧ Box N bs
theorem BoxesK.snoc {N : Int} {κ : Kap} {bs : List PyData} (h : BoxesK N κ) (hb : Box N bs) : BoxesK N (κ ++ [.l bs]) := fun i hi => by
  rw [List.length_append, List.length_singleton] at hi
  by_cases c : i < κ.length
  · rw [List.getElem?_append_left c]; exact h i c
  · rw [List.getElem?_append_right (by omega), show i - κ.length = 0 by omega]
    exact ⟨bs, rfl, hb⟩
theorem BoxesK.put {N M : Int} {κ : Kap} {bs : List PyData} {j : Nat} (h : BoxesK N κ) (hm : N ≤ M) (hb : Box M bs) : BoxesK M (κ.set j (.l bs)) := fun i hi => by
  rw [List.length_set] at hi
  by_cases c : j = i
  · subst c
    exact ⟨bs, List.getElem?_set_self hi, hb⟩
  · rw [List.getElem?_set_ne c]
    obtain ⟨b, e, q⟩ := h i hi
    exact ⟨b, e, q.mono hm⟩
section
variable {Ph : List PyData → List R → (R → List PyData → Prop) → Prop} {c : Int}
theorem boxes_turn (hp : RightOk Ph c) {ρ : Rho} {v : Nat} (hv : v < ρ.length) {P : R → Kap → Prop} : ∀ (js : List Nat) (acc : List PyData) (N : Int) (κ : Kap), BoxesK N κ → 0 ≤ N → N + c * (js.length : Int) ≤ 2 ^ 30 → (∀ j ∈ js, j < κ.length) → acc.length + js.length ≤ sizeLine →
    (∀ κ', P (.f (acc ++ List.replicate js.length (.bool true))) κ') →
    lcR (wName v) wYes (wCallL Ph (wCons (wVar v) wNil)) ρ P (js.map R.c) acc κ
  | [], acc, N, κ, hb, _, _, _, _, k => by
    unfold lcR
    simpa using k κ
  | j :: js, acc, N, κ, hb, h0, hN, hj, hl, k => by
    have c0 := hp.1
    simp only [List.length_cons] at hN hl k
    have ec : c * ((js.length + 1 : Nat) : Int) = c + c * (js.length : Int) := by
      rw [Int.natCast_add, Int.mul_add]
      simp [Int.add_comm]
    rw [ec] at hN
    have pos : 0 ≤ c * (js.length : Int) := Int.mul_nonneg (by omega) (by omega)
    obtain ⟨bs, eb, hbb⟩ := hb j (hj j (List.mem_cons_self ..))
    rw [List.map_cons]
    unfold lcR
    have e2 : (ρ.set v (some (R.c j)))[v]? = some (some (R.c j)) := List.getElem?_set_self hv
    simp only [s_name, wYes, if_true, s_callL, s_cons, s_nil, s_var, e2, st_c, lend_c, DL.args_nil, eb, Opt_some]
    refine hp.2.2 N bs _ hbb h0 (by omega) fun bs' hb' => ?_
    simp only [lab_d, st_d, dat_d, Opt_some]
    refine ⟨by omega, ?_⟩
    refine boxes_turn hp hv js _ (N + c) _ (hb.put (by omega) hb') (by omega) (by omega) (fun i hi => by rw [List.length_set]; exact hj i (List.mem_cons_of_mem _ hi)) (by rw [List.length_append, List.length_singleton]; omega) fun κ' => ?_
    have := k κ'
    rw [List.append_assoc]
    exact this
theorem boxes_make {ok : Kap → Prop} (hok : ∀ κ, ok κ) {s : List Int} {ρ : Rho} {v : Nat} (hs : ρ[0]? = some (some (.s s))) (hv : v < ρ.length) (hv0 : v ≠ 0) {P : R → Kap → Prop} : ∀ (xs : List Nat) (ks : List Nat) (κ : Kap), (∀ i ∈ xs, i ≤ 1000) → BoxesK 0 κ → (∀ j ∈ ks, j < κ.length) → ks.length + xs.length ≤ 1000000 →
    (∀ (ks' : List Nat) (κ' : Kap), BoxesK 0 κ' → (∀ j ∈ ks', j < κ'.length) → ks'.length = ks.length + xs.length → P (.b ks') κ') →
    lcB ok (wName v) wYes (wCall Ph_law_box (wCons (wVar 0) (wCons (wVar v) wNil))) ρ P (xs.map fun (i : Nat) => PyData.int (i : Int)) ks κ
  | [], ks, κ, _, hb, hk, _, k => by
    rw [List.map_nil]
    unfold lcB
    exact k ks κ hb hk rfl
  | i :: xs, ks, κ, hi, hb, hk, hl, k => by
    simp only [List.length_cons] at hl k
    rw [List.map_cons]
    unfold lcB
    have e0 : ∀ r, (ρ.set v r)[0]? = some (some (.s s)) := fun r => by rw [List.getElem?_set_ne hv0]; exact hs
    have e2 : ∀ r : Option R, (ρ.set v r)[v]? = some r := fun r => List.getElem?_set_self hv
    simp only [s_name, wYes, if_true, s_call, s_cons, s_nil, s_var, e0, e2, st_s, st_d, args_s, args_d, DL.args_nil, Opt_some]
    refine ⟨s, i, rfl, by omega, by have := hi i (List.mem_cons_self ..); omega, fun bs hbs => ?_⟩
    simp only
    refine ⟨by rw [sizeLine_eq]; omega, hok _, ?_⟩
    refine boxes_make hok hs hv hv0 xs _ _ (fun j hj => hi j (List.mem_cons_of_mem _ hj)) (hb.snoc hbs) (fun j hj => ?_) (by rw [List.length_append, List.length_singleton]; omega) fun ks' κ' h1 h2 h3 => k ks' κ' h1 h2 (by rw [h3, List.length_append, List.length_singleton]; omega)
    rw [List.length_append, List.length_singleton]
    rcases List.mem_append.mp hj with h | h
    · have := hk j h; omega
    · rw [List.mem_singleton.mp h]; omega
/-- boxes = [_law_box(script, k) for k in range(1 + min(M, len(script)))]; all([_law_right(box) for box in boxes * m]) -/
def w_lawB (Ph : List PyData → List R → (R → List PyData → Prop) → Prop) (M m : Nat) : DTS := (wSeq (wSet false 1 (wLcB (wRng1 (wCons (wBin addD (wC (.int 1)) (wCB min2D (wCons (wC (.int (M : Int))) (wCons (wLenS (wVar 0)) wNil)))) wNil)) (wName 2) wYes (wCall Ph_law_box (wCons (wVar 0) (wCons (wVar 2) wNil))) [2]))
  (wRet (wCB (allC fun bs => bs.all id) (wCons (wLcR (wRefs (wMulB (wVar 1) (wC (.int (m : Int))))) (wName 3) wYes (wCallL Ph (wCons (wVar 3) wNil)) [3]) wNil))))
theorem r_lawB {M m : Nat} (hp : RightOk Ph c) (hM : M ≤ 10) (hm : m ≤ 10) (h2 : c * 110 ≤ 2 ^ 30) (rs : List R) (Pd : R → Prop) (h : Ph_law rs Pd) (hl : rs.length = 1) : w_lawB Ph M m { nx := fun _ _ => Pd (.d .none), rt := fun r κ => Opt (outR κ 0 r) Pd } (rs.map some ++ List.replicate 3 none) [] := by
  obtain ⟨ns, rfl, k⟩ := h
  clear hl
  have c0 := hp.1
  simp only [List.map_cons, List.map_nil, List.replicate_succ, List.replicate_zero, List.cons_append, List.nil_append]
  unfold w_lawB
  rw [s_seq, s_set]
  have sz : sizeLine = 4194304 ∨ 1000000 ≤ sizeLine := .inr (by rw [sizeLine_eq]; decide)
  have rl : ∀ z : Int, 0 ≤ z → z ≤ 11 → z = ((z.toNat : Nat) : Int) := fun z h1 h2 => by omega
  simp only [s_lcB, s_rng1, s_bin, s_cb, s_cons, s_nil, s_c, s_lenS, s_var, List.getElem?_cons_succ, List.getElem?_cons_zero, st_d, st_s, val_d, vals_cons, vals_nil, Opt_some, min2D_int, out_v, addD_int, wipeR_cons, wipeR_nil]
  refine ⟨by split <;> omega, by split <;> omega, ?_⟩
  rw [show (1 + if (ns.length : Int) < (M : Int) then (ns.length : Int) else (M : Int)).toNat = 1 + min M ns.length by split <;> omega]
  have em : ((List.range (1 + min M ns.length)).map fun (i : Nat) => PyData.int (0 + (i : Int))) = (List.range (1 + min M ns.length)).map fun (i : Nat) => PyData.int (i : Int) := by
    refine List.map_congr_left fun i _ => ?_
    rw [Int.zero_add]
  rw [em]
  refine boxes_make (fun _ => trivial) (s := ns) rfl (by simp) (by decide) _ [] [] (fun i hi => by have := List.mem_range.mp hi; omega) (fun i hi => by simp at hi) (fun j hj => nomatch hj) (by rw [List.length_range, List.length_nil]; omega) fun ks κ hb hk hkl => ?_
  rw [List.length_range, List.length_nil] at hkl
  have eb : ∀ κ : Kap, sto false (.b ks) κ = (.b ks, κ) := fun κ => rfl
  simp only [eb, List.set_cons_succ, List.set_cons_zero, s_ret, s_cb, s_cons, s_nil, s_lcR, s_refs, s_mulB, s_var, s_c, List.getElem?_cons_succ, List.getElem?_cons_zero, wipeR_cons, wipeR_nil]
  have fl : ((List.replicate m ks).flatten).length = m * ks.length := by
    simp [List.length_flatten]
  have hle : m * ks.length ≤ 110 := by
    have : m * ks.length ≤ 10 * 11 := Nat.mul_le_mul hm (by omega)
    omega
  have hce : c * ((m * ks.length : Nat) : Int) ≤ c * 110 := Int.mul_le_mul_of_nonneg_left (by omega) (by omega)
  refine ⟨by omega, by omega, by rw [Int.toNat_natCast, Nat.mul_comm, sizeLine_eq]; omega, ?_⟩
  rw [Int.toNat_natCast]
  refine boxes_turn hp (by simp) _ [] 0 κ hb (by omega) (by rw [fl]; omega) (fun j hj => ?_) (by rw [fl, List.length_nil, sizeLine_eq]; omega) fun κ' => ?_
  · obtain ⟨l, h1, h2⟩ := List.mem_flatten.mp hj
    rw [List.eq_of_mem_replicate h1] at h2
    exact hk j h2
  · simp only [List.nil_append, st_f, vals_cons, vals_nil, val_f, val_d, Opt_some, all_true, out_v]
    exact k
end
end SH
/-! DLta: an expression that only reads: while it runs, lists that live are known for good; what it tells is flat. -/
namespace DL
open PySem PySem.Spec PyProof.Rows L2
def lockC (κ : Kap) : List Nat → Option Kap
  | [] => some κ
  | k :: ks => match dat κ (.c k) with
    | some (_, κ1) => lockC κ1 ks
    | none => none
/-- what the cells hold, all of them known for good -/
def zsC (κ : Kap) : List Nat → Option (List PyData)
  | [] => some []
  | k :: ks => match κ[k]?, zsC κ ks with
    | some (.z x), some xs => some (x :: xs)
    | _, _ => none
def lockV (κ : Kap) : List Nat → Rho → Option Rho
  | [], ρ => some ρ
  | v :: vs, ρ => match ρ[v]? with
    | some (some (.b ks)) => match zsC κ ks with
      | some xs => lockV κ vs (ρ.set v (some (.d (.list xs))))
      | none => none
    | _ => lockV κ vs ρ
def flatX : PyData → Bool
  | .none => true
  | .bool _ => true
  | .int _ => true
  | .str _ => true
  | _ => false
def flatR : R → Bool
  | .d x => flatX x
  | _ => false
def unlock1 : Cell → Cell → Cell → Option Cell
  | .l xs, .z (.list _), _ => some (.l xs)
  | .l _, .l _, .l ys => if ys.all flatX then some (.l ys) else none
  | .z x, _, _ => some (.z x)
  | .k es, _, _ => some (.k es)
  | .x _, _, .x u => some (.x u)
  | _, _, _ => none
def unlock : Kap → Kap → Kap → Option Kap
  | [], [], [] => some []
  | c :: cs, c1 :: cs1, c2 :: cs2 => match unlock1 c c1 c2, unlock cs cs1 cs2 with
    | some d, some ds => some (d :: ds)
    | _, _ => none
  | _, _, _ => none
def wTemp (vs : List Nat) (we : DTE) : DTE := fun ρ κ P => ∃ ks : List Nat, Opt (lockC κ ks) fun κ1 => Opt (lockV κ1 vs ρ) fun ρ1 => we ρ1 κ1 fun r κ2 => flatR r = true ∧ Opt (unlock κ κ1 κ2) fun κ3 => P r κ3
section
variable {K : PySem.W.Frag} {G H G' H' G1 H1 : Hp} {As As' As1 : List Addr} {σ : L2.St} {ρ ρ' : Rho} {κ κ' κ1 κ2 κ3 : Kap} {v : V} {r : R}
theorem lockC_ok : ∀ {ks : List Nat} {G : Hp} {κ : Kap}, Cells K G H As κ → lockC κ ks = some κ' → ∃ G', Step G H As G' H As ∧ Cells K G' H As κ'
  | [], G, κ, c, e => by
    cases e
    exact ⟨G, Step.refl, c⟩
  | k :: ks, G, κ, c, e => by
    unfold lockC at e
    cases q : dat κ (.c k) with
    | none => rw [q] at e; cases e
    | some p =>
      obtain ⟨x, κ1⟩ := p
      rw [q] at e
      have hk : k < κ.length := by
        unfold dat at q
        simp only at q
        cases z : κ[k]? with
        | none => rw [z] at q; cases q
        | some c => exact (List.getElem?_eq_some_iff.mp z).1
      have ha : As[k]? = some (As[k]'(by rw [c.len]; exact hk)) := List.getElem?_eq_getElem _
      obtain ⟨G1, s1, c1, _⟩ := dat_ok (v := .ref (As[k]'(by rw [c.len]; exact hk))) (r := .c k) c ⟨_, ha, rfl⟩ q
      obtain ⟨G2, s2, c2⟩ := lockC_ok c1 e
      exact ⟨G2, s1.trans s2, c2⟩
theorem zsC_ok (c : Cells K G H As κ) : ∀ {ks : List Nat} {xs : List PyData} {vs : List V}, zsC κ ks = some xs → vs.length = ks.length → (∀ (i k : Nat), ks[i]? = some k → ∃ c, As[k]? = some c ∧ vs[i]? = some (V.ref c)) → RpA K G vs xs
  | [], xs, vs, e, hl, h => by
    cases e
    have : vs = [] := List.length_eq_zero_iff.mp hl
    rw [this]
    exact .nil
  | k :: ks, xs, [], e, hl, h => by simp at hl
  | k :: ks, xs, v :: vs, e, hl, h => by
    unfold zsC at e
    split at e
    · rename_i x ys e1 e2
      cases e
      obtain ⟨a, h1, h2⟩ := h 0 k rfl
      have ev : v = .ref a := by simpa using h2
      rw [ev]
      exact .cons (c.ok k _ a e1 h1) (zsC_ok c e2 (by simpa using hl) fun i j hj => by simpa using h (i + 1) j (by simpa using hj))
    · cases e
theorem lockV_ok (c : Cells K G H As κ) : ∀ {vs : List Nat} {ρ : Rho}, Places K G As σ ρ → lockV κ vs ρ = some ρ' → Places K G As σ ρ'
  | [], ρ, p, e => by cases e; exact p
  | v :: vs, ρ, p, e => by
    unfold lockV at e
    split at e
    · rename_i ks hk
      split at e
      · rename_i xs hx
        refine lockV_ok c ?_ e
        refine ⟨by rw [List.length_set]; exact p.len, fun i r h => ?_⟩
        by_cases q : v = i
        · subst q
          rw [List.getElem?_set_self (List.getElem?_eq_some_iff.mp hk).1] at h
          cases h
          obtain ⟨w, h1, a, us, rfl, h2, h3, h4⟩ := p.ok v _ hk
          exact ⟨.ref a, h1, .lst h2 (zsC_ok c hx h3 h4)⟩
        · rw [List.getElem?_set_ne q] at h
          exact p.ok i r h
      · cases e
    · exact lockV_ok c p e
theorem flat_rp {x : PyData} (hx : flatX x = true) (h : Rp K G v x) : Rp K G' v x := by
  cases x with
  | none => cases h; exact .non
  | bool b => cases h; exact .bl b
  | int i => cases h; exact .int i
  | str z => cases h; exact .str z
  | _ => cases hx
theorem flat_rpa : ∀ {xs : List PyData} {vs : List V}, xs.all flatX = true → RpA K G vs xs → RpA K G' vs xs
  | _, _, _, .nil => .nil
  | x :: xs, _, e, .cons h t => by
    rw [List.all_cons, Bool.and_eq_true] at e
    exact .cons (flat_rp e.1 h) (flat_rpa e.2 t)
theorem unlock_get : ∀ {κ κ1 κ2 κ3 : Kap} {j : Nat} {c : Cell}, unlock κ κ1 κ2 = some κ3 → κ3[j]? = some c → ∃ c0 c1 c2, κ[j]? = some c0 ∧ κ1[j]? = some c1 ∧ κ2[j]? = some c2 ∧ unlock1 c0 c1 c2 = some c
  | [], [], [], κ3, j, c, e, h => by cases e; simp at h
  | c0 :: κ, c1 :: κ1, c2 :: κ2, κ3, j, c, e, h => by
    unfold unlock at e
    split at e
    · rename_i d ds e1 e2
      cases e
      cases j with
      | zero =>
        have : d = c := by simpa using h
        subst this
        exact ⟨c0, c1, c2, rfl, rfl, rfl, e1⟩
      | succ j =>
        obtain ⟨x, y, z, h1, h2, h3, h4⟩ := unlock_get e2 (by simpa using h)
        exact ⟨x, y, z, by simpa using h1, by simpa using h2, by simpa using h3, h4⟩
    · cases e
  | [], [], _ :: _, _, _, _, e, _ => by cases e
  | [], _ :: _, _, _, _, _, e, _ => by cases e
  | _ :: _, [], _, _, _, _, e, _ => by cases e
  | _ :: _, _ :: _, [], _, _, _, e, _ => by cases e
theorem unlock_len : ∀ {κ κ1 κ2 κ3 : Kap}, unlock κ κ1 κ2 = some κ3 → κ3.length = κ.length ∧ κ2.length = κ.length
  | [], [], [], κ3, e => by cases e; exact ⟨rfl, rfl⟩
  | c0 :: κ, c1 :: κ1, c2 :: κ2, κ3, e => by
    unfold unlock at e
    split at e
    · rename_i d ds e1 e2
      cases e
      obtain ⟨h1, h2⟩ := unlock_len e2
      exact ⟨congrArg (· + 1) h1, congrArg (· + 1) h2⟩
    · cases e
  | [], [], _ :: _, _, e => by cases e
  | [], _ :: _, _, _, e => by cases e
  | _ :: _, [], _, _, e => by cases e
  | _ :: _, _ :: _, [], _, e => by cases e
theorem unlock_ok (c : Cells K G H As κ) (c1 : Cells K G1 H As κ1) (e1 : Ex G G1) (s : Step G1 H As G' H' As') (c2 : Cells K G' H' As' κ2) (e : unlock κ κ1 κ2 = some κ3) : As' = As ∧ Cells K G H' As κ3 := by
  obtain ⟨l3, l2⟩ := unlock_len e
  obtain ⟨bs, eb⟩ := s.pre
  have el : As' = As := by
    have h1 := c2.len
    have h2 := c.len
    rw [eb, List.length_append] at h1
    have : bs = [] := List.length_eq_zero_iff.mp (by omega)
    rw [eb, this, List.append_nil]
  refine ⟨el, ?_⟩
  subst el
  refine ⟨(e1.trans s.ex).trans c2.ext, by rw [l3]; exact c.len, c.nd, c2.al, fun j x a h1 h2 => ?_⟩
  obtain ⟨x0, x1, x2, q0, q1, q2, q⟩ := unlock_get e h1
  have o0 := c.ok j x0 a q0 h2
  have o1 := c1.ok j x1 a q1 h2
  have o2 := c2.ok j x2 a q2 h2
  unfold unlock1 at q
  split at q
  · rename_i xs ds _
    cases q
    obtain ⟨g0, vs, w1, w2⟩ := o0
    refine ⟨g0, vs, ?_, w2⟩
    have o1 : Rp K G1 (.ref a) (.list _) := o1
    cases o1 with
    | lst z1 z2 =>
      have := c1.ext _ _ z1
      rw [w1] at this
      cases this
      exact c2.ext _ _ (s.ex _ _ z1)
  · rename_i ys
    split at q
    · rename_i hf
      cases q
      obtain ⟨_, vs, w1, w2⟩ := o2
      exact ⟨o0.1, vs, w1, flat_rpa hf w2⟩
    · cases q
  · cases q
    exact o0
  · cases q
    exact o0
  · cases q
    exact ⟨o0.1, o2.2⟩
  · cases q
end
theorem de_temp {X : Cx} {e : Expr} {we : DTE} (vs : List Nat) (he : DE X e we) : DE X e (wTemp vs we) := by
  obtain ⟨t, pt, he⟩ := he
  refine ⟨t, pt, fun G H As σ ρ κ P Q c p w k => ?_⟩
  obtain ⟨ks, w⟩ := w
  obtain ⟨κ1, e1, w⟩ := w.ex
  obtain ⟨ρ1, e2, w⟩ := w.ex
  obtain ⟨G1, s1, c1⟩ := lockC_ok c e1
  refine he G1 H As σ ρ1 κ1 _ _ c1 (lockV_ok c1 (p.step s1) e2) w fun v r G2 H2 As2 κ2 s2 c2 p2 i2 w2 => ?_
  obtain ⟨hf, w2⟩ := w2
  obtain ⟨κ3, e3, w3⟩ := w2.ex
  obtain ⟨ea, c3⟩ := unlock_ok c c1 s1.ex s2 c2 e3
  subst ea
  have st : Step G H As2 G H2 As2 := ⟨Ex.refl G, ⟨[], by simp⟩, fun _ h => .inl h, fun b o hb e => s2.fr b o hb e, s2.dom, fun b h => .inl h⟩
  cases r with
  | d x => exact k v (.d x) G H2 As2 κ3 st c3 p (flat_rp (v := v) hf i2) w3
  | _ => cases hf
end DL
/-! DLtb: [xs, ys, ..] of lists that live; for over them; [.. for v in d.values()] of a dict that lives. -/
namespace DL
open PySem PySem.Spec PyProof.Rows L2
/-! ### a list of lists that live, written out -/
def cksR : List R → Option (List Nat)
  | [] => some []
  | .c k :: rs => match cksR rs with
    | some ks => some (k :: ks)
    | none => none
  | _ => none
def wLstB (wr : DTA) : DTE := fun ρ κ P => wr ρ κ fun rs κ1 => Opt (cksR rs) fun ks => ks.length ≤ sizeLine ∧ P (.b ks) κ1
theorem cks_refs {K : PySem.W.Frag} {G : Hp} {As : List Addr} : ∀ {vs : List V} {rs : List R} {ks : List Nat}, Paired (It K G As) vs rs → cksR rs = some ks → Refs As vs ks
  | _, [], ks, h, e => by
    cases h; cases e
    exact Refs.nil
  | _, r :: rs, ks, h, e => by
    cases h with
    | cons h1 h2 =>
      cases r with
      | c k =>
        unfold cksR at e
        cases q : cksR rs with
        | none => rw [q] at e; cases e
        | some ks' =>
          rw [q] at e
          cases e
          obtain ⟨a, e1, rfl⟩ := h1
          have ih := cks_refs h2 q
          refine ⟨congrArg (· + 1) ih.1, fun i j hj => ?_⟩
          cases i with
          | zero => cases hj; exact ⟨a, e1, rfl⟩
          | succ i => exact ih.2 i j hj
      | _ => cases e
section
variable {X : Cx} {es : List Expr} {wr : DTA} {pos : Pos}
theorem de_lstB (h : DA X es wr) : DE X (.List es pos) (wLstB wr) := by
  obtain ⟨t, pt, h⟩ := h
  refine ⟨_, pe_lst pt, fun G H As σ ρ κ P Q c p w k => ?_⟩
  refine h G H As σ ρ κ _ _ c p w fun vs rs G1 H1 As1 κ1 s1 c1 p1 i1 el w1 => ?_
  obtain ⟨ks, e, hl, w2⟩ := w1.ex
  have rf := cks_refs i1 e
  refine ⟨by rw [rf.1]; exact hl, fun q hq => ?_⟩
  have st := Step.laid (As := As1) (o := .lst vs) c1.ext hq
  exact k (.ref q) (.b ks) _ _ As1 κ1 (s1.trans st) (c1.laid hq) (p1.step st) ⟨q, vs, rfl, upd_same, rf.1, rf.2⟩ w2
end
@[simp] theorem s_lstB (wr : DTA) (ρ : Rho) (κ : Kap) (P : R → Kap → Prop) : wLstB wr ρ κ P = wr ρ κ fun rs κ1 => Opt (cksR rs) fun ks => ks.length ≤ sizeLine ∧ P (.b ks) κ1 := rfl
/-! ### for x in a list of lists that live -/
def forRL (g : DTG) (b : DTS) (E : DEnds) : List R → Rho → Kap → Prop
  | [], ρ, κ => E.nx ρ κ
  | x :: xs, ρ, κ => g x ρ κ fun ρ1 κ1 => b { nx := fun ρ2 κ2 => forRL g b E xs ρ2 κ2, rt := E.rt, bk := E.nx, ct := fun ρ2 κ2 => forRL g b E xs ρ2 κ2 } ρ1 κ1
def wForR (wi : DTIR) (g : DTG) (b : DTS) : DTS := fun E ρ κ => wi ρ κ fun xs κ1 => forRL g b E xs ρ κ1
@[simp] theorem s_forR (wi : DTIR) (g : DTG) (b : DTS) (E : DEnds) (ρ : Rho) (κ : Kap) : wForR wi g b E ρ κ = wi ρ κ fun xs κ1 => forRL g b E xs ρ κ1 := rfl
@[simp] theorem forRL_nil (g : DTG) (b : DTS) (E : DEnds) (ρ : Rho) (κ : Kap) : forRL g b E [] ρ κ = E.nx ρ κ := rfl
@[simp] theorem forRL_cons (g : DTG) (b : DTS) (E : DEnds) (x : R) (xs : List R) (ρ : Rho) (κ : Kap) : forRL g b E (x :: xs) ρ κ = g x ρ κ fun ρ1 κ1 => b { nx := fun ρ2 κ2 => forRL g b E xs ρ2 κ2, rt := E.rt, bk := E.nx, ct := fun ρ2 κ2 => forRL g b E xs ρ2 κ2 } ρ1 κ1 := rfl
section
variable {X : Cx} {tg it : Expr} {body : List Stmt} {wi : DTIR} {g : DTG} {b : DTS} {js : List Nat} {pos : Pos}
theorem ds_forR (hp : PassesOwn (model X.prog X.w) X.A X.env X.xe) (hc : X.calm = true) (hi : DIR X tg it wi) (hg : DG X tg js g) (hb : DSs X body b) (hs : ∀ x, foldedSetIterable it X.env x = pure x := by intro _; rfl) : DS X (.For tg it body [] pos) (wForR wi g b) := by
  obtain ⟨ti, pi, hi⟩ := hi
  obtain ⟨tg', pg, hg⟩ := hg
  obtain ⟨tb, pb, hb⟩ := hb
  refine ⟨_, ps_for hp hc pi pg pb hs, fun G H As σ ρ κ E D cc p w r => ?_⟩
  refine hi G H As σ ρ κ _ _ cc p w fun J xs G1 H1 As1 κ1 s1 c1 p1 wk w1 => ?_
  refine ⟨fun i m σ' H' => i + m = xs.length ∧ ∃ G' As' ρ' κ', Step G1 H1 As1 G' H' As' ∧ Cells X.K G' H' As' κ' ∧ Places X.K G' As' σ' ρ' ∧ forRL g b E (xs.drop i) ρ' κ',
    ⟨xs.length, by omega, G1, As1, ρ, κ1, Step.refl, c1, p1, w1⟩, fun i m σ' H' hW => ?_⟩
  obtain ⟨em, G', As', ρ', κ', s', c', p', f⟩ := hW
  obtain ⟨wgo, wst, wyl⟩ := wk G' H' As' κ' s'.ex s'.pre c'
  cases m with
  | zero =>
    have ei : i = xs.length := by omega
    subst ei
    rw [List.drop_length] at f
    exact .inl ⟨wst, r.nx _ _ G' H' As' κ' (s1.trans s') c' p' f⟩
  | succ m =>
    have hi' : i < xs.length := by omega
    rw [List.drop_eq_getElem_cons hi'] at f
    refine .inr ⟨wgo i hi', fun σ2 H2 => ∃ G2 As2 ρ2 κ2, Step G1 H1 As1 G2 H2 As2 ∧ Cells X.K G2 H2 As2 κ2 ∧ Places X.K G2 As2 σ2 ρ2 ∧ forRL g b E (xs.drop (i + 1)) ρ2 κ2,
      fun σ2 H2 ⟨G2, As2, ρ2, κ2, q⟩ => ⟨m, by omega, by omega, G2, As2, ρ2, κ2, q⟩, fun v H2 hy => ?_⟩
    obtain ⟨G2, s2, c2, r2⟩ := wyl i v H2 _ hy (List.getElem?_eq_getElem hi')
    refine hg G2 H2 As' σ' ρ' κ' v xs[i] _ _ c2 (p'.step s2) r2 f fun σ3 ρ3 G3 H3 As3 κ3 _ s3 c3 p3 w3 => ?_
    have st : Step G1 H1 As1 G3 H3 As3 := (s'.trans s2).trans s3
    refine hb G3 H3 As3 σ3 ρ3 κ3 _ _ c3 p3 w3 ⟨fun a b' c d e f' x y z q => ⟨c, e, b', f', st.trans x, y, z, q⟩, fun a b' c d e f' x y z q => r.nx a b' c d e f' ((s1.trans st).trans x) y z q, fun a b' c d e f' x y z q => ⟨c, e, b', f', st.trans x, y, z, q⟩, fun a b' c d e f' x y z q => r.rt a b' c d e f' ((s1.trans st).trans x) y (z.back (s1.trans st)) q⟩
end
/-! ### [.. for v in d.values()], d a dict that lives, its lists too -/
def WalkRk (K : PySem.W.Frag) (G : Hp) (As : List Addr) (J : L2.It) (xs : List R) (ok : Kap → Prop) : Prop := ∀ (G' H' : Hp) (As' : List Addr) (κ' : Kap), Ex G G' → (∃ bs, As' = As ++ bs) → Cells K G' H' As' κ' → ok κ' →
  (∀ i, i < xs.length → J.go i H') ∧ J.stop xs.length H' ∧ ∀ i v H'' x, J.yld i H' v H'' → xs[i]? = some x → ∃ G'', Step G' H' As' G'' H'' As' ∧ Cells K G'' H'' As' κ' ∧ It K G'' As' v x
abbrev DTIRk := Rho → Kap → (List R → (Kap → Prop) → Kap → Prop) → Prop
def lcRk (ok : Kap → Prop) (g : DTG) (t : DTT) (e : DTE) (ρw : Rho) (P : R → Kap → Prop) : List R → List PyData → Kap → Prop
  | [], acc, κ => P (.f acc) κ
  | x :: xs, acc, κ => g x ρw κ fun ρ1 κ1 => t ρ1 κ1 fun b κ2 => if b = true then e ρ1 κ2 fun r κ3 => Opt (dat κ3 r.st) fun q => acc.length < sizeLine ∧ ok q.2 ∧ lcRk ok g t e ρw P xs (acc ++ [q.1]) q.2 else ok κ2 ∧ lcRk ok g t e ρw P xs acc κ2
def wLcRk (wi : DTIRk) (g : DTG) (t : DTT) (e : DTE) (vs : List Nat) : DTE := fun ρ κ P => wi ρ κ fun xs ok κ1 => lcRk ok g t e (wipeR ρ vs) P xs [] κ1
@[simp] theorem lcRk_nil (ok : Kap → Prop) (g : DTG) (t : DTT) (e : DTE) (ρ : Rho) (P : R → Kap → Prop) (acc : List PyData) (κ : Kap) : lcRk ok g t e ρ P [] acc κ = P (.f acc) κ := rfl
theorem lcRk_cons (ok : Kap → Prop) (g : DTG) (t : DTT) (e : DTE) (ρ : Rho) (P : R → Kap → Prop) (x : R) (xs : List R) (acc : List PyData) (κ : Kap) : lcRk ok g t e ρ P (x :: xs) acc κ = g x ρ κ fun ρ1 κ1 => t ρ1 κ1 fun b κ2 => if b = true then e ρ1 κ2 fun r κ3 => Opt (dat κ3 r.st) fun q => acc.length < sizeLine ∧ ok q.2 ∧ lcRk ok g t e ρ P xs (acc ++ [q.1]) q.2 else ok κ2 ∧ lcRk ok g t e ρ P xs acc κ2 := rfl
section
variable {X : Cx} {elt tg iter : Expr} {ifs : List Expr} {scope : Scope} {own : List (Str × Nat)} {pos : Pos} {g : DTG} {wt : DTT} {we : DTE} {js : List Nat}
theorem lcRk_reads {wi : DTIRk} {ti : TI} {gg : TG} {tt : TT} {te : TE} {vs : List Nat} (hj : ∀ j, j ∈ js → j ∈ vs)
    (hg : ∀ (G H : Hp) (As : List Addr) (σ : L2.St) (ρ : Rho) (κ : Kap) (v : V) (r : R) (P : Rho → Kap → Prop) (Q : L2.St → Hp → Prop), Cells X.K G H As κ → Places X.K G As σ ρ → It X.K G As v r → g r ρ κ P → (∀ σ' ρ' G' H' As' κ', Wr js σ σ' → Step G H As G' H' As' → Cells X.K G' H' As' κ' → Places X.K G' As' σ' ρ' → P ρ' κ' → Q σ' H') → gg v σ H Q)
    (ht : ∀ (G H : Hp) (As : List Addr) (σ : L2.St) (ρ : Rho) (κ : Kap) (P : Bool → Kap → Prop) (Q : Bool → Hp → Prop), Cells X.K G H As κ → Places X.K G As σ ρ → wt ρ κ P → (∀ b G' H' As' κ', Step G H As G' H' As' → Cells X.K G' H' As' κ' → Places X.K G' As' σ ρ → P b κ' → Q b H') → tt σ H Q)
    (he : ∀ (G H : Hp) (As : List Addr) (σ : L2.St) (ρ : Rho) (κ : Kap) (P : R → Kap → Prop) (Q : VK), Cells X.K G H As κ → Places X.K G As σ ρ → we ρ κ P → (∀ v r G' H' As' κ', Step G H As G' H' As' → Cells X.K G' H' As' κ' → Places X.K G' As' σ ρ → Rv X.K H G' H' As' v r → P r κ' → Q v H') → te σ H Q)
    (G H : Hp) (As : List Addr) (σ : L2.St) (ρ : Rho) (κ : Kap) (P : R → Kap → Prop) (Q : VK) (c : Cells X.K G H As κ) (p : Places X.K G As σ ρ) (w : wLcRk wi g wt we vs ρ κ P)
    (hi : ∀ (P : List R → (Kap → Prop) → Kap → Prop) (R' : L2.It → Hp → Prop), wi ρ κ P → (∀ J xs ok G' H' As' κ', Step G H As G' H' As' → Cells X.K G' H' As' κ' → Places X.K G' As' σ ρ → WalkRk X.K G' As' J xs ok → ok κ' → P xs ok κ' → R' J H') → ti σ H R')
    (k : ∀ v r G' H' As' κ', Step G H As G' H' As' → Cells X.K G' H' As' κ' → Places X.K G' As' σ ρ → Rv X.K H G' H' As' v r → P r κ' → Q v H') : tLc ti gg tt te vs σ H Q := by
  refine hi _ _ w fun J xs ok G1 H1 As1 κ1 s1 c1 p1 wk o1 w1 => fun D hD => ?_
  have gD1 : G1 D = none := c1.ext.free hD
  have nD1 : D ∉ As1 := c1.notin hD
  -- the list that is made stands at D, is known to nobody, and only the turns change it
  let W : Nat → Hp → Prop := fun i H' => ∃ G' As' κ' acc vs', Step G1 H1 As1 G' H' As' ∧ Cells X.K G' H' As' κ' ∧ G' D = none ∧ D ∉ As' ∧ H' D = some (.lst vs') ∧ RpA X.K G' vs' acc ∧ ok κ' ∧ lcRk ok g wt we (wipeR ρ vs) P (xs.drop i) acc κ'
  -- a step keeps the list at D as it is
  have keep : ∀ {Ga Ha Asa Gb Hb Asb} {vs' : List V}, Step Ga Ha Asa Gb Hb Asb → Ga D = none → D ∉ Asa → Ha D = some (.lst vs') → Gb D = none ∧ D ∉ Asb ∧ Hb D = some (.lst vs') := fun s g0 n0 h0 => by
    refine ⟨?_, fun hm => ?_, s.fr D _ n0 h0⟩
    · rcases s.gn D g0 with z | z | z
      · exact z
      · rw [h0] at z; cases z
      · exact absurd z n0
    · rcases s.new D hm with z | z
      · exact n0 z
      · rw [h0] at z; cases z
  -- a turn's end: the item goes onto the list
  have grow : ∀ {G' H' As' κ' acc vs' v y i}, Step G1 H1 As1 G' H' As' → Cells X.K G' H' As' κ' → G' D = none → D ∉ As' → H' D = some (.lst vs') → RpA X.K G' vs' acc → Rp X.K G' v y → ok κ' → lcRk ok g wt we (wipeR ρ vs) P (xs.drop i) (acc ++ [y]) κ' → W i (upd H' D (.lst (vs' ++ [v]))) := fun {G' H' As' κ' acc vs' v y i} s c g0 n0 h0 rp rv o f => by
    refine ⟨G', As', κ', acc ++ [y], vs' ++ [v], ⟨s.ex, s.pre, s.new, fun b u hb e => ?_, fun b e => ?_, s.gn⟩, ⟨c.ext.mut g0, c.len, c.nd, fun a ha => ?_, fun j x a e1 e2 => ?_⟩, g0, n0, upd_same, rp.app (.cons rv .nil), o, f⟩
    · by_cases q : b = D
      · subst q; rw [hD] at e; cases e
      · rw [upd_ne q]; exact s.fr b u hb e
    · by_cases q : b = D
      · subst q; rw [upd_same] at e; cases e
      · rw [upd_ne q] at e; exact s.dom b e
    · by_cases q : a = D
      · subst q; exact ⟨_, upd_same⟩
      · rw [upd_ne q]; exact c.al a ha
    · have z := c.ok j x a e1 e2
      cases x with
      | l ds =>
        obtain ⟨z1, ws, z2, z3⟩ := z
        have ne : a ≠ D := fun q => n0 (by rw [← q]; exact List.mem_of_getElem? e2)
        exact ⟨z1, ws, by rw [upd_ne ne]; exact z2, z3⟩
      | m ds =>
        obtain ⟨z1, ws, z2, z3⟩ := z
        have ne : a ≠ D := fun q => n0 (by rw [← q]; exact List.mem_of_getElem? e2)
        exact ⟨z1, ws, by rw [upd_ne ne]; exact z2, z3⟩
      | z x => exact z
      | k es => exact z
      | x u =>
        obtain ⟨z1, z2⟩ := z
        have ne : a ≠ D := fun q => n0 (by rw [← q]; exact List.mem_of_getElem? e2)
        exact ⟨z1, by rw [upd_ne ne]; exact z2⟩
  refine ⟨fun i m H' => i + m = xs.length ∧ W i H', ⟨xs.length, by omega, G1, As1, κ1, [], [], Step.fresh hD, c1.fresh hD, gD1, nD1, upd_same, .nil, o1, w1⟩, fun i m H' hW => ?_⟩
  obtain ⟨em, G', As', κ', acc, vs', s', c', g', n', h', rp, o', f⟩ := hW
  obtain ⟨wgo, wst, wyl⟩ := wk G' H' As' κ' s'.ex s'.pre c' o'
  cases m with
  | zero =>
    have ei : i = xs.length := by omega
    subst ei
    rw [List.drop_length] at f
    have st := s1.trans s'
    exact .inl ⟨wst, k _ (.f acc) G' H' As' κ' st c' (p.step st) ⟨D, vs', rfl, s1.dom D hD, g', n', h', rp⟩ f⟩
  | succ m =>
    have hi' : i < xs.length := by omega
    rw [List.drop_eq_getElem_cons hi'] at f
    refine .inr ⟨wgo i hi', W (i + 1), fun H2 q => ⟨m, by omega, by omega, q⟩, fun v H2 hy => ?_⟩
    obtain ⟨G2, s2, c2, r2⟩ := wyl i v H2 _ hy (List.getElem?_eq_getElem hi')
    obtain ⟨g2, n2, h2⟩ := keep s2 g' n' h'
    refine hg G2 H2 As' (wipe σ vs) (wipeR ρ vs) κ' v xs[i] _ _ c2 ((p.step ((s1.trans s').trans s2)).wipe vs) r2 f fun σ3 ρ3 G3 H3 As3 κ3 a3 s3 c3 p3 w3 => ⟨?_, ?_⟩
    · have hw : wipe (wipe σ vs) vs = wipe σ vs := by
        refine List.ext_getElem? fun j => ?_
        by_cases hj : j ∈ vs
        · rw [wipe_in hj, wipe_in hj, wipe_length]
        · rw [wipe_out hj]
      rw [← hw]
      have q := a3.wipe hj
      rw [q]
    · obtain ⟨g3, n3, h3⟩ := keep s3 g2 n2 h2
      refine ht G3 H3 As3 σ3 ρ3 κ3 _ _ c3 p3 w3 fun z G4 H4 As4 κ4 s4 c4 p4 w4 => ?_
      obtain ⟨g4, n4, h4⟩ := keep s4 g3 n3 h3
      have st4 : Step G1 H1 As1 G4 H4 As4 := ((s'.trans s2).trans s3).trans s4
      cases z with
      | false =>
        rw [if_neg (by decide)] at w4 ⊢
        exact ⟨G4, As4, κ4, acc, vs', st4, c4, g4, n4, h4, RpA.mono (((s2.trans s3).trans s4)).ex _ _ rp, w4.1, w4.2⟩
      | true =>
        rw [if_pos rfl] at w4 ⊢
        refine he G4 H4 As4 σ3 ρ3 κ4 _ _ c4 p4 w4 fun v5 r5 G5 H5 As5 κ5 s5 c5 p5 i5 w5 => ?_
        obtain ⟨G5', s5', c5', p5', i5', _⟩ := settle s5 c5 p5 i5
        obtain ⟨⟨y, κ6⟩, e6, hl, o6, w6⟩ := w5.ex
        obtain ⟨G6, s6, c6, r6⟩ := dat_ok c5' i5' e6
        have st6 := s5'.trans s6
        obtain ⟨g6, n6, h6⟩ := keep st6 g4 n4 h4
        have rp6 := RpA.mono ((((s2.trans s3).trans s4)).trans st6).ex _ _ rp
        refine ⟨vs', h6, by rw [rp6.len]; exact hl, ?_⟩
        exact grow (st4.trans st6) c6 g6 n6 h6 rp6 r6 o6 w6

theorem walk_vals {K : PySem.W.Frag} {G : Hp} {As : List Addr} {a : Addr} {o : Obj} {kvs : List (Key × V)} {es : List (Key × R)} {k : Nat} (ha : As[k]? = some a) (mp : Mp K G As kvs es) : WalkRk K G As (Itd a o kvs) (es.map (·.2)) fun κ' => κ'[k]? = some (.x (.frz o (.dK kvs))) := by
  intro G' H' As' κ' e p c ok
  have hl := Paired.length mp
  obtain ⟨bs, eb⟩ := p
  have ha' : As'[k]? = some a := by rw [eb, List.getElem?_append_left (List.getElem?_eq_some_iff.mp ha).1]; exact ha
  have h1 : H' a = some (.frz o (.dK kvs)) := (c.ok k _ a ok ha').2
  refine ⟨fun i hi => ⟨h1, by rw [List.length_map] at hi; omega⟩, ⟨h1, by rw [List.length_map]; omega⟩, fun i v H'' x y hx => ?_⟩
  obtain ⟨rfl, kk, hk⟩ := y
  obtain ⟨z, e1, e2, e3⟩ := prd_get (Mp.mono e ⟨bs, eb⟩ mp) hk
  rw [List.getElem?_map, e1] at hx
  cases hx
  exact ⟨G', Step.refl, c, e3⟩
/-- [elt for tg in d.values() if ..], d at place i -/
def wLcV (i : Nat) (g : DTG) (t : DTT) (e : DTE) (vs : List Nat) : DTE := fun ρ κ P => match ρ[i]? with
  | some (some (.c k)) => match κ[k]? with
    | some (.m es) => ∀ u : HO, lcRk (fun κ' => κ'[k]? = some (.x u)) g t e (wipeR ρ vs) (fun r κ' => κ'[k]? = some (.x u) ∧ P r (κ'.set k (.m es))) (es.map (·.2)) [] (κ.set k (.x u))
    | _ => False
  | _ => False
theorem de_lcV (i : Nat) {x : Str} {xpos apos cpos : Pos} (hc : X.calm = true) (hN : X.N.Nodup) (ok : BlkOk X.N X.env.scope scope own) (hg : ∀ i : BI, DG (i.cx X scope) tg js g) (ht : ∀ i : BI, DTs (i.cx X scope) ifs wt) (he : ∀ i : BI, DE (i.cx X scope) elt we)
    (hNi : X.N[i]? = some x := by rfl) (hv : Vis X.env.scope x := by first | exact Or.inl rfl | exact Or.inr (Or.inl rfl) | exact Or.inr (Or.inr rfl)) (hd : (x == ("__debug__" : Str)) = false := by decide) (hcd : (x == ("__classdict__" : Str)) = false := by decide)
    (hbase : attributeBase (.Name x xpos) "values" X.env (eval (.Name x xpos) X.env) = eval (.Name x xpos) X.env := by rfl) (hline : (apos.endLine == cpos.line) = true := by rfl)
    (hj : ∀ j, j ∈ js → j ∈ own.map (·.2) := by decide) (hs : ∀ y, foldedSetIterable (.Call (.Attribute (.Name x xpos) "values" apos) [] [] cpos) X.env y = pure y := by intro _; rfl) :
    DE X (.ListComp elt [⟨tg, .Call (.Attribute (.Name x xpos) "values" apos) [] [] cpos, ifs, 0⟩] scope pos) (wLcV i g wt we (own.map (·.2))) := by
  obtain ⟨gg, pg, hg⟩ := uni_G hg
  obtain ⟨tt, pt, ht⟩ := uni_T ht
  obtain ⟨te, pe, he⟩ := uni_E he
  refine ⟨_, pe_lock (pe_lc hc hN (pi_values (pe_var hNi hv hd hcd) hbase hline) ok (fun s H C cl fp => pg ⟨s, H, C, cl, fp⟩) (fun s H C cl fp => pt ⟨s, H, C, cl, fp⟩) (fun s H C cl fp => pe ⟨s, H, C, cl, fp⟩) hs), fun G H As σ ρ κ P Q c p w kk => ?_⟩
  unfold wLcV at w
  split at w
  · rename_i k hr
    split at w
    · rename_i es hk
      obtain ⟨v0, hv0, a, ha, rfl⟩ := p.ok i _ hr
      obtain ⟨g0, kvs, hq, mp⟩ := c.ok k _ a hk ha
      have hm : a ∈ As := List.mem_of_getElem? ha
      refine ⟨a, .dK kvs, hq, trivial, fun od => ?_⟩
      have w := w (.frz od (.dK kvs))
      have c1 : Cells X.K G (upd H a (.frz od (.dK kvs))) As (κ.set k (.x (.frz od (.dK kvs)))) := c.put hk ha g0 ⟨g0, upd_same⟩
      have s1 : Step G H As G (upd H a (.frz od (.dK kvs))) As := Step.write hm hq
      have w' : wLcRk (fun _ κ1 P1 => P1 (es.map fun e => e.2) (fun κ' => κ'[k]? = some (.x (.frz od (.dK kvs)))) κ1) g wt we (own.map (·.2)) ρ (κ.set k (.x (.frz od (.dK kvs)))) (fun r κ' => κ'[k]? = some (.x (.frz od (.dK kvs))) ∧ P r (κ'.set k (.m es))) := w
      refine lcRk_reads hj hg ht he G _ As σ ρ _ _ _ c1 p w' (fun P1 R1 w1 k1 => ⟨_, hv0, a, od, kvs, rfl, upd_same, k1 _ _ _ G _ As _ Step.refl c1 p (walk_vals ha mp) (by rw [List.getElem?_set_self (List.getElem?_eq_some_iff.mp hk).1]) w1⟩) fun v r G' H' As' κ' s' c' p' i' w2 => ?_
      obtain ⟨hu, w3⟩ := w2
      obtain ⟨bs, eb⟩ := s'.pre
      have ha' : As'[k]? = some a := by rw [eb, List.getElem?_append_left (List.getElem?_eq_some_iff.mp ha).1]; exact ha
      obtain ⟨g1, h1⟩ := c'.ok k _ a hu ha'
      have hm' : a ∈ As' := List.mem_of_getElem? ha'
      have c2 : Cells X.K G' (upd H' a (.dK kvs)) As' (κ'.set k (.m es)) := c'.put hu ha' g1 ⟨g1, kvs, upd_same, Mp.mono s'.ex s'.pre mp⟩
      have st : Step G H As G' (upd H' a (.dK kvs)) As' := (s1.trans s').trans (Step.write hm' h1)
      refine ⟨h1, kk v r G' _ As' _ st c2 p' ?_ w3⟩
      cases r with
      | f xs =>
        obtain ⟨q, vs, e, h0, g0', n0, hq', rp⟩ := i'
        have ne : q ≠ a := fun z => n0 (by rw [z]; exact hm')
        rw [upd_ne ne] at h0
        exact ⟨q, vs, e, h0, g0', n0, by rw [upd_ne ne]; exact hq', rp⟩
      | d x => exact i'
      | c j => exact i'
      | s ns => exact i'
      | b ks => exact i'
      | h es => exact i'
      | o u => exact i'
    · exact w.elim
  · exact w.elim
theorem ds_setLcV (m : Bool) (i0 : Nat) (i : Nat) {y x : Str} {py spos xpos apos cpos : Pos} (hc : X.calm = true) (hN : X.N.Nodup) (hsw : swapsWith (.ListComp elt [⟨tg, .Call (.Attribute (.Name x xpos) "values" apos) [] [] cpos, ifs, 0⟩] scope pos) (some (.Name y py)) spos.line X.env = pure true) (ok : BlkOk X.N X.env.scope scope own) (hg : ∀ i : BI, DG (i.cx X scope) tg js g) (ht : ∀ i : BI, DTs (i.cx X scope) ifs wt) (he : ∀ i : BI, DE (i.cx X scope) elt we)
    (hy : X.N[i0]? = some y := by rfl) (hyl : X.env.scope.names.lookup y = some .local := by rfl)
    (hNi : X.N[i]? = some x := by rfl) (hv : Vis X.env.scope x := by first | exact Or.inl rfl | exact Or.inr (Or.inl rfl) | exact Or.inr (Or.inr rfl)) (hd : (x == ("__debug__" : Str)) = false := by decide) (hcd : (x == ("__classdict__" : Str)) = false := by decide)
    (hbase : attributeBase (.Name x xpos) "values" X.env (eval (.Name x xpos) X.env) = eval (.Name x xpos) X.env := by rfl) (hline : (apos.endLine == cpos.line) = true := by rfl)
    (hj : ∀ j, j ∈ js → j ∈ own.map (·.2) := by decide) (hs : ∀ y, foldedSetIterable (.Call (.Attribute (.Name x xpos) "values" apos) [] [] cpos) X.env y = pure y := by intro _; rfl) :
    DS X (.Assign [.Name y py] (.ListComp elt [⟨tg, .Call (.Attribute (.Name x xpos) "values" apos) [] [] cpos, ifs, 0⟩] scope pos) spos) (wSet m i0 (wLcV i g wt we (own.map (·.2)))) := by
  obtain ⟨gg, pg, hg⟩ := uni_G hg
  obtain ⟨tt, pt, ht⟩ := uni_T ht
  obtain ⟨te, pe, he⟩ := uni_E he
  refine ⟨_, ps_lock (ps_setLc hc hN hy hyl hsw (pi_values (pe_var hNi hv hd hcd) hbase hline) ok (fun s H C cl fp => pg ⟨s, H, C, cl, fp⟩) (fun s H C cl fp => pt ⟨s, H, C, cl, fp⟩) (fun s H C cl fp => pe ⟨s, H, C, cl, fp⟩) hs), fun G H As σ ρ κ E D c p w r => ?_⟩
  unfold wSet wLcV at w
  split at w
  · rename_i k hr
    split at w
    · rename_i es hk
      obtain ⟨v0, hv0, a, ha, rfl⟩ := p.ok i _ hr
      obtain ⟨g0, kvs, hq, mp⟩ := c.ok k _ a hk ha
      have hm : a ∈ As := List.mem_of_getElem? ha
      refine ⟨a, .dK kvs, hq, trivial, fun od => ?_⟩
      have w := w (.frz od (.dK kvs))
      have c1 : Cells X.K G (upd H a (.frz od (.dK kvs))) As (κ.set k (.x (.frz od (.dK kvs)))) := c.put hk ha g0 ⟨g0, upd_same⟩
      have s1 : Step G H As G (upd H a (.frz od (.dK kvs))) As := Step.write hm hq
      have w' : wLcRk (fun _ κ1 P1 => P1 (es.map fun e => e.2) (fun κ' => κ'[k]? = some (.x (.frz od (.dK kvs)))) κ1) g wt we (own.map (·.2)) ρ (κ.set k (.x (.frz od (.dK kvs)))) (fun r κ' => κ'[k]? = some (.x (.frz od (.dK kvs))) ∧ E.nx (ρ.set i0 (some (sto m r (κ'.set k (.m es))).1)) (sto m r (κ'.set k (.m es))).2) := w
      refine lcRk_reads hj hg ht he G _ As σ ρ _ _ _ c1 p w' (fun P1 R1 w1 k1 => ⟨_, hv0, a, od, kvs, rfl, upd_same, k1 _ _ _ G _ As _ Step.refl c1 p (walk_vals ha mp) (by rw [List.getElem?_set_self (List.getElem?_eq_some_iff.mp hk).1]) w1⟩) fun v q G' H' As' κ' s' c' p' i' w2 => ?_
      obtain ⟨hu, w3⟩ := w2
      obtain ⟨bs, eb⟩ := s'.pre
      have ha' : As'[k]? = some a := by rw [eb, List.getElem?_append_left (List.getElem?_eq_some_iff.mp ha).1]; exact ha
      obtain ⟨g1, h1⟩ := c'.ok k _ a hu ha'
      have hm' : a ∈ As' := List.mem_of_getElem? ha'
      have c2 : Cells X.K G' (upd H' a (.dK kvs)) As' (κ'.set k (.m es)) := c'.put hu ha' g1 ⟨g1, kvs, upd_same, Mp.mono s'.ex s'.pre mp⟩
      have st : Step G H As G' (upd H' a (.dK kvs)) As' := (s1.trans s').trans (Step.write hm' h1)
      have iv : Rv X.K H G' (upd H' a (.dK kvs)) As' v q := by
        cases q with
        | f xs =>
          obtain ⟨q, vs, e, h0, g0', n0, hq', rp⟩ := i'
          have ne : q ≠ a := fun z => n0 (by rw [z]; exact hm')
          rw [upd_ne ne] at h0
          exact ⟨q, vs, e, h0, g0', n0, by rw [upd_ne ne]; exact hq', rp⟩
        | d x => exact i'
        | c j => exact i'
        | s ns => exact i'
        | b ks => exact i'
        | h es => exact i'
        | o u => exact i'
      obtain ⟨G3, As3, s3, c3, i3, e1, e2⟩ := sto_ok m st c2 iv
      exact ⟨h1, r.nx _ _ G3 _ As3 _ s3 c3 ((p'.mono e1 e2).put i0 i3) w3⟩
    · exact w.elim
  · exact w.elim
end
end DL
/-! SHw: the law's own first order. -/
namespace SH
open PySem PySem.Spec PyProof.Rows L2 DL
/-- the first of the hooks that stand twice among the heads -/
theorem min_turn {row : Row} {ls : Lines} {K : KR} {x : Hook} {xs : Row} {ρ : Rho} {κ : Kap} {P : R → Kap → Prop} {D : PyData} {hv av : Nat} (hD : RowD D row) (L : LnOk row ls) (s : KSt row K) (hne : RowNe row) (hx : selF row K (keysL ls) = x :: xs)
    (h0 : ρ[0]? = some (some (.d D))) (h1 : ρ[hv]? = some (some (.d (.list (natsD (headsF K (keysL ls))))))) (n0 : av ≠ 0) (n1 : av ≠ hv) (n2 : av < ρ.length) (k : P (.d (hookD (minH x xs))) κ) :
    wCB (bestC PySem.W.minD) (wCons (wLc (wSq (wVar hv)) (wName av) (wB (wBin (eqD false) (wBM "list" cntD (wVar hv) (wCons (wVar av) wNil)) (wC (.int 2)))) (wBin ixD (wVar 0) (wVar av)) [av]) wNil) ρ κ P := by
  simp only [s_cb, s_cons, s_lc, s_sq, s_var, h1, val_d, st_d, Opt_some]
  have hlen : (headsF K (keysL ls)).length ≤ 2000000 := by
    have h1 := List.length_filterMap_le (fun r => (posOf r K).head?) (keysL ls)
    have h2 := L.len
    have h3 : (keysL ls).length = ls.length := List.length_map ..
    unfold headsF
    omega
  have e0 : natsD (headsF K (keysL ls)) = (headsF K (keysL ls)).map fun (i : Nat) => PyData.int (i : Int) := rfl
  rw [e0]
  refine lc_filter (fun (i : Nat) => PyData.int (i : Int)) (fun p => decide ((headsF K (keysL ls)).count p = 2)) (fun p => hookD (row.getD p ("", "", 0))) trivial (headsF K (keysL ls)) [] ?_ (fun p hp C hC => ?_) ?_
  · rw [List.length_nil, sizeLine_eq]; omega
  · obtain ⟨h, hh, hg, hiff⟩ := heads_count s hne L.nd L.all hp
    have g0 : ∀ r, ((wipeR ρ [av]).set av r)[0]? = some (some (.d D)) := fun r => by
      rw [wipeR_cons, wipeR_nil, List.getElem?_set_ne n0, List.getElem?_set_ne n0]; exact h0
    have g1 : ∀ r, ((wipeR ρ [av]).set av r)[hv]? = some (some (.d (.list (natsD (headsF K (keysL ls)))))) := fun r => by
      rw [wipeR_cons, wipeR_nil, List.getElem?_set_ne n1, List.getElem?_set_ne n1]; exact h1
    have g2 : ∀ r : Option R, ((wipeR ρ [av]).set av r)[av]? = some r := fun r => by
      rw [wipeR_cons, wipeR_nil, List.getElem?_set_self (by rw [List.length_set]; exact n2)]
    have ec : cntD (.list (natsD (headsF K (keysL ls)))) [.int (p : Int)] = some (.v (.int ((headsF K (keysL ls)).count p : Nat))) := by
      unfold cntD
      simp only [intsOf_nats, Option.map_some, count_cast]
    have cnt2 : decide ((((headsF K (keysL ls)).count p : Nat) : Int) = 2) = decide ((headsF K (keysL ls)).count p = 2) := by
      by_cases q : (headsF K (keysL ls)).count p = 2
      · simp [q]
      · have : ¬ ((((headsF K (keysL ls)).count p : Nat) : Int) = 2) := by omega
        simp [q, this]
    have ix : ixD D (.int (p : Int)) = some (.v (hookD (row.getD p ("", "", 0)))) := by
      have e : (row.map hookD)[p]? = some (hookD (row.getD p ("", "", 0))) := by
        rw [List.getElem?_map, hg, List.getD_eq_getElem?_getD, hg]
        rfl
      rcases hD with rfl | rfl
      · exact ixD_list (atI_nat e)
      · exact ixD_tuple (atI_nat e)
    have g0 := g0 (some (.d (.int (p : Int))))
    have g1 := g1 (some (.d (.int (p : Int))))
    have g2 := g2 (some (.d (.int (p : Int))))
    rw [s_name]
    generalize (wipeR ρ [av]).set av (some (.d (.int (p : Int)))) = ρ1 at g0 g1 g2 ⊢
    simp only [s_B, s_bin, s_bm, s_cons, s_nil, s_var, s_c, g1, g2, st_d, vals_cons, vals_nil, val_d, Opt_some, ec, out_v, eqD_int3]
    rw [cnt2]
    refine ⟨rfl, hC _ fun _ Q hQ => ?_⟩
    simp only [s_bin, s_var, g0, g2, st_d, val_d, Opt_some, ix, out_v]
    exact hQ
  · have em : (((headsF K (keysL ls)).filter fun p => decide ((headsF K (keysL ls)).count p = 2)).map fun p => hookD (row.getD p ("", "", 0))) = (x :: xs).map hookD := by
      rw [← hx]
      unfold selF
      rw [List.map_map]
      rfl
    rw [em]
    have eb : bestC PySem.W.minD [.list ((x :: xs).map hookD)] = some (.v (hookD (minH x xs))) := by
      unfold bestC
      have := best_row (x :: xs)
      rw [List.map_cons] at this ⊢
      simp only [if_pos this]
      rw [minD_hook]
    simp only [List.nil_append, s_nil, st_f, vals_cons, vals_nil, val_d, Opt_some, eb, out_v]
    exact k
/-! ### lines that live, behind other cells -/
def kapM (ls : Lines) (mid : Kap) : Kap := Cell.m (stOf (1 + mid.length) ls) :: (mid ++ cellsOf ls)
theorem kapM_get {ls : Lines} {mid : Kap} {j : Nat} {e : Str × List Nat} (h : ls[j]? = some e) : (kapM ls mid)[1 + mid.length + j]? = some (.l (natsD e.2)) := by
  rw [show 1 + mid.length + j = (mid.length + j) + 1 by omega]
  show (mid ++ cellsOf ls)[mid.length + j]? = _
  rw [List.getElem?_append_right (by omega), Nat.add_sub_cancel_left]
  unfold cellsOf
  rw [List.getElem?_map, h]
  rfl
theorem kapM_set {ls : Lines} {mid : Kap} {j : Nat} {r : Str} {l l' : List Nat} (h : ls[j]? = some (r, l)) : (kapM ls mid).set (1 + mid.length + j) (.l (natsD l')) = kapM (ls.set j (r, l')) mid := by
  unfold kapM
  rw [show 1 + mid.length + j = (mid.length + j) + 1 by omega, List.set_cons_succ, st_set _ _ _ _ _ _ h, List.set_append_right _ _ (by omega), Nat.add_sub_cancel_left]
  unfold cellsOf
  rw [List.map_set]
theorem st_len : ∀ (ls : Lines) (k : Nat), (stOf k ls).length = ls.length
  | [], _ => rfl
  | _ :: es, k => congrArg (· + 1) (st_len es (k + 1))
theorem idxL_get : ∀ {ls : Lines} {r : Str} {j : Nat}, idxL ls r = some j → ∃ l, ls[j]? = some (r, l) ∧ lineOf ls r = l
  | e :: es, r, j, h => by
    unfold idxL at h
    unfold lineOf
    by_cases q : e.1 = r
    · rw [if_pos q] at h ⊢
      cases h
      exact ⟨e.2, by rw [← q]; rfl, rfl⟩
    · rw [if_neg q] at h ⊢
      cases q2 : idxL es r with
      | none => rw [q2] at h; cases h
      | some m =>
        rw [q2] at h
        cases h
        obtain ⟨l, h1, h2⟩ := idxL_get q2
        exact ⟨l, by simpa using h1, h2⟩
theorem idxL_mem : ∀ {ls : Lines} {r : Str}, r ∈ keysL ls → ∃ j, idxL ls r = some j
  | e :: es, r, h => by
    unfold idxL
    by_cases q : e.1 = r
    · rw [if_pos q]; exact ⟨0, rfl⟩
    · rw [if_neg q]
      rcases List.mem_cons.mp h with h | h
      · exact absurd h.symm q
      · obtain ⟨j, e⟩ := idxL_mem (ls := es) h
        rw [e]
        exact ⟨j + 1, rfl⟩
/-- lines.setdefault(r, []).append(i) -/
theorem setd_app {n i v : Nat} {ls : Lines} {mid : Kap} {r : Str} {ρ : Rho} {E : DEnds} (h : LOk n ls) (hn : n < 4000000) (h1 : ρ[1]? = some (some (.c 0))) (h3 : ρ[3]? = some (some (.d (.int (i : Int))))) (hv : ρ[v]? = some (some (.d (.str r)))) (k : E.nx ρ (kapM (addL ls r i) mid)) :
    wDrop (wAppend (wSetd (wVar 1) (wVar v)) (wVar 3)) E ρ (kapM ls mid) := by
  rw [s_drop]
  unfold wAppend wSetd
  have h0 : (kapM ls mid)[0]? = some (.m (stOf (1 + mid.length) ls)) := rfl
  simp only [s_var, h1, hv, h0]
  refine ⟨⟨_, rfl⟩, ?_⟩
  simp only [h0, keyD, Opt_some]
  refine ⟨by rw [st_len, sizeLine_eq]; have := h.ln; omega, ?_⟩
  rw [look_st]
  cases q : idxL ls r with
  | none =>
    simp only [Option.map_none]
    have e0 : (kapM ls mid).length = 1 + mid.length + ls.length := by
      show (mid ++ cellsOf ls).length + 1 = _
      rw [List.length_append, cells_len]
      omega
    have e1 : (kapM ls mid ++ [Cell.l []]).set 0 (Cell.m (stOf (1 + mid.length) ls ++ [(Sum.inr r, R.c (kapM ls mid).length)])) = kapM (ls ++ [(r, [])]) mid := by
      unfold kapM at e0 ⊢
      rw [e0, st_snoc]
      show _ :: _ = _
      unfold cellsOf
      rw [List.map_append, ← List.append_assoc]
      rfl
    rw [e1, e0]
    have hj : (ls ++ [(r, ([] : List Nat))])[ls.length]? = some (r, []) := by rw [List.getElem?_append_right (Nat.le_refl _), Nat.sub_self]; rfl
    have g := kapM_get (mid := mid) hj
    refine ⟨⟨_, g⟩, ?_⟩
    simp only [s_var, h3, st_d, dat_d, Opt_some, g]
    refine ⟨by rw [sizeLine_eq]; decide, ?_⟩
    have e3 : natsD ([] : List Nat) ++ [.int (i : Int)] = natsD [i] := rfl
    rw [e3, kapM_set hj]
    have e4 : (ls ++ [(r, ([] : List Nat))]).set ls.length (r, [i]) = addL ls r i := by
      rw [addL_new q, List.set_append_right _ _ (Nat.le_refl _), Nat.sub_self]
      rfl
    rw [e4]
    exact k
  | some j =>
    simp only [Option.map_some]
    obtain ⟨l, a1, a2⟩ := addL_old (i := i) q
    have g := kapM_get (mid := mid) a1
    refine ⟨⟨_, g⟩, ?_⟩
    simp only [s_var, h3, st_d, dat_d, Opt_some, g]
    have hl : l.length ≤ n := h.each _ (List.mem_of_getElem? a1)
    refine ⟨by rw [natsD_len, sizeLine_eq]; omega, ?_⟩
    rw [natsD_snoc, kapM_set a1, ← a2]
    exact k
/-! ### lines by a function -/
def linesF (ks : List Str) (f : Str → List Nat) : Lines := ks.map fun r => (r, f r)
theorem linesF_keys (ks : List Str) (f : Str → List Nat) : keysL (linesF ks f) = ks := by
  unfold keysL linesF
  rw [List.map_map]
  exact List.map_id _
theorem linesF_self {ls : Lines} {f : Str → List Nat} (h : ∀ e ∈ ls, e.2 = f e.1) : linesF (keysL ls) f = ls := by
  unfold linesF keysL
  rw [List.map_map]
  refine (List.map_congr_left fun e he => ?_).trans (List.map_id _)
  show (e.1, f e.1) = e
  rw [← h e he]
theorem linesF_set {f : Str → List Nat} {r : Str} {l : List Nat} : ∀ {ks : List Str} {j : Nat}, ks.Nodup → idxL (linesF ks f) r = some j → (linesF ks f)[j]? = some (r, f r) ∧ (linesF ks f).set j (r, l) = linesF ks fun s => if s = r then l else f s
  | [], j, _, h => by cases h
  | k :: ks, j, nd, h => by
    rw [List.nodup_cons] at nd
    have e0 : linesF (k :: ks) f = (k, f k) :: linesF ks f := rfl
    rw [e0] at h ⊢
    unfold idxL at h
    by_cases q : k = r
    · subst q
      rw [if_pos rfl] at h
      cases h
      refine ⟨rfl, ?_⟩
      show (k, l) :: linesF ks f = (k, if k = k then l else f k) :: linesF ks _
      rw [if_pos rfl]
      congr 1
      unfold linesF
      refine List.map_congr_left fun s hs => ?_
      have ne : ¬ s = k := fun z => nd.1 (z ▸ hs)
      simp only [if_neg ne]
    · rw [if_neg q] at h
      cases q2 : idxL (linesF ks f) r with
      | none => rw [q2] at h; cases h
      | some m =>
        rw [q2] at h
        cases h
        obtain ⟨h1, h2⟩ := linesF_set (l := l) nd.2 q2
        refine ⟨by simpa using h1, ?_⟩
        show (k, f k) :: (linesF ks f).set m (r, l) = (k, if k = r then l else f k) :: linesF ks _
        rw [h2, if_neg q]
/-- lines[r].pop(0) -/
theorem pop_line {ks : List Str} {f : Str → List Nat} {mid : Kap} {r : Str} {x v : Nat} {t : List Nat} {ρ : Rho} {E : DEnds} (nd : ks.Nodup) (hr : r ∈ ks) (h1 : ρ[1]? = some (some (.c 0))) (hv : ρ[v]? = some (some (.d (.str r)))) (hf : f r = x :: t)
    (k : E.nx ρ (kapM (linesF ks fun s => if s = r then t else f s) mid)) : wDrop (wPop1 (wGetD (wVar 1) (wVar v)) (wC (.int 0))) E ρ (kapM (linesF ks f) mid) := by
  obtain ⟨j, hj⟩ := idxL_mem (ls := linesF ks f) (r := r) (by rw [linesF_keys]; exact hr)
  obtain ⟨g1, g2⟩ := linesF_set (l := t) nd hj
  have g := kapM_get (mid := mid) g1
  have h0 : (kapM (linesF ks f) mid)[0]? = some (.m (stOf (1 + mid.length) (linesF ks f))) := rfl
  rw [s_drop]
  unfold wPop1 wGetD
  simp only [s_var, s_c, h1, hv, h0, keyD, Opt_some]
  rw [look_st, hj]
  simp only [Option.map_some, Opt_some, g]
  refine ⟨⟨_, rfl⟩, Int.le_refl _, by decide, ?_⟩
  have e0 : (natsD (f r))[(0 : Int).toNat]? = some (.int (x : Int)) := by rw [hf]; rfl
  have e1 : (natsD (f r)).eraseIdx (0 : Int).toNat = natsD t := by rw [hf]; rfl
  rw [e0, e1, kapM_set g1, g2]
  exact k
/-- the heads of all lines that aren't at their end -/
theorem heads_V {ok : Kap → Prop} {ls : Lines} {mid : Kap} {u : HO} {ρw : Rho} {P : R → Kap → Prop} {v : Nat} (hv : v < ρw.length) (hls : ls.length ≤ 4000000) (hok : ok ((kapM ls mid).set 0 (.x u))) : ∀ (suf pre : Lines) (acc : List Nat), ls = pre ++ suf → acc.length ≤ pre.length → P (.f (natsD (acc ++ suf.filterMap fun e => e.2.head?))) ((kapM ls mid).set 0 (.x u)) →
    lcRk ok (wName v) (wB (wBin (eqD true) (wVar v) (wLst wNil))) (wBin ixD (wVar v) (wC (.int 0))) ρw P ((stOf (1 + mid.length + pre.length) suf).map (·.2)) (natsD acc) ((kapM ls mid).set 0 (.x u))
  | [], pre, acc, _, _, k => by
    show P (.f (natsD acc)) _
    simpa using k
  | e :: es, pre, acc, hl, ha, k => by
    have hj : ls[pre.length]? = some e := by rw [hl, List.getElem?_append_right (Nat.le_refl _), Nat.sub_self]; rfl
    have g := kapM_get (mid := mid) hj
    have hpl : pre.length < ls.length := (List.getElem?_eq_some_iff.mp hj).1
    have g' : ((kapM ls mid).set 0 (.x u))[1 + mid.length + pre.length]? = some (.l (natsD e.2)) := by rw [List.getElem?_set_ne (by omega)]; exact g
    have hx : (ρw.set v (some (R.c (1 + mid.length + pre.length))))[v]? = some (some (.c (1 + mid.length + pre.length))) := List.getElem?_set_self hv
    show lcRk ok _ _ _ ρw P (R.c (1 + mid.length + pre.length) :: (stOf (1 + mid.length + pre.length + 1) es).map (·.2)) (natsD acc) _
    rw [lcRk_cons]
    have ih := fun acc h1 h2 => heads_V (v := v) (P := P) hv hls hok es (pre ++ [e]) acc (by rw [hl, List.append_assoc]; rfl) h1 h2
    have epl : (pre ++ [e]).length = pre.length + 1 := by rw [List.length_append, List.length_singleton]
    rw [epl] at ih
    have ea : 1 + mid.length + pre.length + 1 = 1 + mid.length + (pre.length + 1) := by omega
    rw [ea]
    have em : [PyData.list []] = [PyData.list []] := rfl
    simp only [s_name, s_B, s_bin, s_var, hx, s_lst, s_nil, dats_nil, Opt_some, st_c, st_f, val_c g', val_d, eqD_nats0, out_v]
    refine ⟨Nat.zero_le _, ?_⟩
    cases he : e.2 with
    | nil =>
      simp only [List.isEmpty_nil, Bool.not_true, if_neg Bool.false_ne_true]
      refine ⟨hok, ih acc (by omega) ?_⟩
      rw [List.filterMap_cons, he] at k
      exact k
    | cons x xs =>
      rw [List.filterMap_cons, he] at k
      have ix : ixD (.list (natsD (x :: xs))) (.int 0) = some (.v (.int (x : Int))) := ixD_list (atI_nat (j := 0) rfl)
      rw [he] at g'
      simp only [List.isEmpty_cons, Bool.not_false, if_true, s_bin, s_var, hx, s_c, st_c, st_d, val_c g', val_d, Opt_some, ix, out_v, dat_d]
      refine ⟨by rw [natsD_len, sizeLine_eq]; omega, hok, ?_⟩
      rw [natsD_snoc]
      refine ih (acc ++ [x]) (by rw [List.length_append, List.length_singleton]; omega) ?_
      rw [List.append_assoc]
      exact k
/-! ### the text -/
def Ph_law_first (rs : List R) (P : R → Prop) : Prop := ∃ (row : Row) (D : PyData), RowD D row ∧ rs = [.d D] ∧ row.length ≤ 1000000 ∧ RowIn row ∧ P (.f ((firstF row).map hookD))
def wl_law_first : DTS := (wSeq (wDrop (wAppend (wSetd (wVar 1) (wVar 4)) (wVar 3)))
  (wDrop (wAppend (wSetd (wVar 1) (wVar 5)) (wVar 3))))
def wb_law_first : DTS := (wSeq (wSet false 8 (wLcV 1 (wName 11) (wB (wBin (eqD true) (wVar 11) (wLst wNil))) (wBin ixD (wVar 11) (wC (.int 0))) [11]))
  (wSeq (wSet false 9 (wCB (bestC PySem.W.minD) (wCons (wLc (wSq (wVar 8)) (wName 3) (wB (wBin (eqD false) (wBM "list" cntD (wVar 8) (wCons (wVar 3) wNil)) (wC (.int 2)))) (wBin ixD (wVar 0) (wVar 3)) [3]) wNil)))
  (wSeq (wFor (wSq (wSl (wVar 9) wNoP (wP (wC (.int 2))))) (wName 10) (wDrop (wPop1 (wGetD (wVar 1) (wVar 10)) (wC (.int 0)))))
  (wDrop (wAppend (wVar 2) (wVar 9))))))
/-- _law_first -/
def w_law_first : DTS := (wSeq (wPar 1 2 (wConsM false wDict0 (wConsM true (wLst wNil) wNil)))
  (wSeq (wFor (wEnum (wCons (wVar 0) wNil)) (wTupG 2 (wgCons (wName 3) (wgCons (wTupG 3 (wgCons (wName 4) (wgCons (wName 5) (wgCons (wName 6) wgNil)))) wgNil))) wl_law_first)
  (wSeq (wFor (wRng1 (wCons (wCB lenD (wCons (wVar 0) wNil)) wNil)) (wName 7) wb_law_first)
  (wRet (wVar 2)))))
theorem law_lines_loop {ok : Kap → Prop} {E : DEnds} {D : PyData} {mid : Kap} (hok : ∀ κ, ok κ) : ∀ (hs : Row) (i n : Nat) (ls : Lines) (p3 p4 p5 p6 : Option R), LOk n ls → n + 2 * hs.length < 4000000 →
    (∀ p3 p4 p5 p6, E.nx [some (.d D), some (.c 0), some (.c 1), p3, p4, p5, p6, none, none, none, none, none] (kapM (linesG ls i hs) mid)) →
    forL ok (wTupG 2 (wgCons (wName 3) (wgCons (wTupG 3 (wgCons (wName 4) (wgCons (wName 5) (wgCons (wName 6) wgNil)))) wgNil))) wl_law_first E (enumD i (hs.map hookD)) [some (.d D), some (.c 0), some (.c 1), p3, p4, p5, p6, none, none, none, none, none] (kapM ls mid)
  | [], i, n, ls, p3, p4, p5, p6, _, _, k => k p3 p4 p5 p6
  | h :: hs, i, n, ls, p3, p4, p5, p6, hl, hn, k => by
    show forL _ _ _ _ (.tuple [.int i, hookD h] :: enumD (i + 1) (hs.map hookD)) _ _
    rw [forL_cons, s_tupG]
    refine ⟨rfl, ?_⟩
    rw [List.length_cons] at hn
    simp [hookD]
    unfold wl_law_first
    rw [s_seq]
    refine setd_app (v := 4) hl (by omega) rfl rfl rfl ?_
    dsimp only
    refine setd_app (v := 5) hl.add (by omega) rfl rfl rfl ?_
    refine ⟨hok _, ?_⟩
    exact law_lines_loop hok hs (i + 1) (n + 2) _ _ _ _ _ hl.add.add (by omega) k
theorem headsF_lines (K : KR) (ks : List Str) : (linesF ks fun r => posOf r K).filterMap (fun e => e.2.head?) = headsF K ks := by
  unfold linesF headsF
  rw [List.filterMap_map]
  rfl
theorem law_first_body {E : DEnds} {row : Row} {ls : Lines} {K : KR} {fd : Row} {D : PyData} {p : Nat} {x : Hook} {xs : Row} {p3 p4 p5 p6 p7 p8 p9 p10 : Option R} (hD : RowD D row) (L : LnOk row ls) (s : KSt row K) (hne : RowNe row) (hfd : fd.length ≤ 1000000) (hx : selF row K (keysL ls) = x :: xs) (hp : (p, minH x xs) ∈ avail K)
    (k : ∀ p8 p9 p10, E.nx [some (.d D), some (.c 0), some (.c 1), p3, p4, p5, p6, p7, p8, p9, p10, none] (kapM (linesF (keysL ls) fun r => posOf r (K.filter fun e => decide (e.1 ≠ p))) [.l ((fd ++ [minH x xs]).map hookD)])) :
    wb_law_first E [some (.d D), some (.c 0), some (.c 1), p3, p4, p5, p6, p7, p8, p9, p10, none] (kapM (linesF (keysL ls) fun r => posOf r K) [.l (fd.map hookD)]) := by
  have kl : (linesF (keysL ls) fun r => posOf r K).length ≤ 2000000 := by
    have h3 : (linesF (keysL ls) fun r => posOf r K).length = ls.length := by unfold linesF keysL; rw [List.length_map, List.length_map]
    have := L.len
    omega
  unfold wb_law_first
  rw [s_seq, s_set]
  unfold wLcV
  simp only [List.getElem?_cons_succ, List.getElem?_cons_zero]
  have h0 : (kapM (linesF (keysL ls) fun r => posOf r K) [.l (fd.map hookD)])[0]? = some (.m (stOf 2 (linesF (keysL ls) fun r => posOf r K))) := rfl
  simp only [h0]
  intro u
  have back : ((kapM (linesF (keysL ls) fun r => posOf r K) [.l (fd.map hookD)]).set 0 (.x u)).set 0 (.m (stOf 2 (linesF (keysL ls) fun r => posOf r K))) = kapM (linesF (keysL ls) fun r => posOf r K) [.l (fd.map hookD)] := by
    rw [List.set_set]
    rfl
  refine heads_V (ok := fun κ' => κ'[0]? = some (.x u)) (u := u) (v := 11) (ρw := wipeR [some (.d D), some (.c 0), some (.c 1), p3, p4, p5, p6, p7, p8, p9, p10, none] [11]) (mid := [.l (fd.map hookD)]) (ls := linesF (keysL ls) fun r => posOf r K) (by show 11 < 12; decide) (by omega) rfl (linesF (keysL ls) fun r => posOf r K) [] [] rfl (Nat.le_refl _) ?_
  refine ⟨rfl, ?_⟩
  rw [back, List.nil_append, headsF_lines]
  simp only [sto_f, st_f, List.set_cons_succ, List.set_cons_zero]
  rw [s_seq, s_set]
  refine min_turn (hv := 8) (av := 3) (ρ := [some (.d D), some (.c 0), some (.c 1), p3, p4, p5, p6, p7, some (.d (.list (natsD (headsF K (keysL ls))))), p9, p10, none]) hD L s hne hx rfl rfl (by decide) (by decide) (by show 3 < 12; decide) ?_
  simp only [sto_d, List.set_cons_succ, List.set_cons_zero]
  obtain ⟨s', po, hd, _⟩ := s.take hp
  generalize hm : minH x xs = m at *
  have hg := s.get (avail_mem.mp hp).1
  obtain ⟨i1, i2⟩ := L.all m (List.mem_of_getElem? hg)
  have ne := hne m (List.mem_of_getElem? hg)
  have e2 : cut [PyData.str m.1, PyData.str m.2.1, PyData.int m.2.2] none (some 2) = [.str m.1, .str m.2.1] := rfl
  have hc : ∀ r, touches r m = true → posOf r K = p :: (posOf r K).tail := fun r t => by
    have := hd r t
    cases q : posOf r K with
    | nil => rw [q] at this; cases this
    | cons y ys => rw [q] at this; cases this; rfl
  rw [s_seq]
  simp only [s_for, s_sq, s_sl, s_noP, s_P, s_c, s_var, List.getElem?_cons_succ, List.getElem?_cons_zero, st_d, val_d, Opt_some, hookD, slD_tuple, out_t, e2, forL_cons, forL_nil, s_name, List.set_cons_succ, List.set_cons_zero]
  refine pop_line (f := fun r => posOf r K) (v := 10) L.nd i1 rfl rfl (hc _ (touches_iff.mpr (.inl rfl))) ?_
  refine ⟨trivial, ?_⟩
  refine pop_line (f := fun s => if s = m.1 then (posOf m.1 K).tail else posOf s K) (v := 10) L.nd i2 rfl rfl (x := p) (t := (posOf m.2.1 K).tail) ?_ ?_
  · simp only [if_neg (fun z : m.2.1 = m.1 => ne z.symm)]
    exact hc _ (touches_iff.mpr (.inr rfl))
  · have ef : (linesF (keysL ls) fun s => if s = m.2.1 then (posOf m.2.1 K).tail else if s = m.1 then (posOf m.1 K).tail else posOf s K) = linesF (keysL ls) fun r => posOf r (K.filter fun e => decide (e.1 ≠ p)) := by
      congr 1
      funext r
      rw [po r]
      by_cases q2 : r = m.2.1
      · subst q2
        rw [if_pos rfl, if_pos (touches_iff.mpr (.inr rfl))]
      · rw [if_neg q2]
        by_cases q1 : r = m.1
        · subst q1
          rw [if_pos rfl, if_pos (touches_iff.mpr (.inl rfl))]
        · rw [if_neg q1, if_neg (fun z => (touches_iff.mp z).elim (fun z => q1 z.symm) fun z => q2 z.symm)]
    rw [ef]
    clear s' po ef
    generalize (linesF (keysL ls) fun r => posOf r (K.filter fun e => decide (e.1 ≠ p))) = ls' at k ⊢
    have g1 : ∀ l, (kapM l [.l (fd.map hookD)])[1]? = some (.l (fd.map hookD)) := fun l => rfl
    simp [g1]
    refine ⟨by rw [sizeLine_eq]; omega, ?_⟩
    have := k (some (.d (.list (natsD (headsF K (keysL ls)))))) (some (.d (hookD m))) (some (.d (.str m.2.1)))
    have e3 : ∀ l, (kapM l [.l (fd.map hookD)]).set 1 (.l (fd.map hookD ++ [hookD m])) = kapM l [.l ((fd ++ [m]).map hookD)] := fun l => by rw [List.map_append]; rfl
    have e4 : PyData.tuple [PyData.str m.1, PyData.str m.2.1, PyData.int m.2.2] = hookD m := rfl
    rw [e4, e3]
    exact this
theorem law_first_loop {ok : Kap → Prop} {E : DEnds} {row : Row} {ls : Lines} {D : PyData} (hok : ∀ κ, ok κ) (hD : RowD D row) (L : LnOk row ls) (hne : RowNe row) (hlen : row.length ≤ 1000000) : ∀ (n : Nat) (xs : List PyData) (K : KR) (fd : Row) (p3 p4 p5 p6 p7 p8 p9 p10 : Option R), xs.length = n → K.length = n → fd.length + n = row.length → KSt row K →
    (∀ p3 p4 p5 p6 p7 p8 p9 p10 l, E.nx [some (.d D), some (.c 0), some (.c 1), p3, p4, p5, p6, p7, p8, p9, p10, none] (kapM l [.l ((fd ++ firstG n K).map hookD)])) →
    forL ok (wName 7) wb_law_first E xs [some (.d D), some (.c 0), some (.c 1), p3, p4, p5, p6, p7, p8, p9, p10, none] (kapM (linesF (keysL ls) fun r => posOf r K) [.l (fd.map hookD)])
  | 0, xs, K, fd, p3, p4, p5, p6, p7, p8, p9, p10, hxs, hK, hl, s, k => by
    rw [List.length_eq_zero_iff.mp hxs, forL_nil]
    have := k p3 p4 p5 p6 p7 p8 p9 p10 (linesF (keysL ls) fun r => posOf r K)
    unfold firstG at this
    rw [List.append_nil] at this
    exact this
  | n + 1, [], K, fd, _, _, _, _, _, _, _, _, hxs, _, _, _, _ => by cases hxs
  | n + 1, y :: xs, K, fd, p3, p4, p5, p6, p7, p8, p9, p10, hxs, hK, hl, s, k => by
    cases K with
    | nil => cases hK
    | cons e0 K0 =>
      have hav : (e0.1, e0.2) ∈ avail (e0 :: K0) := avail_ne
      generalize hKd : e0 :: K0 = K at hav hK s k
      have hsel := sel_mem L s hne
      cases hx : selF row K (keysL ls) with
      | nil =>
        have := (hsel e0.2).mpr ⟨e0.1, hav⟩
        rw [hx] at this
        cases this
      | cons x xs' =>
        rw [hx] at hsel
        obtain ⟨p, hp⟩ := (hsel (minH x xs')).mp (minH_spec xs' x).1
        have st := firstG_step (n := n) s hsel rfl hp
        obtain ⟨s', _, _, hl'⟩ := s.take hp
        rw [forL_cons]
        simp only [s_name, List.set_cons_succ, List.set_cons_zero]
        refine law_first_body hD L s hne (by omega) hx hp fun p8 p9 p10 => ⟨hok _, ?_⟩
        exact law_first_loop hok hD L hne hlen n xs _ _ _ _ _ _ _ _ _ _ (by simpa using hxs) (by omega) (by rw [List.length_append, List.length_singleton]; omega) s' fun p3 p4 p5 p6 p7 p8 p9 p10 l => by
          have := k p3 p4 p5 p6 p7 p8 p9 p10 l
          rw [st] at this
          rw [List.append_assoc]
          exact this
theorem r_law_first (rs : List R) (Pd : R → Prop) (h : Ph_law_first rs Pd) (hl : rs.length = 1) : w_law_first { nx := fun _ _ => Pd (.d .none), rt := fun r κ => Opt (outR κ 0 r) Pd } (rs.map some ++ List.replicate 11 none) [] := by
  obtain ⟨row, D, hD, rfl, hlen, hin, k⟩ := h
  clear hl
  have hne : RowNe row := fun h hh => (hin h hh).2.2
  have L := row_lines hne hlen
  have fin : (wSeq (wFor (wRng1 (wCons (wCB lenD (wCons (wVar 0) wNil)) wNil)) (wName 7) wb_law_first) (wRet (wVar 2))) = (wSeq (wFor (wRng1 (wCons (wCB lenD (wCons (wVar 0) wNil)) wNil)) (wName 7) wb_law_first) (wRet (wVar 2))) := rfl
  have k0 : ∀ ls : Lines, kapM ls [.l []] = kapM ls [.l (([] : Row).map hookD)] := fun _ => rfl
  have e0 : [Cell.m [], Cell.l []] = kapM [] [.l []] := rfl
  have main : ∀ p3 p4 p5 p6, (wSeq (wFor (wRng1 (wCons (wCB lenD (wCons (wVar 0) wNil)) wNil)) (wName 7) wb_law_first) (wRet (wVar 2))) { nx := fun _ _ => Pd (.d .none), rt := fun r κ => Opt (outR κ 0 r) Pd } [some (.d D), some (.c 0), some (.c 1), p3, p4, p5, p6, none, none, none, none, none] (kapM (linesG [] 0 row) [.l []]) := fun p3 p4 p5 p6 => by
    have el : lenD [D] = some (.v (.int (row.length : Nat))) := by
      rcases hD with rfl | rfl <;> simp [lenD]
    rw [s_seq, s_for, s_rng1]
    simp only [s_cb, s_cons, s_nil, s_var, List.getElem?_cons_zero, st_d, vals_cons, vals_nil, val_d, Opt_some, el, out_v]
    refine ⟨by omega, by omega, ?_⟩
    rw [k0, ← linesF_self (f := fun r => posOf r (enR 0 row)) L.line]
    refine law_first_loop (ok := fun _ => True) (fun _ => trivial) hD L hne hlen row.length _ (enR 0 row) [] _ _ _ _ _ _ _ _ (by rw [List.length_map, List.length_range, Int.toNat_natCast]) (enR_len 0 row) (by simp) ⟨List.Sublist.refl _, fun r => ⟨[], rfl⟩⟩ fun p3 p4 p5 p6 p7 p8 p9 p10 l => ?_
    have g : (kapM l [.l (([] ++ firstG row.length (enR 0 row)).map hookD)])[1]? = some (.l ((firstF row).map hookD)) := rfl
    simp [outR, g]
    exact k
  unfold w_law_first
  rw [s_seq]
  rcases hD with rfl | rfl
  all_goals simp [wDict0]
  all_goals rw [e0]
  all_goals exact law_lines_loop (ok := fun _ => True) (fun _ => trivial) row 0 0 [] none none none none ⟨Nat.le_refl _, fun e he => by cases he⟩ (by omega) main
end SH
/-! THa: rows by their lines: what stacks tell, whichever way hooks that share no rope are ordered. -/
namespace SH
open PySem PySem.Spec PyProof.Rows L2 DL
abbrev RowT := List Hook
/-- g shares a rope with h -/
def hits (h g : Hook) : Bool := touches h.1 g || touches h.2.1 g
theorem touch_t (r : Str) (h : Hook) : touches r (turned h) = touches r h := rfl
theorem turned2 (h : Hook) : turned (turned h) = h := by
  obtain ⟨a, b, s⟩ := h
  show (a, b, -(-s)) = (a, b, s)
  rw [Int.neg_neg]
theorem hits_t (h g : Hook) : hits h (turned g) = hits h g := rfl
theorem hits_iff {h g : Hook} : hits h g = true ↔ ∃ r, touches r h = true ∧ touches r g = true := by
  unfold hits
  rw [Bool.or_eq_true]
  constructor
  · rintro (q | q)
    · exact ⟨h.1, touches_iff.mpr (.inl rfl), q⟩
    · exact ⟨h.2.1, touches_iff.mpr (.inr rfl), q⟩
  · rintro ⟨r, a, b⟩
    rcases touches_iff.mp a with rfl | rfl
    · exact .inl b
    · exact .inr b
theorem hits_symm (h g : Hook) : hits h g = hits g h := by
  rw [Bool.eq_iff_iff, hits_iff, hits_iff]
  exact ⟨fun ⟨r, a, b⟩ => ⟨r, b, a⟩, fun ⟨r, a, b⟩ => ⟨r, b, a⟩⟩
theorem hits_self (h : Hook) : hits h h = true := by
  unfold hits touches
  simp
theorem hits_false {h g : Hook} (e : hits h g = false) : touches h.1 g = false ∧ touches h.2.1 g = false := by
  unfold hits at e
  rwa [Bool.or_eq_false_iff] at e
theorem touch_both {r : Str} {h g : Hook} (a : touches r h = true) (b : touches r g = true) : hits h g = true := by
  unfold hits
  rw [Bool.or_eq_true]
  rcases touches_iff.mp a with rfl | rfl
  · exact .inl b
  · exact .inr b
def lineR (r : Str) (ρ : RowT) : RowT := ρ.filter (touches r)
abbrev Pile := Str → RowT
def linesP (ρ : RowT) : Pile := fun r => lineR r ρ
theorem lineR_app (r : Str) (x y : RowT) : lineR r (x ++ y) = lineR r x ++ lineR r y := List.filter_append ..
theorem lineR_cons (r : Str) (h : Hook) (x : RowT) : lineR r (h :: x) = if touches r h = true then h :: lineR r x else lineR r x := by
  unfold lineR
  by_cases q : touches r h = true
  · rw [if_pos q, List.filter_cons_of_pos q]
  · rw [if_neg q, List.filter_cons_of_neg q]
theorem lineR_free {r : Str} {h : Hook} {y : RowT} (t : touches r h = true) (f : ∀ g ∈ y, hits h g = false) : lineR r y = [] := by
  unfold lineR
  rw [List.filter_eq_nil_iff]
  intro g hg q
  have := touch_both t q
  rw [f g hg] at this
  cases this
def top2 (h : Hook) (S : Pile) : Prop := (S h.1).head? = some (turned h) ∧ (S h.2.1).head? = some (turned h)
instance (h : Hook) (S : Pile) : Decidable (top2 h S) := by unfold top2; infer_instance
def act (h : Hook) (S : Pile) : Pile := if top2 h S then fun r => if touches r h = true then (S r).tail else S r else fun r => if touches r h = true then h :: S r else S r
def stripR (h : Hook) : RowT → Option RowT
  | [] => none
  | g :: gs => if hits h g = true then (if g = turned h then some gs else none) else (stripR h gs).map (g :: ·)
def cstep (h : Hook) (ρ : RowT) : RowT := match stripR h ρ with
  | some ρ' => ρ'
  | none => h :: ρ
theorem strip_some {h : Hook} : ∀ {ρ ρ' : RowT}, stripR h ρ = some ρ' → ∃ y x, ρ = y ++ turned h :: x ∧ ρ' = y ++ x ∧ ∀ g ∈ y, hits h g = false
  | g :: gs, ρ', e => by
    unfold stripR at e
    by_cases q : hits h g = true
    · rw [if_pos q] at e
      by_cases q2 : g = turned h
      · rw [if_pos q2] at e
        cases e
        exact ⟨[], gs, by rw [q2]; rfl, rfl, fun g hg => nomatch hg⟩
      · rw [if_neg q2] at e; cases e
    · rw [if_neg q] at e
      cases q2 : stripR h gs with
      | none => rw [q2] at e; cases e
      | some ρ1 =>
        rw [q2] at e
        cases e
        obtain ⟨y, x, e1, e2, e3⟩ := strip_some q2
        refine ⟨g :: y, x, by rw [e1]; rfl, by rw [e2]; rfl, fun k hk => ?_⟩
        rcases List.mem_cons.mp hk with rfl | hk
        · exact (Bool.not_eq_true _).mp q
        · exact e3 k hk
theorem strip_none {h : Hook} : ∀ {ρ : RowT}, stripR h ρ = none → (∀ g ∈ ρ, hits h g = false) ∨ ∃ y g x, ρ = y ++ g :: x ∧ (∀ k ∈ y, hits h k = false) ∧ hits h g = true ∧ g ≠ turned h
  | [], _ => .inl fun g hg => nomatch hg
  | g :: gs, e => by
    unfold stripR at e
    by_cases q : hits h g = true
    · rw [if_pos q] at e
      by_cases q2 : g = turned h
      · rw [if_pos q2] at e; cases e
      · exact .inr ⟨[], g, gs, rfl, (fun k hk => nomatch hk), q, q2⟩
    · rw [if_neg q] at e
      cases q2 : stripR h gs with
      | some ρ1 => rw [q2] at e; cases e
      | none =>
        have qf := (Bool.not_eq_true _).mp q
        rcases strip_none q2 with f | ⟨y, k, x, e1, e2, e3, e4⟩
        · refine .inl fun k hk => ?_
          rcases List.mem_cons.mp hk with rfl | hk
          · exact qf
          · exact f k hk
        · refine .inr ⟨g :: y, k, x, by rw [e1]; rfl, fun z hz => ?_, e3, e4⟩
          rcases List.mem_cons.mp hz with rfl | hz
          · exact qf
          · exact e2 z hz
theorem t1 (h : Hook) : touches h.1 h = true := touches_iff.mpr (.inl rfl)
theorem t2 (h : Hook) : touches h.2.1 h = true := touches_iff.mpr (.inr rfl)
theorem act_lines (h : Hook) (ρ : RowT) : linesP (cstep h ρ) = act h (linesP ρ) := by
  unfold cstep
  cases e : stripR h ρ with
  | some ρ' =>
    obtain ⟨y, x, rfl, rfl, f⟩ := strip_some e
    have lt : ∀ r, touches r h = true → linesP (y ++ turned h :: x) r = turned h :: lineR r x := fun r t => by
      show lineR r _ = _
      rw [lineR_app, lineR_free t f, lineR_cons, if_pos (by rw [touch_t]; exact t), List.nil_append]
    have tp : top2 h (linesP (y ++ turned h :: x)) := ⟨by rw [lt _ (t1 h)]; rfl, by rw [lt _ (t2 h)]; rfl⟩
    unfold act
    rw [if_pos tp]
    funext r
    by_cases q : touches r h = true
    · rw [if_pos q, lt r q]
      show lineR r _ = _
      rw [lineR_app, lineR_free q f, List.nil_append]
      rfl
    · rw [if_neg q]
      show lineR r _ = lineR r _
      rw [lineR_app, lineR_app, lineR_cons, if_neg (by rw [touch_t]; exact q)]
  | none =>
    have tp : ¬ top2 h (linesP ρ) := by
      rcases strip_none e with f | ⟨y, g, x, rfl, f, hg, ne⟩
      · rintro ⟨z, _⟩
        have : linesP ρ h.1 = [] := lineR_free (t1 h) f
        rw [this] at z
        cases z
      · have lt : ∀ r, touches r h = true → touches r g = true → (linesP (y ++ g :: x) r).head? = some g := fun r t u => by
          show (lineR r _).head? = _
          rw [lineR_app, lineR_free t f, lineR_cons, if_pos u]
          rfl
        rintro ⟨z1, z2⟩
        unfold hits at hg
        rw [Bool.or_eq_true] at hg
        rcases hg with u | u
        · rw [lt _ (t1 h) u] at z1
          exact ne (Option.some.inj z1)
        · rw [lt _ (t2 h) u] at z2
          exact ne (Option.some.inj z2)
    unfold act
    rw [if_neg tp]
    funext r
    show lineR r (h :: ρ) = _
    rw [lineR_cons]
    rfl
theorem act_at (h : Hook) (S : Pile) (r : Str) : act h S r = if touches r h = true then (if top2 h S then (S r).tail else h :: S r) else S r := by
  unfold act
  by_cases c : top2 h S
  · rw [if_pos c, if_pos c]
  · rw [if_neg c, if_neg c]
theorem act_off {h : Hook} {r : Str} (n : ¬ touches r h = true) (S : Pile) : act h S r = S r := by rw [act_at, if_neg n]
theorem top2_congr {h : Hook} {S T : Pile} (e1 : S h.1 = T h.1) (e2 : S h.2.1 = T h.2.1) : top2 h S ↔ top2 h T := by
  unfold top2
  rw [e1, e2]
theorem act_congr {h : Hook} {S T : Pile} {r : Str} (e : ∀ r, touches r h = true → S r = T r) (t : touches r h = true) : act h S r = act h T r := by
  rw [act_at, act_at, if_pos t, if_pos t, e r t]
  have c := top2_congr (e _ (t1 h)) (e _ (t2 h))
  by_cases q : top2 h T
  · rw [if_pos q, if_pos (c.mpr q)]
  · rw [if_neg q, if_neg (fun z => q (c.mp z))]
theorem off_of {h g : Hook} {r : Str} (e : hits h g = false) (t : touches r h = true) : ¬ touches r g = true := fun u => by
  have := touch_both t u
  rw [e] at this; cases this
/-- hooks that share no rope may change places -/
theorem act_comm {h g : Hook} (e : hits h g = false) (S : Pile) : act h (act g S) = act g (act h S) := by
  have e' : hits g h = false := by rw [hits_symm]; exact e
  funext r
  by_cases th : touches r h = true
  · rw [act_off (off_of e th) (act h S), act_congr (fun r t => act_off (off_of e t) S) th]
  · rw [act_off th (act g S)]
    by_cases tg : touches r g = true
    · rw [act_congr (fun r t => act_off (off_of e' t) S) tg]
    · rw [act_off tg, act_off tg, act_off th]
end SH
/-! THb: stacks: cancelling, the same lines, hooks struck. -/
namespace SH
open PySem PySem.Spec PyProof.Rows L2 DL
def acts (r : RowT) (S : Pile) : Pile := r.foldl (fun S h => act h S) S
def pile (r : RowT) : Pile := acts r fun _ => []
def nfL (r : RowT) (ρ : RowT) : RowT := r.foldl (fun ρ h => cstep h ρ) ρ
def nfR (r : RowT) : RowT := nfL r []
theorem acts_app (x y : RowT) (S : Pile) : acts (x ++ y) S = acts y (acts x S) := by unfold acts; rw [List.foldl_append]
theorem pile_app (x y : RowT) : pile (x ++ y) = acts y (pile x) := acts_app x y _
theorem acts_lines : ∀ (r ρ : RowT), linesP (nfL r ρ) = acts r (linesP ρ)
  | [], ρ => rfl
  | h :: r, ρ => by
    show linesP (nfL r (cstep h ρ)) = acts r (act h (linesP ρ))
    rw [acts_lines r, act_lines]
theorem pile_nf (r : RowT) : linesP (nfR r) = pile r := acts_lines r []
/-- nothing goes -/
def Red (ρ : RowT) : Prop := ∀ x g y z, ρ = x ++ g :: (y ++ turned g :: z) → ∃ k ∈ y, hits g k = true
theorem strip_of {h : Hook} : ∀ {y x : RowT}, (∀ g ∈ y, hits h g = false) → stripR h (y ++ turned h :: x) = some (y ++ x)
  | [], x, _ => by
    show (if hits h (turned h) = true then (if turned h = turned h then some x else none) else _) = _
    rw [if_pos (by rw [hits_t]; exact hits_self h), if_pos rfl]
    rfl
  | g :: y, x, f => by
    show (if hits h g = true then _ else (stripR h (y ++ turned h :: x)).map (g :: ·)) = _
    rw [if_neg (by rw [f g (List.mem_cons_self ..)]; decide), strip_of fun k hk => f k (List.mem_cons_of_mem _ hk)]
    rfl
theorem red_cons {h : Hook} {ρ : RowT} (R : Red ρ) (e : stripR h ρ = none) : Red (h :: ρ) := by
  intro x g y z hd
  cases x with
  | nil =>
    injection hd with h1 h2
    subst h1
    by_cases q : ∃ k ∈ y, hits h k = true
    · exact q
    · have f : ∀ g ∈ y, hits h g = false := fun k hk => (Bool.not_eq_true _).mp fun t => q ⟨k, hk, t⟩
      rw [h2, strip_of f] at e
      cases e
  | cons w x =>
    injection hd with h1 h2
    exact R x g y z h2
theorem red_del {h : Hook} {y0 x0 : RowT} (R : Red (y0 ++ turned h :: x0)) (f : ∀ g ∈ y0, hits h g = false) : Red (y0 ++ x0) := by
  intro x g y z hd
  have no : ∀ g ∈ y0, hits g (turned h) = true → False := fun g hg t => by
    rw [hits_t, hits_symm, f g hg] at t
    cases t
  rcases List.append_eq_append_iff.mp hd with ⟨a, e1, e2⟩ | ⟨c, e1, e2⟩
  · exact R (y0 ++ turned h :: a) g y z (by rw [e2, List.append_assoc]; rfl)
  · cases c with
    | nil =>
      rw [List.append_nil] at e1
      refine R (y0 ++ [turned h]) g y z ?_
      have : x0 = g :: (y ++ turned g :: z) := e2.symm
      rw [this, List.append_assoc]
      rfl
    | cons w c =>
      injection e2 with h1 h2
      subst h1
      have gy : g ∈ y0 := by rw [e1]; simp
      rcases List.append_eq_append_iff.mp h2 with ⟨a, q1, q2⟩ | ⟨d, q1, q2⟩
      · cases a with
        | nil =>
          rw [List.append_nil] at q1
          have q3 : x0 = turned g :: z := q2.symm
          obtain ⟨k, hk, t⟩ := R x g (y ++ [turned h]) z (by rw [e1, q1, q3]; simp)
          rcases List.mem_append.mp hk with hk | hk
          · exact ⟨k, hk, t⟩
          · rw [List.mem_singleton.mp hk] at t
            exact (no g gy t).elim
        | cons w' a =>
          injection q2 with h3 h4
          subst h3
          exact R x g y (a ++ turned h :: x0) (by rw [e1, q1]; simp)
      · obtain ⟨k, hk, t⟩ := R x g (c ++ turned h :: d) z (by rw [e1, q2]; simp)
        refine ⟨k, ?_, t⟩
        rw [q1]
        rcases List.mem_append.mp hk with hk | hk
        · exact List.mem_append_left _ hk
        · rcases List.mem_cons.mp hk with rfl | hk
          · exact (no g gy t).elim
          · exact List.mem_append_right _ hk
theorem red_step {h : Hook} {ρ : RowT} (R : Red ρ) : Red (cstep h ρ) := by
  unfold cstep
  cases e : stripR h ρ with
  | none => exact red_cons R e
  | some ρ' =>
    obtain ⟨y, x, rfl, rfl, f⟩ := strip_some e
    exact red_del R f
theorem red_nfL : ∀ (r : RowT) {ρ : RowT}, Red ρ → Red (nfL r ρ)
  | [], _, R => R
  | h :: r, _, R => red_nfL r (red_step R)
theorem red_nil : Red [] := fun x g y z e => by
  have := congrArg List.length e
  simp at this
theorem red_nf (r : RowT) : Red (nfR r) := red_nfL r red_nil
/-- a hook and its turned one behind it go -/
theorem cancel_red {h : Hook} {ρ : RowT} (R : Red ρ) : act (turned h) (act h (linesP ρ)) = linesP ρ := by
  rw [← act_lines, ← act_lines]
  unfold cstep
  cases e : stripR h ρ with
  | none =>
    have : stripR (turned h) (h :: ρ) = some ρ := by
      show (if hits (turned h) h = true then (if h = turned (turned h) then some ρ else none) else _) = _
      rw [if_pos (by rw [hits_symm, hits_t]; exact hits_self h), if_pos (turned2 h).symm]
    simp only [this]
  | some ρ' =>
    obtain ⟨y, x, rfl, rfl, f⟩ := strip_some e
    have f' : ∀ g ∈ y, hits (turned h) g = false := fun g hg => by rw [hits_symm, hits_t, hits_symm]; exact f g hg
    cases e2 : stripR (turned h) (y ++ x) with
    | some ρ2 =>
      obtain ⟨y', x', q1, q2, f2⟩ := strip_some e2
      rw [turned2] at q1
      rcases List.append_eq_append_iff.mp q1 with ⟨a, e1, e3⟩ | ⟨c, e1, e3⟩
      · obtain ⟨k, hk, t⟩ := R y (turned h) a x' (by rw [turned2, e3])
        rw [f2 k (by rw [e1]; exact List.mem_append_right _ hk)] at t
        cases t
      · cases c with
        | nil =>
          have e3 : x = h :: x' := e3.symm
          obtain ⟨k, hk, t⟩ := R y (turned h) [] x' (by rw [turned2, e3]; rfl)
          cases hk
        | cons w c =>
          injection e3 with h1 h2
          subst h1
          have := f h (by rw [e1]; simp)
          rw [hits_self] at this
          cases this
    | none =>
      simp only
      funext r
      show lineR r _ = lineR r _
      rw [lineR_cons, lineR_app, lineR_app, lineR_cons, touch_t]
      by_cases t : touches r h = true
      · rw [if_pos t, if_pos t, lineR_free t f]
        rfl
      · rw [if_neg t, if_neg t]
theorem cancel (h : Hook) (r : RowT) : act (turned h) (act h (pile r)) = pile r := by
  rw [← pile_nf]
  exact cancel_red (red_nf r)
theorem cancel2 (h : Hook) (r : RowT) : act h (act (turned h) (pile r)) = pile r := by
  have := cancel (turned h) r
  rwa [turned2] at this
theorem acts_free {h : Hook} : ∀ {u : RowT}, (∀ g ∈ u, hits h g = false) → ∀ S, act h (acts u S) = acts u (act h S)
  | [], _, S => rfl
  | g :: u, f, S => by
    show act h (acts u (act g S)) = acts u (act g (act h S))
    rw [acts_free (fun k hk => f k (List.mem_cons_of_mem _ hk)), act_comm (f g (List.mem_cons_self ..))]
theorem lines_nil {r : RowT} (e : linesP r = linesP []) : r = [] := by
  cases r with
  | nil => rfl
  | cons h r =>
    have := congrFun e h.1
    have : lineR h.1 (h :: r) = [] := this
    rw [lineR_cons, if_pos (t1 h)] at this
    cases this
/-- a row whose lines begin like h's -/
theorem lines_cons {h : Hook} {r r' : RowT} (e : linesP (h :: r) = linesP r') : ∃ u v, r' = u ++ h :: v ∧ (∀ g ∈ u, hits h g = false) ∧ linesP r = linesP (u ++ v) := by
  have a1 : lineR h.1 r' = h :: lineR h.1 r := by
    have := congrFun e h.1
    have : lineR h.1 (h :: r) = lineR h.1 r' := this
    rw [← this, lineR_cons, if_pos (t1 h)]
  have a2 : lineR h.2.1 r' = h :: lineR h.2.1 r := by
    have := congrFun e h.2.1
    have : lineR h.2.1 (h :: r) = lineR h.2.1 r' := this
    rw [← this, lineR_cons, if_pos (t2 h)]
  obtain ⟨u, v, rfl, hu, _, _⟩ := List.filter_eq_cons_iff.mp a1
  have f : ∀ g ∈ u, hits h g = false := fun g hg => by
    refine (Bool.not_eq_true _).mp fun t => ?_
    unfold hits at t
    rw [Bool.or_eq_true] at t
    rcases t with t | t
    · exact hu g hg t
    · rw [lineR_app] at a2
      cases q : lineR h.2.1 u with
      | nil =>
        have : g ∈ lineR h.2.1 u := List.mem_filter.mpr ⟨hg, t⟩
        rw [q] at this; cases this
      | cons k ks =>
        rw [q] at a2
        injection a2 with b1 b2
        have km : k ∈ lineR h.2.1 u := by rw [q]; exact List.mem_cons_self ..
        have := hu k (List.mem_filter.mp km).1
        rw [b1] at this
        exact this (t1 h)
  refine ⟨u, v, rfl, f, ?_⟩
  funext r0
  have e0 : lineR r0 (h :: r) = lineR r0 (u ++ h :: v) := congrFun e r0
  show lineR r0 r = lineR r0 (u ++ v)
  rw [lineR_app]
  rw [lineR_app, lineR_cons, lineR_cons] at e0
  by_cases t : touches r0 h = true
  · rw [if_pos t, if_pos t, lineR_free t f] at e0
    rw [lineR_free t f]
    injection e0
  · rwa [if_neg t, if_neg t] at e0
/-- rows of the same lines do the same -/
theorem acts_same : ∀ {r r' : RowT}, linesP r = linesP r' → ∀ S, acts r S = acts r' S
  | [], r', e, S => by rw [lines_nil e.symm]
  | h :: r, r', e, S => by
    obtain ⟨u, v, rfl, f, e2⟩ := lines_cons e
    show acts r (act h S) = _
    rw [acts_same e2 (act h S), acts_app, acts_app, ← acts_free f]
    rfl
theorem nf_red : ∀ {ρ : RowT}, Red ρ → nfR ρ.reverse = ρ
  | [], _ => rfl
  | h :: ρ, R => by
    have R' : Red ρ := fun x g y z e => R (h :: x) g y z (by rw [e]; rfl)
    have e : nfR (h :: ρ).reverse = cstep h (nfR ρ.reverse) := by
      unfold nfR nfL
      rw [List.reverse_cons, List.foldl_append]
      rfl
    rw [e, nf_red R']
    unfold cstep
    cases q : stripR h ρ with
    | none => rfl
    | some ρ' =>
      obtain ⟨y, x, e1, _, f⟩ := strip_some q
      obtain ⟨k, hk, t⟩ := R [] h y x (by rw [e1]; rfl)
      rw [f k hk] at t
      cases t
/-! ### hooks struck -/
theorem filt_step {p : Hook → Bool} (hp : ∀ h, p (turned h) = p h) (h : Hook) (ρ : RowT) : pile ((cstep h ρ).reverse.filter p) = if p h = true then act h (pile (ρ.reverse.filter p)) else pile (ρ.reverse.filter p) := by
  unfold cstep
  cases e : stripR h ρ with
  | none =>
    simp only
    rw [List.reverse_cons, List.filter_append, pile_app]
    by_cases q : p h = true
    · rw [if_pos q, List.filter_cons_of_pos q]; rfl
    · rw [if_neg q, List.filter_cons_of_neg q]; rfl
  | some ρ' =>
    obtain ⟨y, x, rfl, rfl, f⟩ := strip_some e
    simp only
    rw [List.reverse_append, List.reverse_append, List.reverse_cons, List.filter_append, List.filter_append, List.filter_append]
    by_cases q : p h = true
    · rw [if_pos q, List.filter_cons_of_pos (by rw [hp]; exact q)]
      rw [pile_app, pile_app, pile_app]
      have f' : ∀ g ∈ y.reverse.filter p, hits h g = false := fun g hg => f g (List.mem_reverse.mp (List.mem_filter.mp hg).1)
      rw [acts_free f']
      show _ = acts _ (act h (act (turned h) (pile _)))
      rw [cancel2]
    · rw [if_neg q, List.filter_cons_of_neg (by rw [hp]; exact q)]
      simp
theorem filt_nf {p : Hook → Bool} (hp : ∀ h, p (turned h) = p h) : ∀ (r ρ : RowT), acts (r.filter p) (pile (ρ.reverse.filter p)) = pile ((nfL r ρ).reverse.filter p)
  | [], ρ => rfl
  | h :: r, ρ => by
    have ih := filt_nf hp r (cstep h ρ)
    show _ = pile ((nfL r (cstep h ρ)).reverse.filter p)
    rw [← ih, filt_step hp]
    by_cases q : p h = true
    · rw [if_pos q, List.filter_cons_of_pos q]; rfl
    · rw [if_neg q, List.filter_cons_of_neg q]
theorem lines_rev {x y : RowT} (e : linesP x = linesP y) : linesP x.reverse = linesP y.reverse := by
  funext r
  have : lineR r x = lineR r y := congrFun e r
  show lineR r _ = lineR r _
  unfold lineR at *
  rw [List.filter_reverse, List.filter_reverse, this]
theorem lines_filter {x y : RowT} (p : Hook → Bool) (e : linesP x = linesP y) : linesP (x.filter p) = linesP (y.filter p) := by
  funext r
  have : lineR r x = lineR r y := congrFun e r
  show lineR r _ = lineR r _
  unfold lineR at *
  have c : ∀ z : RowT, (z.filter p).filter (touches r) = (z.filter (touches r)).filter p := fun z => by
    rw [List.filter_filter, List.filter_filter]
    congr 1
    funext h
    rw [Bool.and_comm]
  rw [c, c, this]
/-- alike rows stay alike when hooks are struck -/
theorem pile_filter {p : Hook → Bool} (hp : ∀ h, p (turned h) = p h) {r r' : RowT} (e : pile r = pile r') : pile (r.filter p) = pile (r'.filter p) := by
  have e1 := filt_nf hp r []
  have e2 := filt_nf hp r' []
  have e1 : pile (r.filter p) = pile ((nfR r).reverse.filter p) := e1
  have e2 : pile (r'.filter p) = pile ((nfR r').reverse.filter p) := e2
  rw [e1, e2]
  rw [← pile_nf, ← pile_nf] at e
  exact acts_same (lines_filter p (lines_rev e)) _
end SH
/-! THc: what settled, first orders and least rows tell depends on the stacks alone. -/
namespace SH
open PySem PySem.Spec PyProof.Rows L2 DL
/-! ### settled is the stacks' row -/
theorem posOf_free {h : Hook} {r : Str} {ks : KR} (t : touches r h = true) (f : ∀ e ∈ ks, hits h e.2 = false) : posOf r ks = [] := by
  unfold posOf
  have : ks.filter (fun p => touches r p.2) = [] := by
    rw [List.filter_eq_nil_iff]
    intro e he q
    have := touch_both t q
    rw [f e he] at this
    cases this
  rw [this]
  rfl
theorem posOf_split (r : Str) (x y : KR) : posOf r (x ++ y) = posOf r x ++ posOf r y := by
  unfold posOf
  rw [List.filter_append, List.map_append]
theorem rev_free {h : Hook} {k : KR} (f : ∀ e ∈ k, hits h e.2 = false) : ∀ g ∈ (k.map (·.2)).reverse, hits h g = false := fun g hg => by
  obtain ⟨e, he, rfl⟩ := List.mem_map.mp (List.mem_reverse.mp hg)
  exact f e he
theorem sStep_c {row : RowT} {i : Nat} {ks : KR} {h : Hook} (K : KOk row i ks) (pw : (ks.map (·.1)).Pairwise (· < ·)) : ((sStep row ks i h).map (·.2)).reverse = cstep h (ks.map (·.2)).reverse := by
  by_cases q : ∃ p, (posOf h.1 ks).getLast? = some p ∧ (posOf h.2.1 ks).getLast? = some p ∧ row[p]? = some (turned h)
  · obtain ⟨p, e1, e2, e3⟩ := q
    rw [sStep_true e1 e2 e3]
    obtain ⟨g, hg, hrow, _, _⟩ := K.get (List.mem_of_getLast? e1)
    have eg : g = turned h := by
      rw [hrow] at e3
      exact Option.some.inj e3
    subst eg
    obtain ⟨k1, k2, rfl⟩ := List.append_of_mem hg
    rw [List.map_append, List.map_cons, List.pairwise_append, List.pairwise_cons] at pw
    have f : ∀ e ∈ k2, hits h e.2 = false := fun e he => by
      refine (Bool.not_eq_true _).mp fun t => ?_
      have lt : p < e.1 := pw.2.1.1 e.1 (List.mem_map.mpr ⟨e, he, rfl⟩)
      have last : ∀ r, touches r e.2 = true → (posOf r (k1 ++ (p, turned h) :: k2)).getLast? = some p → False := fun r tr el => by
        rw [posOf_split, show (p, turned h) :: k2 = [(p, turned h)] ++ k2 from rfl, posOf_split] at el
        have ne : posOf r k2 ≠ [] := fun z => by
          have : e.1 ∈ posOf r k2 := List.mem_map.mpr ⟨e, List.mem_filter.mpr ⟨he, tr⟩, rfl⟩
          rw [z] at this; cases this
        rw [List.getLast?_append, List.getLast?_append] at el
        have hm : p ∈ posOf r k2 := by
          cases q2 : (posOf r k2).getLast? with
          | none => exact (ne (List.getLast?_eq_none_iff.mp q2)).elim
          | some x =>
            rw [q2] at el
            have : x = p := by simpa using el
            rw [← this]
            exact List.mem_of_getLast? q2
        obtain ⟨e', he', _⟩ := List.mem_map.mp hm
        have := pw.2.1.1 p (List.mem_map.mpr ⟨e', (List.mem_filter.mp he').1, by assumption⟩)
        omega
      unfold hits at t
      rw [Bool.or_eq_true] at t
      rcases t with t | t
      · exact last _ t e1
      · exact last _ t e2
    have ef : (k1 ++ (p, turned h) :: k2).filter (fun e => decide (e.1 ≠ p)) = k1 ++ k2 := by
      rw [List.filter_append, List.filter_cons_of_neg (by simp)]
      have g1 : k1.filter (fun e => decide (e.1 ≠ p)) = k1 := by
        rw [List.filter_eq_self]
        intro a ha
        have := pw.2.2 a.1 (List.mem_map.mpr ⟨a, ha, rfl⟩) p (List.mem_cons_self ..)
        exact decide_eq_true (by omega)
      have g2 : k2.filter (fun e => decide (e.1 ≠ p)) = k2 := by
        rw [List.filter_eq_self]
        intro a ha
        have := pw.2.1.1 a.1 (List.mem_map.mpr ⟨a, ha, rfl⟩)
        exact decide_eq_true (by omega)
      rw [g1, g2]
    rw [ef]
    unfold cstep
    have : ((k1 ++ (p, turned h) :: k2).map (·.2)).reverse = (k2.map (·.2)).reverse ++ turned h :: (k1.map (·.2)).reverse := by simp
    rw [this, strip_of (rev_free f)]
    simp
  · rw [sStep_false q]
    unfold cstep
    cases e : stripR h (ks.map (·.2)).reverse with
    | none => simp
    | some ρ' =>
      obtain ⟨y, x, e1, _, f⟩ := strip_some e
      have e2 : ks.map (·.2) = x.reverse ++ turned h :: y.reverse := by
        have := congrArg List.reverse e1
        simpa using this
      obtain ⟨k1, k2', rfl, m1, m2⟩ := List.map_eq_append_iff.mp e2
      obtain ⟨⟨p, g⟩, k2, rfl, m3, m4⟩ := List.map_eq_cons_iff.mp m2
      have m3 : g = turned h := m3
      subst m3
      refine (q ⟨p, ?_, ?_, K.inr (p, turned h) (by simp)⟩).elim
      all_goals
        have f2 : ∀ e ∈ k2, hits h e.2 = false := fun e he => f e.2 (by
          have : e.2 ∈ y.reverse := by rw [← m4]; exact List.mem_map.mpr ⟨e, he, rfl⟩
          exact List.mem_reverse.mp this)
      · rw [posOf_split, posOf_cons, if_pos (by rw [touch_t]; exact t1 h), posOf_free (t1 h) f2]
        simp
      · rw [posOf_split, posOf_cons, if_pos (by rw [touch_t]; exact t2 h), posOf_free (t2 h) f2]
        simp
theorem sLoop_nf : ∀ (hs row : RowT) (ks : KR) (i : Nat), row.drop i = hs → KOk row i ks → (ks.map (·.1)).Pairwise (· < ·) → ((sLoop row ks i hs).map (·.2)).reverse = nfL hs (ks.map (·.2)).reverse
  | [], row, ks, i, _, _, _ => rfl
  | h :: hs, row, ks, i, hd, K, pw => by
    have hi : row[i]? = some h := by
      have := congrArg List.head? hd
      rw [List.head?_drop] at this
      exact this
    have hd2 : row.drop (i + 1) = hs := by
      have := congrArg List.tail hd
      rw [List.tail_drop] at this
      exact this
    show ((sLoop row (sStep row ks i h) (i + 1) hs).map (·.2)).reverse = nfL hs (cstep h _)
    rw [sLoop_nf hs row _ (i + 1) hd2 (sStep_ok K hi) (sStep_pw K.lt pw), sStep_c K pw]
theorem settled_nf (row : RowT) : settledF row = (nfR row).reverse := by
  have := sLoop_nf row row [] 0 rfl ⟨(fun p h => nomatch h), (fun p h => nomatch h), List.nodup_nil⟩ List.Pairwise.nil
  have e : (settledF row).reverse = nfR row := this
  rw [← e, List.reverse_reverse]
theorem pile_settled (r : RowT) : pile (settledF r) = pile r := by
  rw [settled_nf, ← pile_nf, nf_red (red_nf r), pile_nf]
theorem settled_lines {r r' : RowT} (e : pile r = pile r') : linesP (settledF r) = linesP (settledF r') := by
  rw [settled_nf, settled_nf]
  rw [← pile_nf, ← pile_nf] at e
  exact lines_rev e
/-! ### the first order -/
theorem lines_move {m : Hook} {u v : RowT} (f : ∀ g ∈ u, hits m g = false) : linesP (u ++ m :: v) = linesP (m :: (u ++ v)) := by
  funext r
  show lineR r _ = lineR r _
  rw [lineR_app, lineR_cons, lineR_cons, lineR_app]
  by_cases t : touches r m = true
  · rw [if_pos t, if_pos t, lineR_free t f]
    rfl
  · rw [if_neg t, if_neg t]
theorem lines_inj {m : Hook} {x y : RowT} (e : linesP (m :: x) = linesP (m :: y)) : linesP x = linesP y := by
  funext r
  have e0 : lineR r (m :: x) = lineR r (m :: y) := congrFun e r
  show lineR r _ = lineR r _
  rw [lineR_cons, lineR_cons] at e0
  by_cases t : touches r m = true
  · rw [if_pos t, if_pos t] at e0
    injection e0
  · rwa [if_neg t, if_neg t] at e0
theorem lines_cong {m : Hook} {x y : RowT} (e : linesP x = linesP y) : linesP (m :: x) = linesP (m :: y) := by
  funext r
  have e0 : lineR r x = lineR r y := congrFun e r
  show lineR r _ = lineR r _
  rw [lineR_cons, lineR_cons, e0]
/-- m may stand first -/
def AvR (r : RowT) (m : Hook) : Prop := ∃ u v, r = u ++ m :: v ∧ ∀ g ∈ u, hits m g = false
theorem avR_same {r r' : RowT} {m : Hook} (e : linesP r = linesP r') (a : AvR r m) : AvR r' m := by
  obtain ⟨u, v, rfl, f⟩ := a
  rw [lines_move f] at e
  obtain ⟨u', v', e1, f1, _⟩ := lines_cons e
  exact ⟨u', v', e1, f1⟩
theorem avail_split {K : KR} (nd : (K.map (·.1)).Nodup) {p : Nat} {m : Hook} (h : (p, m) ∈ avail K) : ∃ k1 k2, K = k1 ++ (p, m) :: k2 ∧ (∀ e ∈ k1, hits m e.2 = false) ∧ K.filter (fun e => decide (e.1 ≠ p)) = k1 ++ k2 := by
  obtain ⟨h1, h2, h3⟩ := avail_mem.mp h
  obtain ⟨k1, k2, rfl⟩ := List.append_of_mem h1
  rw [List.map_append, List.map_cons, List.nodup_append, List.nodup_cons] at nd
  have f : ∀ e ∈ k1, hits m e.2 = false := fun e he => by
    refine (Bool.not_eq_true _).mp fun t => ?_
    have no : ∀ r, touches r e.2 = true → (posOf r (k1 ++ (p, m) :: k2)).head? = some p → False := fun r tr el => by
      rw [posOf_split] at el
      cases q : posOf r k1 with
      | nil =>
        have : e.1 ∈ posOf r k1 := List.mem_map.mpr ⟨e, List.mem_filter.mpr ⟨he, tr⟩, rfl⟩
        rw [q] at this; cases this
      | cons x xs =>
        rw [q] at el
        have ex : x = p := by simpa using el
        have hm : x ∈ posOf r k1 := by rw [q]; exact List.mem_cons_self ..
        obtain ⟨e', he', e1⟩ := List.mem_map.mp hm
        exact nd.2.2 x (List.mem_map.mpr ⟨e', (List.mem_filter.mp he').1, e1⟩) p (List.mem_cons_self ..) ex
    unfold hits at t
    rw [Bool.or_eq_true] at t
    rcases t with t | t
    · exact no _ t h2
    · exact no _ t h3
  refine ⟨k1, k2, rfl, f, ?_⟩
  rw [List.filter_append, List.filter_cons_of_neg (by simp)]
  have g1 : k1.filter (fun e => decide (e.1 ≠ p)) = k1 := by
    rw [List.filter_eq_self]
    intro a ha
    exact decide_eq_true fun z => nd.2.2 a.1 (List.mem_map.mpr ⟨a, ha, rfl⟩) p (List.mem_cons_self ..) z
  have g2 : k2.filter (fun e => decide (e.1 ≠ p)) = k2 := by
    rw [List.filter_eq_self]
    intro a ha
    exact decide_eq_true fun z => nd.2.1.1 (z ▸ List.mem_map.mpr ⟨a, ha, rfl⟩)
  rw [g1, g2]
theorem avail_iff {K : KR} (nd : (K.map (·.1)).Nodup) {m : Hook} : (∃ p, (p, m) ∈ avail K) ↔ AvR (K.map (·.2)) m := by
  constructor
  · rintro ⟨p, h⟩
    obtain ⟨k1, k2, rfl, f, _⟩ := avail_split nd h
    refine ⟨k1.map (·.2), k2.map (·.2), by simp, fun g hg => ?_⟩
    obtain ⟨e, he, rfl⟩ := List.mem_map.mp hg
    exact f e he
  · rintro ⟨u, v, e, f⟩
    obtain ⟨k1, k2', rfl, m1, m2⟩ := List.map_eq_append_iff.mp e
    obtain ⟨⟨p, g⟩, k2, rfl, m3, m4⟩ := List.map_eq_cons_iff.mp m2
    have m3 : g = m := m3
    subst m3
    have f2 : ∀ e ∈ k1, hits g e.2 = false := fun e he => f e.2 (by rw [← m1]; exact List.mem_map.mpr ⟨e, he, rfl⟩)
    refine ⟨p, avail_mem.mpr ⟨by simp, ?_, ?_⟩⟩
    · rw [posOf_split, posOf_free (t1 g) f2, posOf_cons, if_pos (t1 g)]; rfl
    · rw [posOf_split, posOf_free (t2 g) f2, posOf_cons, if_pos (t2 g)]; rfl
/-- one turn of the first order -/
theorem firstG_one {n : Nat} {K : KR} (nd : (K.map (·.1)).Nodup) (hn : K.length = n + 1) : ∃ p m k1 k2, (p, m) ∈ avail K ∧ K = k1 ++ (p, m) :: k2 ∧ (∀ e ∈ k1, hits m e.2 = false) ∧ firstG (n + 1) K = m :: firstG n (k1 ++ k2) ∧ ∀ z, AvR (K.map (·.2)) z → ¬ ltH z m := by
  cases e : (avail K).map (·.2) with
  | nil =>
    cases K with
    | nil => cases hn
    | cons e0 K0 =>
      have : e0.2 ∈ (avail (e0 :: K0)).map (·.2) := List.mem_map.mpr ⟨e0, avail_ne, rfl⟩
      rw [e] at this; cases this
  | cons x xs =>
    obtain ⟨m1, m2⟩ := minH_spec xs x
    have hm := m1
    rw [← e] at hm
    obtain ⟨⟨p, m⟩, hp, em⟩ := List.mem_map.mp hm
    have em : m = minH x xs := em
    obtain ⟨k1, k2, ek, f, ef⟩ := avail_split nd hp
    refine ⟨p, m, k1, k2, hp, ek, f, ?_, fun z hz => ?_⟩
    · show (match (avail K).map (·.2) with
        | [] => []
        | x :: xs => minH x xs :: firstG n (K.filter fun e => decide (some e.1 ≠ (posOf (minH x xs).1 K).head?))) = _
      rw [e]
      simp only
      rw [← em, (avail_mem.mp hp).2.1]
      have eq : (K.filter fun e => decide (some e.1 ≠ some p)) = K.filter fun e => decide (e.1 ≠ p) := by
        refine List.filter_congr fun a _ => ?_
        by_cases q : a.1 = p <;> simp [q]
      rw [eq, ef]
    · obtain ⟨q, hq⟩ := (avail_iff nd).mpr hz
      have : z ∈ x :: xs := by rw [← e]; exact List.mem_map.mpr ⟨(q, z), hq, rfl⟩
      rw [em]
      exact m2 z this
theorem nd_del {k1 k2 : KR} {e : Nat × Hook} (nd : ((k1 ++ e :: k2).map (·.1)).Nodup) : ((k1 ++ k2).map (·.1)).Nodup := nd.sublist ((List.Sublist.append_left (List.sublist_cons_self e k2) k1).map _)
theorem firstG_lines : ∀ (n : Nat) (K : KR), (K.map (·.1)).Nodup → K.length = n → linesP (firstG n K) = linesP (K.map (·.2))
  | 0, K, _, hn => by rw [List.length_eq_zero_iff.mp hn]; rfl
  | n + 1, K, nd, hn => by
    obtain ⟨p, m, k1, k2, _, rfl, f, e, _⟩ := firstG_one nd hn
    have ih := firstG_lines n (k1 ++ k2) (nd_del nd) (by simp at hn ⊢; omega)
    rw [e, lines_cong ih, List.map_append, List.map_append, List.map_cons, lines_move]
    intro g hg
    obtain ⟨x, hx, rfl⟩ := List.mem_map.mp hg
    exact f x hx
theorem firstG_same : ∀ (n : Nat) (K K' : KR), (K.map (·.1)).Nodup → (K'.map (·.1)).Nodup → K.length = n → K'.length = n → linesP (K.map (·.2)) = linesP (K'.map (·.2)) → firstG n K = firstG n K'
  | 0, _, _, _, _, _, _, _ => rfl
  | n + 1, K, K', nd, nd', hn, hn', e => by
    obtain ⟨p, m, k1, k2, hp, rfl, f, e1, l1⟩ := firstG_one nd hn
    obtain ⟨p', m', k1', k2', hp', rfl, f', e1', l1'⟩ := firstG_one nd' hn'
    have em : m = m' := by
      refine ltH_total (l1' m ?_) (l1 m' ?_)
      · exact avR_same e ((avail_iff nd).mp ⟨p, hp⟩)
      · exact avR_same e.symm ((avail_iff nd').mp ⟨p', hp'⟩)
    subst em
    have fr : ∀ {k : KR}, (∀ e ∈ k, hits m e.2 = false) → ∀ g ∈ k.map (·.2), hits m g = false := fun f g hg => by
      obtain ⟨x, hx, rfl⟩ := List.mem_map.mp hg
      exact f x hx
    rw [List.map_append, List.map_cons, List.map_append, List.map_cons, lines_move (fr f), lines_move (fr f')] at e
    have e2 := lines_inj e
    rw [e1, e1', firstG_same n (k1 ++ k2) (k1' ++ k2') (nd_del nd) (nd_del nd') (by simp at hn ⊢; omega) (by simp at hn' ⊢; omega) (by rw [List.map_append, List.map_append]; exact e2)]
theorem enR_map : ∀ (row : RowT) (i : Nat), (enR i row).map (·.2) = row
  | [], _ => rfl
  | h :: hs, i => by
    show h :: (enR (i + 1) hs).map (·.2) = _
    rw [enR_map hs]
theorem first_lines (row : RowT) : linesP (firstF row) = linesP row := by
  unfold firstF
  rw [firstG_lines row.length (enR 0 row) (enR_nd row 0) (enR_len 0 row), enR_map]
theorem lines_len : ∀ {r r' : RowT}, linesP r = linesP r' → r.length = r'.length
  | [], r', e => by rw [lines_nil e.symm]
  | h :: r, r', e => by
    obtain ⟨u, v, rfl, _, e2⟩ := lines_cons e
    have := lines_len e2
    simp at this ⊢
    omega
theorem first_same {r r' : RowT} (e : linesP r = linesP r') : firstF r = firstF r' := by
  unfold firstF
  rw [← lines_len e]
  exact firstG_same r.length _ _ (enR_nd r 0) (enR_nd r' 0) (enR_len 0 r) (by rw [enR_len, lines_len e]) (by rw [enR_map, enR_map]; exact e)
/-! ### what follows -/
theorem pile_of_lines {r r' : RowT} (e : linesP r = linesP r') : pile r = pile r' := acts_same e _
theorem pile_least (r : RowT) : pile (leastF r) = pile r := by
  unfold leastF
  rw [pile_of_lines (first_lines _), pile_settled]
theorem least_same {r r' : RowT} (e : pile r = pile r') : leastF r = leastF r' := first_same (settled_lines e)
theorem touch_lines {r : RowT} {s : Str} : (∃ h ∈ r, touches s h = true) ↔ linesP r s ≠ [] := by
  show _ ↔ lineR s r ≠ []
  unfold lineR
  rw [Ne, List.filter_eq_nil_iff]
  constructor
  · rintro ⟨h, hh, t⟩ q
    exact q h hh t
  · intro q
    refine Classical.byContradiction fun z => q fun h hh t => z ⟨h, hh, t⟩
theorem ropes_same {r r' : RowT} (e : linesP r = linesP r') : ropesF r = ropesF r' := by
  unfold ropesF
  congr 1
  refine sortK_uniq (ropesK_nd r) (ropesK_nd r') fun k => ?_
  have key : ∀ {x y : RowT}, linesP x = linesP y → k ∈ ropesK x → k ∈ ropesK y := fun {x y} e h => by
    obtain ⟨h0, hh, z⟩ := (ropesK_mem x k).mp h
    have go : ∀ s, touches s h0 = true → k = .inr s → k ∈ ropesK y := fun s t ek => by
      have : linesP y s ≠ [] := by rw [← e]; exact touch_lines.mp ⟨h0, hh, t⟩
      obtain ⟨g, hg, tg⟩ := touch_lines.mpr this
      refine (ropesK_mem y k).mpr ⟨g, hg, ?_⟩
      rw [ek]
      exact (touches_iff.mp tg).imp (fun z => by rw [z]) fun z => by rw [z]
    rcases z with z | z
    · exact go _ (t1 h0) z
    · exact go _ (t2 h0) z
  exact ⟨key e, key e.symm⟩
theorem held_same {r r' : RowT} (e : pile r = pile r') : heldF r = heldF r' := ropes_same (settled_lines e)
theorem drawn_same {r r' : RowT} (ss : List Str) (e : pile r = pile r') : pile (drawnF r ss) = pile (drawnF r' ss) := pile_filter (fun h => rfl) e
theorem kept_same {r r' : RowT} (ss : List Str) (e : pile r = pile r') : pile (keptF r ss) = pile (keptF r' ss) := pile_filter (fun h => rfl) e
end SH
/-! SHx: the law's own least rows; least rows drawn from. -/
namespace SH
open PySem PySem.Spec PyProof.Rows L2 DL
def Ph_law_least (rs : List R) (P : R → Prop) : Prop := ∃ (row : Row) (D : PyData), RowD D row ∧ rs = [.d D] ∧ row.length < 1000 ∧ RowIn row ∧ P (.f ((leastF row).map hookD))
def Ph_law_kept (rs : List R) (P : R → Prop) : Prop := ∃ (row : Row) (ss : List Str) (D E : PyData), RowD D row ∧ NmD E ss ∧ rs = [.d D, .d E] ∧ row.length < 1000 ∧ RowIn row ∧ P (.f ((leastF (keptF row ss)).map hookD))
/-- _law_least -/
def w_law_least : DTS := (wRet (wCall Ph_law_first (wCons (wCall Ph_law_settled (wCons (wVar 0) wNil)) wNil)))
/-- _law_kept -/
def w_law_kept : DTS := (wRet (wCall Ph_law_least (wCons (wLc (wSq (wVar 0)) (wName 2) (wAnd (wB (wBin (inD false) (wBin ixD (wVar 2) (wC (.int 0))) (wVar 1))) (wB (wBin (inD false) (wBin ixD (wVar 2) (wC (.int 1))) (wVar 1)))) (wVar 2) [2]) wNil)))
theorem r_law_least (rs : List R) (Pd : R → Prop) (h : Ph_law_least rs Pd) (hl : rs.length = 1) : w_law_least { nx := fun _ _ => Pd (.d .none), rt := fun r κ => Opt (outR κ 0 r) Pd } (rs.map some ++ List.replicate 0 none) [] := by
  obtain ⟨row, D, hD, rfl, hlen, hin, k⟩ := h
  simp [w_law_least]
  refine ⟨row, D, hD, rfl, hlen, hin, ?_⟩
  simp
  exact ⟨settledF row, _, .inl rfl, rfl, by have := settled_len row; omega, hin.settled, by unfold leastF at k; simpa using k⟩
theorem r_law_kept (rs : List R) (Pd : R → Prop) (h : Ph_law_kept rs Pd) (hl : rs.length = 2) : w_law_kept { nx := fun _ _ => Pd (.d .none), rt := fun r κ => Opt (outR κ 0 r) Pd } (rs.map some ++ List.replicate 1 none) [] := by
  obtain ⟨row, ss, D, E, hD, hE, rfl, hlen, hin, k⟩ := h
  rcases hD with rfl | rfl
  all_goals simp [w_law_kept]
  all_goals refine draw_loop (f := fun h => decide (h.1 ∈ ss) && decide (h.2.1 ∈ ss)) trivial hE hin (by omega) (fun h => rfl) ?_
  all_goals simp
  all_goals exact ⟨keptF row ss, _, .inl rfl, rfl, Nat.lt_of_le_of_lt (List.length_filter_le _ _) hlen, hin.filter, by simpa using k⟩
theorem Box.flat {N : Int} {bs : List PyData} (h : Box N bs) : bs.all flatX = true := by
  obtain ⟨x, c, n, rfl, _⟩ := h
  rfl
theorem first_mem {r : Row} {h : Hook} (m : h ∈ firstF r) : h ∈ r := by
  have e := congrFun (first_lines r) h.1
  have : h ∈ lineR h.1 (firstF r) := List.mem_filter.mpr ⟨m, t1 h⟩
  have : h ∈ linesP (firstF r) h.1 := this
  rw [e] at this
  exact (List.mem_filter.mp this).1
theorem least_mem {r : Row} {h : Hook} (m : h ∈ leastF r) : h ∈ r := settled_mem (first_mem m)
theorem least_len (r : Row) : (leastF r).length ≤ r.length := by
  unfold leastF
  rw [lines_len (first_lines (settledF r))]
  exact settled_len r
theorem RowIn.least {row : Row} (h : RowIn row) : RowIn (leastF row) := fun x hx => h x (least_mem hx)
theorem RowIn.ok {row : Row} (h : RowIn row) : RowOk row := fun x hx => ⟨(h x hx).1, (h x hx).2.1⟩
theorem drawn_len (row : Row) (ss : List Str) : (drawnF row ss).length ≤ row.length := List.length_filter_le _ _
theorem kept_len (row : Row) (ss : List Str) : (keptF row ss).length ≤ row.length := List.length_filter_le _ _
theorem drawn_two (row : Row) (ss tt bb : List Str) (h : ∀ z, z ∈ bb ↔ z ∈ ss ∨ z ∈ tt) : drawnF (drawnF row ss) tt = drawnF row bb := by
  unfold drawnF
  rw [List.filter_filter]
  refine List.filter_congr fun g _ => ?_
  have e : ∀ z, decide (z ∈ bb) = (decide (z ∈ ss) || decide (z ∈ tt)) := fun z => by
    rw [← Bool.decide_or]
    exact decide_eq_decide.mpr (h z)
  rw [e, e]
  cases decide (g.1 ∈ ss) <;> cases decide (g.1 ∈ tt) <;> cases decide (g.2.1 ∈ ss) <;> cases decide (g.2.1 ∈ tt) <;> rfl
/-- drawing from the least row is drawing from the row -/
theorem least_drawn (row : Row) (ss : List Str) : leastF (drawnF (leastF row) ss) = leastF (drawnF row ss) := least_same (drawn_same ss (pile_least row))
theorem s_temp1 {vs ks : List Nat} {we : DTE} {ρ ρ1 : Rho} {κ κ1 : Kap} {P : R → Kap → Prop} (h1 : lockC κ ks = some κ1) (h2 : lockV κ1 vs ρ = some ρ1) (h3 : we ρ1 κ1 fun r κ2 => flatR r = true ∧ Opt (unlock κ κ1 κ2) fun κ3 => P r κ3) : wTemp vs we ρ κ P := by
  refine ⟨ks, ?_⟩
  rw [h1, Opt_some, h2, Opt_some]
  exact h3
theorem drawnF_none (row : Row) : drawnF row [] = row := by
  unfold drawnF
  rw [List.filter_eq_self]
  intro a _
  rfl
theorem drawnF_all {ns : List Str} {row : Row} (h : RowOf ns row) : drawnF row ns = [] := by
  unfold drawnF
  rw [List.filter_eq_nil_iff]
  intro a ha
  simp [(h a ha).1]
theorem keptF_all {ns : List Str} {row : Row} (h : RowOf ns row) : keptF row ns = row := by
  unfold keptF
  rw [List.filter_eq_self]
  intro a ha
  simp [(h a ha).1, (h a ha).2.1]
theorem leastF_nil : leastF [] = [] := by
  have := least_len []
  exact List.length_eq_zero_iff.mp (by simpa using this)
end SH
/-! THd: held and freed ropes, by the stacks. -/
namespace SH
open PySem PySem.Spec PyProof.Rows L2 DL
theorem pw_nodup {l : List Str} (h : l.Pairwise fun x y => cs x < cs y) : l.Nodup := by
  rw [List.nodup_iff_pairwise_ne]
  exact h.imp fun q => cs_ne q
theorem strict_uniq {l l' : List Str} (h1 : l.Pairwise fun x y => cs x < cs y) (h2 : l'.Pairwise fun x y => cs x < cs y) (h : ∀ z, z ∈ l ↔ z ∈ l') : l = l' := by
  refine sorted_uniq (le := strLe) (fun {a b} p q => ?_) ((List.perm_ext_iff_of_nodup (pw_nodup h1) (pw_nodup h2)).mpr h) (h1.imp fun q => ?_) (h2.imp fun q => ?_)
  · have p := of_decide_eq_true p
    have q := of_decide_eq_true q
    exact PySem.W.str_of_cps (List.le_antisymm p q)
  · exact decide_eq_true (List.le_of_lt q)
  · exact decide_eq_true (List.le_of_lt q)
theorem ropesF_nd (row : Row) : (ropesF row).Nodup := by
  have nd : ((ropesK row).mergeSort leK).Nodup := (List.mergeSort_perm _ _).nodup_iff.mpr (ropesK_nd row)
  have e := ropesF_keys row
  have nd2 : (((ropesK row).mergeSort leK).map keyP).Nodup := by
    rw [List.nodup_iff_pairwise_ne, List.pairwise_map]
    rw [List.nodup_iff_pairwise_ne] at nd
    refine nd.imp fun {a b} ne z => ne ?_
    cases a <;> cases b <;> simp [keyP] at z ⊢ <;> exact z
  rw [e, List.nodup_iff_pairwise_ne, List.pairwise_map] at nd2
  rw [List.nodup_iff_pairwise_ne]
  exact nd2.imp fun ne z => ne (by rw [z])
theorem ropesF_names {row : Row} (h : RowIn row) : Names (ropesF row) := by
  have hn : ∀ z ∈ ropesF row, IsName z := fun z hz => by
    obtain ⟨g, hg, t⟩ := (ropesF_mem row z).mp hz
    rcases touches_iff.mp t with rfl | rfl
    · exact (h g hg).1
    · exact (h g hg).2.1
  obtain ⟨n, _⟩ := sorted_names hn (ropesF_nd row)
  have e : ropesF row = (ropesF row).mergeSort strLe := by
    refine ropesF_eq n.2 fun r => ?_
    rw [(List.mergeSort_perm _ _).mem_iff, ropesF_mem]
  rw [e]
  exact n
theorem held_ok {row : Row} (h : RowIn row) : Names (heldF row) := ropesF_names h.settled
theorem held_mem {row : Row} {z : Str} : z ∈ heldF row ↔ ∃ h ∈ settledF row, touches z h = true := ropesF_mem _ z
/-- ropes that aren't held may be drawn -/
theorem drawn_off {r : Row} {tt : List Str} (h : ∀ z ∈ tt, z ∉ heldF r) : pile (drawnF r tt) = pile r := by
  have e : drawnF (settledF r) tt = settledF r := by
    unfold drawnF
    rw [List.filter_eq_self]
    intro g hg
    have n1 : g.1 ∉ tt := fun q => h _ q (held_mem.mpr ⟨g, hg, t1 g⟩)
    have n2 : g.2.1 ∉ tt := fun q => h _ q (held_mem.mpr ⟨g, hg, t2 g⟩)
    simp [n1, n2]
  rw [← drawn_same tt (pile_settled r), e, pile_settled]
theorem held_drawn {r : Row} {tt : List Str} {z : Str} (h : z ∈ heldF (drawnF r tt)) : z ∈ heldF r ∧ z ∉ tt := by
  rw [held_same (drawn_same tt (pile_settled r)).symm] at h
  obtain ⟨g, hg, t⟩ := held_mem.mp h
  have hg := settled_mem hg
  unfold drawnF at hg
  obtain ⟨m, q⟩ := List.mem_filter.mp hg
  refine ⟨held_mem.mpr ⟨g, m, t⟩, ?_⟩
  rw [Bool.and_eq_true] at q
  rcases touches_iff.mp t with rfl | rfl
  · simpa using q.1
  · simpa using q.2
theorem held_least (r : Row) : heldF (leastF r) = heldF r := held_same (pile_least r)
theorem held_iff (r : Row) (z : Str) : z ∈ heldF r ↔ leastF (drawnF r [z]) ≠ leastF r := by
  constructor
  · intro h e
    have := held_least (drawnF r [z])
    rw [e, held_least] at this
    rw [this] at h
    exact (held_drawn h).2 (List.mem_singleton.mpr rfl)
  · intro h
    refine Classical.byContradiction fun n => h (least_same (drawn_off fun y hy => ?_))
    rw [List.mem_singleton.mp hy]
    exact n
theorem freed_mem {r : Row} {ss : List Str} {z : Str} : z ∈ freedF r ss ↔ z ∈ heldF r ∧ z ∉ ss ∧ z ∉ heldF (drawnF r ss) := by
  unfold freedF
  rw [List.mem_filter]
  simp
theorem left_loose (r : Row) (ss : List Str) : leastF (drawnF r (ss ++ freedF r ss)) = leastF (drawnF r ss) := by
  rw [← drawn_two r ss (freedF r ss) (ss ++ freedF r ss) fun z => List.mem_append]
  exact least_same (drawn_off fun z hz => (freed_mem.mp hz).2.2)
theorem kept_rest {ns : List Str} {r : Row} (h : RowOf ns r) (tt : List Str) : keptF r (ns.filter fun z => !decide (z ∈ tt)) = drawnF r tt := by
  unfold keptF drawnF
  refine List.filter_congr fun g hg => ?_
  obtain ⟨a, b, _⟩ := h g hg
  simp [List.mem_filter, a, b]
theorem freed_ok {r : Row} (h : RowIn r) (ss : List Str) : Names (freedF r ss) := by
  have n := held_ok h
  exact ⟨fun z hz => n.1 z (freed_mem.mp hz).1, n.2.sublist List.filter_sublist⟩
/-- those still held and those freed are those held that aren't drawn -/
theorem held_split {r : Row} (h : RowIn r) (ss : List Str) : (heldF (drawnF r ss) ++ freedF r ss).mergeSort strLe = (heldF r).filter fun z => !decide (z ∈ ss) := by
  have hd : RowIn (drawnF r ss) := h.filter
  have n1 := held_ok hd
  have n2 := freed_ok h ss
  have n3 := held_ok h
  have nd : (heldF (drawnF r ss) ++ freedF r ss).Nodup := by
    rw [List.nodup_append]
    exact ⟨pw_nodup n1.2, pw_nodup n2.2, fun a ha b hb e => (freed_mem.mp hb).2.2 (e ▸ ha)⟩
  have hn : ∀ z ∈ heldF (drawnF r ss) ++ freedF r ss, IsName z := fun z hz => (List.mem_append.mp hz).elim (n1.1 z) (n2.1 z)
  refine strict_uniq (sorted_names hn nd).1.2 (n3.2.sublist List.filter_sublist) fun z => ?_
  rw [(List.mergeSort_perm _ _).mem_iff, List.mem_append, List.mem_filter]
  constructor
  · rintro (q | q)
    · obtain ⟨a, b⟩ := held_drawn q
      exact ⟨a, by simpa using b⟩
    · obtain ⟨a, b, _⟩ := freed_mem.mp q
      exact ⟨a, by simpa using b⟩
  · rintro ⟨a, b⟩
    have b : z ∉ ss := by simpa using b
    by_cases q : z ∈ heldF (drawnF r ss)
    · exact .inl q
    · exact .inr (freed_mem.mpr ⟨a, b, q⟩)
/-! ### rows beside rows -/
theorem eqv_row : ∀ (x y : Row), PyData.eqvAll (x.map hookD) (y.map hookD) = decide (x = y)
  | [], [] => by simp [PyData.eqvAll]
  | [], _ :: _ => by simp [PyData.eqvAll]
  | _ :: _, [] => by simp [PyData.eqvAll]
  | a :: x, b :: y => by
    rw [List.map_cons, List.map_cons, PyData.eqvAll, eqv_hook, eqv_row x y]
    by_cases h1 : a = b <;> by_cases h2 : x = y <;> simp [h1, h2]
theorem eqD_rows (neg : Bool) {x y : Row} (h1 : RowIn x) (h2 : RowIn y) (l1 : x.length ≤ 1000000) (l2 : y.length ≤ 1000000) : eqD neg (.list (x.map hookD)) (.list (y.map hookD)) = some (.v (.bool (if neg then !decide (x = y) else decide (x = y)))) := by
  have s1 := good_shaped (good_row (n := 4) h1.ok (by rw [sizeLine_eq]; omega)) (by decide)
  have s2 := good_shaped (good_row (n := 4) h2.ok (by rw [sizeLine_eq]; omega)) (by decide)
  rw [eqD_of s1 s2, PyData.eqv, eqv_row]
end SH
/-! THf: what can be told as a text. -/
namespace SH
open PySem PySem.Spec PyProof.Rows L2 DL
/-- can be told: depth at most n, weight at most w -/
def Tell (n w : Nat) (d : PyData) : Prop := d.canLay0 = true ∧ d.depth ≤ n ∧ d.showable = true ∧ d.leavesShort 13 = true ∧ d.weight ≤ w
theorem tell_str {z : Str} (h : IsName z) : Tell 0 6 (.str z) := by
  refine ⟨SeqAt.canLay_of_shaped h.shaped, by simp [PyData.depth], by simp [PyData.showable], PyData.leavesShort_of_canLay0 13 _ (SeqAt.canLay_of_shaped h.shaped) (by simp [PyData.intsShort]), ?_⟩
  simp only [PyData.weight]
  have := h.2.1
  show z.cps.size ≤ 6
  rw [← Array.length_toList]
  exact this
theorem tell_int {i : Int} (h : i.natAbs < 2 ^ 30) : Tell 0 31 (.int i) := by
  have l : i.natAbs ≠ 0 → i.natAbs.log2 < 30 := fun q => (Nat.log2_lt q).mpr h
  refine ⟨by simp [PyData.canLay0], by simp [PyData.depth], ?_, ?_, ?_⟩
  · simp only [PyData.showable]
    refine decide_eq_true ?_
    by_cases q : i.natAbs = 0
    · rw [q]; decide
    · have := l q; omega
  · simp only [PyData.leavesShort]
    exact decide_eq_true (PyData.shown_int_le (by omega))
  · simp only [PyData.weight]
    split
    · omega
    · rename_i q
      have : i.natAbs ≠ 0 := fun e => q (by simpa using Int.natAbs_eq_zero.mp e)
      have := l this
      omega
theorem tell_all {n w : Nat} : ∀ {xs : List PyData}, (∀ x ∈ xs, Tell n w x) → PyData.canLayAll0 xs = true ∧ PyData.depthAll xs ≤ n ∧ PyData.showableAll xs = true ∧ PyData.leavesShortAll 13 xs = true ∧ PyData.weightAll xs ≤ (w + 1) * xs.length
  | [], _ => by simp [PyData.canLayAll0, PyData.depthAll, PyData.showableAll, PyData.leavesShortAll, PyData.weightAll]
  | x :: xs, h => by
    obtain ⟨a, b, c, d, e⟩ := h x (List.mem_cons_self ..)
    obtain ⟨a', b', c', d', e'⟩ := tell_all fun y hy => h y (List.mem_cons_of_mem _ hy)
    refine ⟨by simp [PyData.canLayAll0, a, a'], by simp only [PyData.depthAll]; omega, by simp [PyData.showableAll, c, c'], by simp [PyData.leavesShortAll, d, d'], ?_⟩
    simp only [PyData.weightAll, List.length_cons, Nat.mul_add, Nat.mul_one]
    omega
theorem tell_list {n w : Nat} {xs : List PyData} (h : ∀ x ∈ xs, Tell n w x) : Tell (n + 1) ((w + 1) * xs.length) (.list xs) := by
  obtain ⟨a, b, c, d, e⟩ := tell_all h
  exact ⟨by simpa [PyData.canLay0] using a, by simp only [PyData.depth]; omega, by simpa [PyData.showable] using c, by simpa [PyData.leavesShort] using d, by simpa [PyData.weight] using e⟩
theorem tell_tuple {n w : Nat} {xs : List PyData} (h : ∀ x ∈ xs, Tell n w x) : Tell (n + 1) ((w + 1) * xs.length) (.tuple xs) := by
  obtain ⟨a, b, c, d, e⟩ := tell_all h
  exact ⟨by simpa [PyData.canLay0] using a, by simp only [PyData.depth]; omega, by simpa [PyData.showable] using c, by simpa [PyData.leavesShort] using d, by simpa [PyData.weight] using e⟩
theorem Tell.mono {n w n' w' : Nat} {d : PyData} (h : Tell n w d) (h1 : n ≤ n') (h2 : w ≤ w') : Tell n' w' d := ⟨h.1, by have := h.2.1; omega, h.2.2.1, h.2.2.2.1, by have := h.2.2.2.2; omega⟩
theorem Tell.text {n w : Nat} {xs : List PyData} (h : Tell n w (.list xs)) (h1 : n ≤ 100) (h2 : w ≤ 2 ^ 20) : TextOk (.list xs) :=
  ⟨h.2.2.1, h.1, by have := h.2.1; omega, PyData.shown_fits (B := 13) (by decide) (by decide) h.2.2.2.1 (by have := h.2.2.2.2; omega), .inl ⟨_, rfl⟩⟩
theorem tell_hook {h : Hook} (a : IsName h.1) (b : IsName h.2.1) (c : h.2.2.natAbs < 2 ^ 30) : Tell 1 96 (hookD h) := by
  refine (tell_tuple (n := 0) (w := 31) fun x hx => ?_).mono (by omega) (by simp)
  rcases List.mem_cons.mp hx with rfl | hx
  · exact (tell_str a).mono (by omega) (by omega)
  rcases List.mem_cons.mp hx with rfl | hx
  · exact (tell_str b).mono (by omega) (by omega)
  rw [List.mem_singleton.mp hx]
  exact tell_int c
theorem tell_row {ns : List Str} {r : Row} (hn : Names ns) (hr : RowOf ns r) (hl : r.length ≤ 1000) : Tell 2 97000 (.list (r.map hookD)) := by
  refine (tell_list (n := 1) (w := 96) fun x hx => ?_).mono (by omega) (by rw [List.length_map]; omega)
  obtain ⟨h, hh, rfl⟩ := List.mem_map.mp hx
  have a := hr h hh
  refine tell_hook (hn.1 _ a.1) (hn.1 _ a.2.1) ?_
  rcases a.2.2.2 with e | e <;> rw [e] <;> decide
theorem text_row {ns : List Str} {r : Row} (hn : Names ns) (hr : RowOf ns r) (hl : r.length ≤ 1000) : TextOk (.list (r.map hookD)) := (tell_row hn hr hl).text (by omega) (by decide)
theorem text_rows {ns : List Str} {rs : List Row} (hn : Names ns) (hr : ∀ r ∈ rs, RowOf ns r ∧ r.length ≤ 1000) (hl : rs.length ≤ 10) : TextOk (.list (rs.map fun r => .list (r.map hookD))) := by
  refine Tell.text (n := 3) (w := 97001 * 10) ((tell_list (n := 2) (w := 97000) fun x hx => ?_).mono (by omega) ?_) (by omega) (by decide)
  · obtain ⟨r, h, rfl⟩ := List.mem_map.mp hx
    exact tell_row hn (hr r h).1 (hr r h).2
  · rw [List.length_map]; exact Nat.mul_le_mul_left _ hl
end SH
/-! SHy: alike; who is met; truths beside truths. -/
namespace SH
open PySem PySem.Spec PyProof.Rows L2 DL
def Ph_alike (rs : List R) (P : R → Prop) : Prop := ∃ (r q : Row) (D E : PyData), RowD D r ∧ RowD E q ∧ rs = [.d D, .d E] ∧ r.length ≤ 1000000 ∧ q.length ≤ 1000000 ∧ RowIn r ∧ RowIn q ∧ P (.d (.bool (decide (leastF r = leastF q))))
/-- alike -/
def w_alike : DTS := (wRet (wBin (eqD false) (wCall Ph_least (wCons (wVar 0) wNil)) (wCall Ph_least (wCons (wVar 1) wNil))))
theorem r_alike (rs : List R) (Pd : R → Prop) (h : Ph_alike rs Pd) (hl : rs.length = 2) : w_alike { nx := fun _ _ => Pd (.d .none), rt := fun r κ => Opt (outR κ 0 r) Pd } (rs.map some ++ List.replicate 0 none) [] := by
  obtain ⟨r, q, D, E, hD, hE, rfl, l1, l2, i1, i2, k⟩ := h
  have m1 := least_len r
  have m2 := least_len q
  have e := eqD_rows false i1.least i2.least (by omega) (by omega)
  simp [w_alike]
  refine ⟨r, D, hD, rfl, l1, i1, ?_⟩
  simp
  refine ⟨q, E, hE, rfl, l2, i2, ?_⟩
  simp [e]
  exact k
theorem bools_f {α : Type} (f : α → Bool) : ∀ xs : List α, bools (xs.map fun x => .bool (f x)) = some (xs.map f)
  | [] => rfl
  | x :: xs => by
    rw [List.map_cons]
    unfold bools
    rw [bools_f f xs]
    rfl
theorem any_f {α : Type} (f : α → Bool) (xs : List α) : allC (fun bs => bs.any id) [.list (xs.map fun x => .bool (f x))] = some (.v (.bool (xs.any f))) := by
  unfold allC
  simp only [bools_f, Option.map_some]
  rw [List.any_map]
  rfl
theorem all_f {α : Type} (f : α → Bool) (xs : List α) : allC (fun bs => bs.all id) [.list (xs.map fun x => .bool (f x))] = some (.v (.bool (xs.all f))) := by
  unfold allC
  simp only [bools_f, Option.map_some]
  rw [List.all_map]
  rfl
def Ph_law_met (rs : List R) (P : R → Prop) : Prop := ∃ (ss tt : List Str) (D E : PyData), NmD D ss ∧ NmD E tt ∧ rs = [.d D, .d E] ∧ ss.length ≤ 1000000 ∧ P (.d (.bool (ss.any fun z => decide (z ∈ tt))))
/-- _law_met -/
def w_law_met : DTS := (wRet (wCB (allC fun bs => bs.any id) (wCons (wLc (wSq (wVar 0)) (wName 2) wYes (wBin (inD false) (wVar 2) (wVar 1)) [2]) wNil)))
theorem r_law_met (rs : List R) (Pd : R → Prop) (h : Ph_law_met rs Pd) (hl : rs.length = 2) : w_law_met { nx := fun _ _ => Pd (.d .none), rt := fun r κ => Opt (outR κ 0 r) Pd } (rs.map some ++ List.replicate 1 none) [] := by
  obtain ⟨ss, tt, D, E, hD, hE, rfl, l1, k⟩ := h
  have fin : ∀ {ok : Kap → Prop} {κ : Kap}, ok κ → lcL ok (wName 2) wYes (wBin (inD false) (wVar 2) (wVar 1)) [some (.d D), some (.d E), none]
      (fun r κ1 => Opt (vals κ1 [r.st]) fun xs => Opt (allC (fun bs => bs.any id) xs) fun o => Opt (outR κ1 0 o.r) Pd) (ss.map .str) [] κ := fun {ok κ} hok => by
    refine lc_map PyData.str (fun z => .bool (decide (z ∈ tt))) hok ss [] (by rw [sizeLine_eq, List.length_nil]; omega) (fun z hz C hC => ?_) ?_
    · have e := in_names false hE (hD.2 z hz)
      simp [e]
      exact hC
    · have e := any_f (fun z => decide (z ∈ tt)) ss
      simp [e]
      simpa using k
  unfold w_law_met
  obtain ⟨hD1, hD2⟩ := hD
  rcases hD1 with rfl | rfl
  all_goals simp only [s_ret, s_cb, s_cons, s_nil, s_lc, s_sq, s_var, List.map_cons, List.map_nil, List.replicate_succ, List.replicate_zero, List.cons_append, List.nil_append, List.getElem?_cons_zero, st_d, val_d, Opt_some]
  all_goals exact fin trivial
theorem eqD_bl (neg a b : Bool) : eqD neg (.bool a) (.bool b) = some (.v (.bool (if neg then a != b else a == b))) := by
  have sh : ∀ c : Bool, SeqAt.shaped (.bool c) = true := fun c => by unfold SeqAt.shaped PyData.canLay0; simp [PyData.depth]
  rw [eqD_of (sh a) (sh b), PyData.eqv]
  cases neg <;> cases a <;> cases b <;> rfl
theorem least_least (r : Row) : leastF (leastF r) = leastF r := least_same (pile_least r)
end SH
/-! DLt: a < b < c. -/
namespace DL
open PySem PySem.Spec PyProof.Rows L2
def wChain (g g' : PyData → PyData → Option Out) (wa wb wc : DTE) : DTE := fun ρ κ P => wa ρ κ fun r1 κ1 => wb ρ κ1 fun r2 κ2 => Opt (val κ2 r1.st) fun x => Opt (val κ2 r2.st) fun y => Opt (g x y) fun o => match o with
  | .v (.bool z) => if z = true then wc ρ κ2 fun r3 κ3 => Opt (val κ3 r2.st) fun y' => Opt (val κ3 r3.st) fun u => Opt (g' y' u) fun o' => P o'.r κ3 else P (.d (.bool false)) κ2
  | _ => False
section
variable {X : Cx} {a b c : Expr} {wa wb wc : DTE} {pos : Pos}
theorem chain_reads {ta tb tc : TE} {r2 r2' : R2} {g g' : PyData → PyData → Option Out} (hg : OpD X.K r2 g) (hg' : OpD X.K r2' g')
    (ha : ∀ (G H : Hp) (As : List Addr) (σ : L2.St) (ρ : Rho) (κ : Kap) (P : R → Kap → Prop) (Q : VK), Cells X.K G H As κ → Places X.K G As σ ρ → wa ρ κ P → (∀ v r G' H' As' κ', Step G H As G' H' As' → Cells X.K G' H' As' κ' → Places X.K G' As' σ ρ → Rv X.K H G' H' As' v r → P r κ' → Q v H') → ta σ H Q)
    (hb : ∀ (G H : Hp) (As : List Addr) (σ : L2.St) (ρ : Rho) (κ : Kap) (P : R → Kap → Prop) (Q : VK), Cells X.K G H As κ → Places X.K G As σ ρ → wb ρ κ P → (∀ v r G' H' As' κ', Step G H As G' H' As' → Cells X.K G' H' As' κ' → Places X.K G' As' σ ρ → Rv X.K H G' H' As' v r → P r κ' → Q v H') → tb σ H Q)
    (hc : ∀ (G H : Hp) (As : List Addr) (σ : L2.St) (ρ : Rho) (κ : Kap) (P : R → Kap → Prop) (Q : VK), Cells X.K G H As κ → Places X.K G As σ ρ → wc ρ κ P → (∀ v r G' H' As' κ', Step G H As G' H' As' → Cells X.K G' H' As' κ' → Places X.K G' As' σ ρ → Rv X.K H G' H' As' v r → P r κ' → Q v H') → tc σ H Q)
    (G H : Hp) (As : List Addr) (σ : L2.St) (ρ : Rho) (κ : Kap) (P : R → Kap → Prop) (Q : VK) (cl : Cells X.K G H As κ) (p : Places X.K G As σ ρ) (w : wChain g g' wa wb wc ρ κ P)
    (k : ∀ v r G' H' As' κ', Step G H As G' H' As' → Cells X.K G' H' As' κ' → Places X.K G' As' σ ρ → Rv X.K H G' H' As' v r → P r κ' → Q v H') : tChain r2 r2' ta tb tc σ H Q := by
  refine ha G H As σ ρ κ _ _ cl p w fun v1 r1 G1 H1 As1 κ1 s1 c1 p1 i1 w1 => ?_
  obtain ⟨G1', s1', c1', p1', i1', _⟩ := settle s1 c1 p1 i1
  refine hb G1' H1 As1 σ ρ κ1 _ _ c1' p1' w1 fun v2 r2 G2 H2 As2 κ2 s2 c2 p2 i2 w2 => ?_
  obtain ⟨G2', s2', c2', p2', i2', _⟩ := settle s2 c2 p2 i2
  obtain ⟨x, ex, w2⟩ := w2.ex
  obtain ⟨y, ey, w2⟩ := w2.ex
  obtain ⟨o, eo, w2⟩ := w2.ex
  have st := s1'.trans s2'
  cases o with
  | v d =>
    cases d with
    | bool z =>
      refine hg G2' H2 v1 v2 x y (.v (.bool z)) _ c2'.ext ((s2'.it i1').vw c2' ex) (i2'.vw c2' ey) eo ?_
      refine fun u hu => ?_
      cases hu
      refine ⟨z, rfl, ?_⟩
      cases z with
      | false =>
        dsimp only at w2
        rw [if_neg (by decide)] at w2 ⊢
        exact k _ (.d (.bool false)) G2' H2 As2 κ2 st c2' (p.step st) (.bl false) w2
      | true =>
        dsimp only at w2
        rw [if_pos rfl] at w2 ⊢
        refine hc G2' H2 As2 σ ρ κ2 _ _ c2' p2' w2 fun v3 r3 G3 H3 As3 κ3 s3 c3 p3 i3 w3 => ?_
        obtain ⟨G3', s3', c3', p3', i3', _⟩ := settle s3 c3 p3 i3
        obtain ⟨y', ey', w3⟩ := w3.ex
        obtain ⟨u, eu, w3⟩ := w3.ex
        obtain ⟨o', eo', w3⟩ := w3.ex
        exact hg' G3' H3 v2 v3 y' u o' Q c3'.ext ((s3'.it i2').vw c3' ey') (i3'.vw c3' eu) eo' (out_ok (st.trans s3') c3' (p.step (st.trans s3')) o' w3 k)
    | _ => exact w2.elim
  | _ => exact w2.elim
theorem de_chain {op op' : CmpOp} {r2 r2' : R2} {g g' : PyData → PyData → Option Out} (ho : OpR X (compareOp op) r2) (hg : OpD X.K r2 g) (ho' : OpR X (compareOp op') r2') (hg' : OpD X.K r2' g') (ha : DE X a wa) (hb : DE X b wb) (hc : DE X c wc)
    (hm : lastMarks [op, op'] [b, c] = false := by with_unfolding_all rfl) : DE X (.Compare a [op, op'] [b, c] pos) (wChain g g' wa wb wc) := by
  obtain ⟨ta, pa, ha⟩ := ha
  obtain ⟨tb, pb, hb⟩ := hb
  obtain ⟨tc, pc, hc⟩ := hc
  exact ⟨_, pe_chain ho ho' pa pb pc hm, chain_reads hg hg' ha hb hc⟩
theorem dt_chain {op op' : CmpOp} {r2 r2' : R2} {g g' : PyData → PyData → Option Out} (ho : OpR X (compareOp op) r2) (hg : OpD X.K r2 g) (ho' : OpR X (compareOp op') r2') (hg' : OpD X.K r2' g') (ha : DE X a wa) (hb : DE X b wb) (hc : DE X c wc)
    (hm : lastMarks [op, op'] [b, c] = false := by with_unfolding_all rfl) : DT X (.Compare a [op, op'] [b, c] pos) (wB (wChain g g' wa wb wc)) := by
  obtain ⟨ta, pa, ha⟩ := ha
  obtain ⟨tb, pb, hb⟩ := hb
  obtain ⟨tc, pc, hc⟩ := hc
  refine ⟨_, pt_chain ho ho' pa pb pc hm, fun G H As σ ρ κ P Q c p w k => ?_⟩
  refine chain_reads hg hg' ha hb hc G H As σ ρ κ _ _ c p w fun v r G1 H1 As1 κ1 s1 c1 p1 i1 w1 => ?_
  cases r with
  | d x =>
    cases x with
    | bool z =>
      have i1 : Rp X.K G1 v (.bool z) := i1
      cases i1
      exact ⟨z, rfl, k z G1 H1 As1 κ1 s1 c1 p1 w1⟩
    | _ => exact w1.elim
  | _ => exact w1.elim
end
end DL
/-! THe: steps of rows: comings, changes, goings. -/
namespace SH
open PySem PySem.Spec PyProof.Rows L2 DL
theorem pile_come (u v : Row) (h : Hook) : pile (u ++ h :: turned h :: v) = pile (u ++ v) := by
  rw [pile_app, pile_app]
  show acts v (act (turned h) (act h (pile u))) = _
  rw [cancel]
theorem pile_swap {x y : Hook} (e : hits x y = false) (u v : Row) : pile (u ++ y :: x :: v) = pile (u ++ x :: y :: v) := by
  rw [pile_app, pile_app]
  show acts v (act x (act y (pile u))) = acts v (act y (act x (pile u)))
  rw [act_comm e]
theorem pile_back : ∀ (r u v : Row), pile (u ++ r ++ back r ++ v) = pile (u ++ v)
  | [], u, v => by simp [back]
  | h :: r, u, v => by
    have e : u ++ h :: r ++ back (h :: r) ++ v = (u ++ [h]) ++ r ++ back r ++ (turned h :: v) := by simp [back]
    rw [e, pile_back r (u ++ [h]) (turned h :: v)]
    have e2 : u ++ [h] ++ turned h :: v = u ++ h :: turned h :: v := by simp
    rw [e2, pile_come]
theorem back_back (r : Row) : back (back r) = r := by
  unfold back
  rw [← List.map_reverse, List.reverse_reverse, List.map_map]
  have : (turned ∘ turned) = id := funext fun h => turned2 h
  rw [this, List.map_id]
theorem back_app (r q : Row) : back (r ++ q) = back q ++ back r := by simp [back]
inductive StepT where
  | come (a : Int) (h : Hook)
  | change (a : Int)
  | go (a : Int)
def StepT.at : StepT → Int
  | .come a _ => a
  | .change a => a
  | .go a => a
def StepT.word : StepT → Str
  | .come _ _ => "come"
  | .change _ => "change"
  | .go _ => "go"
def stepD : StepT → PyData
  | .come a h => .tuple [.str "come", .int a, hookD h]
  | .change a => .tuple [.str "change", .int a]
  | .go a => .tuple [.str "go", .int a]
def two (r : Row) (a : Int) (f : Hook → Hook → Bool) : Bool := decide (0 ≤ a) && (decide (a < (r.length : Int) - 1) && (match r.drop a.toNat with
  | x :: y :: _ => f x y
  | _ => false))
def canF (r : Row) : StepT → Bool
  | .come a _ => decide (0 ≤ a) && decide (a ≤ (r.length : Int))
  | .change a => two r a fun x y => !hits x y
  | .go a => two r a fun x y => decide (y = turned x)
def goneF (r : Row) : StepT → Row
  | .come a h => r.take a.toNat ++ (h :: turned h :: r.drop a.toNat)
  | .change a => r.take a.toNat ++ (match r.drop a.toNat with
    | x :: y :: v => y :: x :: v
    | v => v)
  | .go a => r.take a.toNat ++ r.drop (a.toNat + 2)
theorem two_split {r : Row} {a : Int} {f : Hook → Hook → Bool} (h0 : 0 ≤ a) (h1 : a < (r.length : Int) - 1) : ∃ (n : Nat) (u v : Row) (x y : Hook), a = (n : Int) ∧ u.length = n ∧ r = u ++ x :: y :: v ∧ two r a f = f x y := by
  obtain ⟨n, rfl⟩ := Int.eq_ofNat_of_zero_le h0
  have ln : n + 2 ≤ r.length := by omega
  have e := List.take_append_drop n r
  have l1 : (r.take n).length = n := by rw [List.length_take]; omega
  have l2 : (r.drop n).length = r.length - n := List.length_drop ..
  cases hd : r.drop n with
  | nil => rw [hd] at l2; simp at l2; omega
  | cons x w =>
    cases w with
    | nil => rw [hd] at l2; simp at l2; omega
    | cons y v =>
      refine ⟨n, r.take n, v, x, y, rfl, l1, by rw [← hd]; exact e.symm, ?_⟩
      unfold two
      rw [Int.toNat_natCast, hd, decide_eq_true h0, decide_eq_true h1]
      rfl
theorem two_no {r : Row} {a : Int} {f : Hook → Hook → Bool} (h : ¬ (0 ≤ a ∧ a < (r.length : Int) - 1)) : two r a f = false := by
  unfold two
  by_cases c : 0 ≤ a
  · rw [decide_eq_false (fun q => h ⟨c, q⟩)]; simp
  · rw [decide_eq_false c]; rfl
theorem drop_at {α : Type} (u v : List α) {n : Nat} (h : u.length = n) : (u ++ v).drop n = v ∧ (u ++ v).take n = u := by
  rw [← h]
  exact ⟨List.drop_left .., List.take_left ..⟩
/-- a step leads to a row alike -/
theorem pile_gone {r : Row} {s : StepT} (h : canF r s = true) : pile (goneF r s) = pile r := by
  cases s with
  | come a g =>
    show pile (r.take a.toNat ++ g :: turned g :: r.drop a.toNat) = _
    rw [pile_come, List.take_append_drop]
  | change a =>
    by_cases c : 0 ≤ a ∧ a < (r.length : Int) - 1
    · obtain ⟨n, u, v, x, y, rfl, hu, rfl, e⟩ := two_split (f := fun x y => !hits x y) c.1 c.2
      have hh : (!hits x y) = true := e.symm.trans h
      have nh : hits x y = false := by simpa using hh
      show pile ((u ++ x :: y :: v).take n ++ (match (u ++ x :: y :: v).drop n with
        | x :: y :: v => y :: x :: v
        | v => v)) = _
      rw [(drop_at u _ hu).1, (drop_at u _ hu).2]
      exact pile_swap nh u v
    · have := two_no (f := fun x y => !hits x y) c
      rw [canF, this] at h
      cases h
  | go a =>
    by_cases c : 0 ≤ a ∧ a < (r.length : Int) - 1
    · obtain ⟨n, u, v, x, y, rfl, hu, rfl, e⟩ := two_split (f := fun x y => decide (y = turned x)) c.1 c.2
      have hh : y = turned x := of_decide_eq_true (e.symm.trans h)
      subst hh
      show pile ((u ++ x :: turned x :: v).take n ++ (u ++ x :: turned x :: v).drop (n + 2)) = _
      rw [(drop_at u _ hu).2, ← List.drop_drop, (drop_at u _ hu).1]
      exact (pile_come u v x).symm
    · have := two_no (f := fun x y => decide (y = turned x)) c
      rw [canF, this] at h
      cases h
theorem gone_len {r : Row} {s : StepT} (h : canF r s = true) : (goneF r s).length ≤ r.length + (match s with
    | .come _ _ => 2
    | _ => 0) := by
  cases s with
  | come a g =>
    have := List.take_append_drop a.toNat r
    have e : (r.take a.toNat).length + (r.drop a.toNat).length = r.length := by rw [← List.length_append, this]
    simp [goneF]
    simp at e
    omega
  | change a =>
    by_cases c : 0 ≤ a ∧ a < (r.length : Int) - 1
    · obtain ⟨n, u, v, x, y, rfl, hu, rfl, e⟩ := two_split (f := fun x y => !hits x y) c.1 c.2
      show ((u ++ x :: y :: v).take n ++ (match (u ++ x :: y :: v).drop n with
        | x :: y :: v => y :: x :: v
        | v => v)).length ≤ _
      rw [(drop_at u _ hu).1, (drop_at u _ hu).2]
      simp
    · have := two_no (f := fun x y => !hits x y) c
      rw [canF, this] at h
      cases h
  | go a =>
    show (r.take a.toNat ++ r.drop (a.toNat + 2)).length ≤ _
    rw [List.length_append, List.length_take, List.length_drop]
    simp
    omega
theorem gone_of {ns : List Str} {r : Row} {s : StepT} (hr : RowOf ns r) (hs : ∀ a h, s = .come a h → HookOf ns h) : RowOf ns (goneF r s) := by
  have ht : ∀ n : Nat, RowOf ns (r.take n) := fun n x hx => hr x (List.mem_of_mem_take hx)
  have hd : ∀ n : Nat, RowOf ns (r.drop n) := fun n x hx => hr x (List.mem_of_mem_drop hx)
  cases s with
  | come a g =>
    have hg := hs a g rfl
    refine (ht _).app fun x hx => ?_
    rcases List.mem_cons.mp hx with rfl | hx
    · exact hg
    rcases List.mem_cons.mp hx with rfl | hx
    · exact hg.turn
    · exact hd _ x hx
  | change a =>
    refine (ht _).app fun x hx => ?_
    have hD := hd a.toNat
    revert hx
    split
    · rename_i e
      intro hx
      rw [e] at hD
      refine hD x ?_
      rcases List.mem_cons.mp hx with rfl | hx
      · simp
      rcases List.mem_cons.mp hx with rfl | hx
      · simp
      · simp [hx]
    · intro hx
      exact hD x hx
  | go a => exact (ht _).app (hd _)
end SH
/-! SHz: steps of rows, rows alike by steps, rows with one thing otherwise. -/
namespace SH
open PySem PySem.Spec PyProof.Rows L2 DL
@[simp] theorem s_chain (g g' : PyData → PyData → Option Out) (wa wb wc : DTE) (ρ : Rho) (κ : Kap) (P : R → Kap → Prop) : wChain g g' wa wb wc ρ κ P = wa ρ κ fun r1 κ1 => wb ρ κ1 fun r2 κ2 => Opt (val κ2 r1.st) fun x => Opt (val κ2 r2.st) fun y => Opt (g x y) fun o => match o with
  | .v (.bool z) => if z = true then wc ρ κ2 fun r3 κ3 => Opt (val κ3 r2.st) fun y' => Opt (val κ3 r3.st) fun u => Opt (g' y' u) fun o' => P o'.r κ3 else P (.d (.bool false)) κ2
  | _ => False := rfl
theorem eqD_ss (neg : Bool) (a b : Str) : eqD neg (.str a) (.str b) = some (.v (.bool (if neg then !decide (a = b) else decide (a = b)))) := rfl
theorem words : ("come" : Str) ≠ "go" ∧ ("change" : Str) ≠ "come" ∧ ("change" : Str) ≠ "go" ∧ ("go" : Str) ≠ "come" := by decide +kernel
theorem word_c (a : Int) (h : Hook) : ((StepT.come a h).word = "come") = True ∧ ((StepT.come a h).word = "go") = False := ⟨by simp [StepT.word], eq_false words.1⟩
theorem word_h (a : Int) : ((StepT.change a).word = "come") = False ∧ ((StepT.change a).word = "go") = False := ⟨eq_false words.2.1, eq_false words.2.2.1⟩
theorem word_g (a : Int) : ((StepT.go a).word = "come") = False ∧ ((StepT.go a).word = "go") = True := ⟨eq_false words.2.2.2, by simp [StepT.word]⟩
theorem step_ix (s : StepT) : ixD (stepD s) (.int 0) = some (.v (.str s.word)) ∧ ixD (stepD s) (.int 1) = some (.v (.int s.at)) := by
  cases s <;> exact ⟨ixD_tuple rfl, ixD_tuple rfl⟩
theorem row_ix {u v : Row} {x y : Hook} {n : Nat} (h : u.length = n) : ixD (.list ((u ++ x :: y :: v).map hookD)) (.int (n : Int)) = some (.v (hookD x)) ∧ ixD (.list ((u ++ x :: y :: v).map hookD)) (.int ((n : Int) + 1)) = some (.v (hookD y)) := by
  constructor
  · refine ixD_list (atI_nat (j := n) ?_)
    rw [List.getElem?_map, List.getElem?_append_right (by omega), h, Nat.sub_self]
    rfl
  · have : ((n : Int) + 1) = ((n + 1 : Nat) : Int) := by omega
    rw [this]
    refine ixD_list (atI_nat (j := n + 1) ?_)
    rw [List.getElem?_map, List.getElem?_append_right (by omega), h, Nat.add_sub_cancel_left]
    rfl
theorem hits_in (x y : Hook) : hits x y = (decide (x.1 ∈ [y.1, y.2.1]) || decide (x.2.1 ∈ [y.1, y.2.1])) := by
  unfold hits touches
  have e : ∀ a b : Str, decide (a = b) = decide (b = a) := fun a b => by
    by_cases q : a = b
    · rw [decide_eq_true q, decide_eq_true q.symm]
    · rw [decide_eq_false q, decide_eq_false fun p => q p.symm]
  simp [Bool.decide_or, e]
def Ph_law_can (rs : List R) (P : R → Prop) : Prop := ∃ (row : Row) (s : StepT), RowIn row ∧ row.length ≤ 1000 ∧ rs = [.d (.list (row.map hookD)), .d (stepD s)] ∧ P (.d (.bool (canF row s)))
/-- _law_can -/
def w_law_can : DTS := (wSeq (wSet false 2 (wBin ixD (wVar 1) (wC (.int 1))))
  (wSeq (wIfS (wB (wBin (eqD false) (wBin ixD (wVar 1) (wC (.int 0))) (wC (.str "come")))) (wRet (wChain (ciD leI) (ciD leI) (wC (.int 0)) (wVar 2) (wCB lenD (wCons (wVar 0) wNil)))) wNext)
  (wSeq (wIfS (wNot (wB (wChain (ciD leI) (ordD ltI ltS) (wC (.int 0)) (wVar 2) (wBin subD (wCB lenD (wCons (wVar 0) wNil)) (wC (.int 1)))))) (wRet (wC (.bool false))) wNext)
  (wSeq (wPar 3 4 (wConsM false (wBin ixD (wVar 0) (wVar 2)) (wConsM false (wBin ixD (wVar 0) (wBin addD (wVar 2) (wC (.int 1)))) wNil)))
  (wSeq (wIfS (wB (wBin (eqD false) (wBin ixD (wVar 1) (wC (.int 0))) (wC (.str "go")))) (wRet (wBin (eqD false) (wVar 4) (wTup (wCons (wBin ixD (wVar 3) (wC (.int 0))) (wCons (wBin ixD (wVar 3) (wC (.int 1))) (wCons (wUn negD (wBin ixD (wVar 3) (wC (.int 2)))) wNil)))))) wNext)
  (wRet (wAndV (wBin (inD true) (wBin ixD (wVar 3) (wC (.int 0))) (wSl (wVar 4) wNoP (wP (wC (.int 2))))) (wBin (inD true) (wBin ixD (wVar 3) (wC (.int 1))) (wSl (wVar 4) wNoP (wP (wC (.int 2))))))))))))
theorem ix_hook2 (h : Hook) : ixD (hookD h) (.int 2) = some (.v (.int h.2.2)) := ixD_tuple (atI_nat (j := 2) rfl)
theorem cut_hook (h : Hook) : slD (hookD h) none (some 2) = some (.t [.str h.1, .str h.2.1]) := by
  unfold hookD
  rw [slD_tuple, show ((2 : Int)) = ((2 : Nat) : Int) from rfl, cut_take]
  rfl
theorem r_law_can (rs : List R) (Pd : R → Prop) (h : Ph_law_can rs Pd) (hl : rs.length = 2) : w_law_can { nx := fun _ _ => Pd (.d .none), rt := fun r κ => Opt (outR κ 0 r) Pd } (rs.map some ++ List.replicate 3 none) [] := by
  obtain ⟨row, s, hin, l1, rfl, k⟩ := h
  clear hl
  obtain ⟨i0, i1⟩ := step_ix s
  have mid : ∀ f : Hook → Hook → Bool, (s.word = "come") = False → canF row s = two row s.at f →
      (∀ (n : Nat) (u v : Row) (x y : Hook), s.at = (n : Int) → u.length = n → row = u ++ x :: y :: v → Pd (.d (.bool (f x y))) →
        (wSeq (wIfS (wB (wBin (eqD false) (wBin ixD (wVar 1) (wC (.int 0))) (wC (.str "go")))) (wRet (wBin (eqD false) (wVar 4) (wTup (wCons (wBin ixD (wVar 3) (wC (.int 0))) (wCons (wBin ixD (wVar 3) (wC (.int 1))) (wCons (wUn negD (wBin ixD (wVar 3) (wC (.int 2)))) wNil)))))) wNext)
  (wRet (wAndV (wBin (inD true) (wBin ixD (wVar 3) (wC (.int 0))) (wSl (wVar 4) wNoP (wP (wC (.int 2))))) (wBin (inD true) (wBin ixD (wVar 3) (wC (.int 1))) (wSl (wVar 4) wNoP (wP (wC (.int 2)))))))) { nx := fun _ _ => Pd (.d .none), rt := fun r κ => Opt (outR κ 0 r) Pd } [some (.d (.list (row.map hookD))), some (.d (stepD s)), some (.d (.int s.at)), some (.d (hookD x)), some (.d (hookD y))] []) →
      w_law_can { nx := fun _ _ => Pd (.d .none), rt := fun r κ => Opt (outR κ 0 r) Pd } [some (.d (.list (row.map hookD))), some (.d (stepD s)), none, none, none] [] := fun f hw hc hm => by
    unfold w_law_can
    generalize hW : (wSeq (wIfS (wB (wBin (eqD false) (wBin ixD (wVar 1) (wC (.int 0))) (wC (.str "go")))) (wRet (wBin (eqD false) (wVar 4) (wTup (wCons (wBin ixD (wVar 3) (wC (.int 0))) (wCons (wBin ixD (wVar 3) (wC (.int 1))) (wCons (wUn negD (wBin ixD (wVar 3) (wC (.int 2)))) wNil)))))) wNext)
  (wRet (wAndV (wBin (inD true) (wBin ixD (wVar 3) (wC (.int 0))) (wSl (wVar 4) wNoP (wP (wC (.int 2))))) (wBin (inD true) (wBin ixD (wVar 3) (wC (.int 1))) (wSl (wVar 4) wNoP (wP (wC (.int 2)))))))) = W at hm ⊢
    by_cases c : 0 ≤ s.at ∧ s.at < (row.length : Int) - 1
    · obtain ⟨n, u, v, x, y, e, hu, rfl, ef⟩ := two_split (f := f) c.1 c.2
      obtain ⟨r0, r1⟩ := row_ix (v := v) (x := x) (y := y) hu
      have c1 : leI 0 (n : Int) = true := decide_eq_true (by omega)
      have c2 : ltI (n : Int) (((u ++ x :: y :: v).length : Int) - 1) = true := decide_eq_true (by rw [← e]; exact c.2)
      rw [hc, ef] at k
      have hm := hm n u v x y e hu rfl k
      rw [e] at i1 hm
      simp only [s_seq, s_set, s_if, s_B, s_not, s_bin, s_chain, s_par, s_consM, s_nil, s_cons, s_cb, s_var, s_c, s_next, List.getElem?_cons_succ, List.getElem?_cons_zero, List.set_cons_succ, List.set_cons_zero, st_d, val_d, Opt_some, i0, i1, out_v, sto_d, vals_cons, vals_nil, lenD_list, List.length_map, subD_int, addD_int, ciD_int, ordD_int, c1, c2, r0, r1, eqD_ss, hw, if_true, if_false, decide_false, Bool.false_eq_true, Bool.not_true]
      exact hm
    · rw [hc, two_no c] at k
      have c12 : ¬ (leI 0 s.at = true ∧ ltI s.at ((row.length : Int) - 1) = true) := fun q => c ⟨of_decide_eq_true q.1, of_decide_eq_true q.2⟩
      simp only [s_seq, s_set, s_if, s_B, s_not, s_bin, s_chain, s_par, s_consM, s_nil, s_cons, s_cb, s_var, s_c, s_next, List.getElem?_cons_succ, List.getElem?_cons_zero, List.set_cons_succ, List.set_cons_zero, st_d, val_d, Opt_some, i0, i1, out_v, sto_d, vals_cons, vals_nil, lenD_list, List.length_map, subD_int, addD_int, ciD_int, ordD_int, eqD_ss, hw, if_true, if_false, decide_false, Bool.false_eq_true]
      cases q1 : leI 0 s.at with
      | false =>
        simp [q1]
        exact k
      | true =>
        cases q2 : ltI s.at ((row.length : Int) - 1) with
        | true => exact (c12 ⟨q1, q2⟩).elim
        | false =>
          simp [q1, q2]
          exact k
  simp only [List.map_cons, List.map_nil, List.replicate_succ, List.replicate_zero, List.cons_append, List.nil_append]
  cases s with
  | come a h =>
    have e : (StepT.come a h).at = a := rfl
    rw [e] at i1
    unfold w_law_can
    simp only [s_seq, s_set, s_if, s_B, s_bin, s_chain, s_nil, s_cons, s_cb, s_var, s_c, s_ret, List.getElem?_cons_succ, List.getElem?_cons_zero, List.set_cons_succ, List.set_cons_zero, st_d, val_d, Opt_some, i0, i1, out_v, sto_d, vals_cons, vals_nil, lenD_list, List.length_map, ciD_int, eqD_ss, (word_c a h).1, if_true, decide_true, Bool.false_eq_true, if_false]
    have k2 : Pd (.d (.bool (leI 0 a && leI a (row.length : Int)))) := k
    cases q1 : leI 0 a with
    | false =>
      rw [q1] at k2
      simpa using k2
    | true =>
      rw [q1] at k2
      simpa using k2
  | change a =>
    refine mid (fun x y => !hits x y) (word_h a).1 rfl fun n u v x y e hu er kk => ?_
    have hx : x ∈ row := by rw [er]; simp
    have hy : y ∈ row := by rw [er]; simp
    have hN : NmD (.tuple [.str y.1, .str y.2.1]) [y.1, y.2.1] := ⟨.inr rfl, fun z hz => by
      rcases List.mem_cons.mp hz with rfl | hz
      · exact (hin y hy).1
      · rw [List.mem_singleton.mp hz]; exact (hin y hy).2.1⟩
    have e1 := in_names true hN (hin x hx).1
    have e2 := in_names true hN (hin x hx).2.1
    rw [hits_in] at kk
    simp only [s_seq, s_if, s_B, s_bin, s_andV, s_sl, s_noP, s_P, s_var, s_c, s_ret, s_next, List.getElem?_cons_succ, List.getElem?_cons_zero, st_d, val_d, Opt_some, i0, out_v, out_t, eqD_ss, (word_h a).2, if_true, decide_false, Bool.false_eq_true, if_false, (ix_hook x).1, (ix_hook x).2, cut_hook, e1, e2]
    cases q1 : decide (x.1 ∈ [y.1, y.2.1]) with
    | true =>
      rw [q1] at kk
      simpa [q1] using kk
    | false =>
      rw [q1] at kk
      simpa [q1] using kk
  | go a =>
    refine mid (fun x y => decide (y = turned x)) (word_g a).1 rfl fun n u v x y e hu er kk => ?_
    have hx := hin x (by rw [er]; simp)
    have hy := hin y (by rw [er]; simp)
    have eh : eqD false (hookD y) (.tuple [.str x.1, .str x.2.1, .int (-x.2.2)]) = _ := eqD_hook (g := y) (h := turned x) hy.1 hy.2.1 hx.1 hx.2.1
    have sz : 3 ≤ sizeLine := by rw [sizeLine_eq]; decide
    simp only [s_seq, s_if, s_B, s_bin, s_un, s_tup, s_cons, s_nil, s_var, s_c, s_ret, s_next, List.getElem?_cons_succ, List.getElem?_cons_zero, st_d, val_d, Opt_some, i0, out_v, eqD_ss, (word_g a).2, if_true, decide_true, Bool.false_eq_true, if_false, (ix_hook x).1, (ix_hook x).2, ix_hook2, negD_int, dats_d, dats_nil, List.length_cons, List.length_nil, eh]
    exact ⟨sz, kk⟩
theorem cut_drop {α : Type} (xs : List α) (m : Nat) : cut xs (some (m : Int)) none = xs.drop m := by
  unfold cut
  have h1 : HT.sIx xs.length 0 (some (m : Int)) = min m xs.length := HT.sIx_nat _ _ m
  have h2 : HT.sIx xs.length xs.length none = xs.length := rfl
  rw [h1, h2]
  rw [List.take_of_length_le (by rw [List.length_drop]; omega)]
  by_cases c : m ≤ xs.length
  · rw [Nat.min_eq_left c]
  · rw [Nat.min_eq_right (by omega), List.drop_length, List.drop_of_length_le (by omega)]
def Ph_law_gone (rs : List R) (P : R → Prop) : Prop := ∃ (row : Row) (s : StepT), canF row s = true ∧ row.length ≤ 1000 ∧ rs = [.d (.list (row.map hookD)), .d (stepD s)] ∧ P (.f ((goneF row s).map hookD))
/-- _law_gone -/
def w_law_gone : DTS := (wSeq (wSet false 2 (wBin ixD (wVar 1) (wC (.int 1))))
  (wSeq (wIfS (wB (wBin (eqD false) (wBin ixD (wVar 1) (wC (.int 0))) (wC (.str "come")))) (wSeq (wAsg (wBin ixD (wVar 1) (wC (.int 2))) (wTupG 3 (wgCons (wName 3) (wgCons (wName 4) (wgCons (wName 5) wgNil)))))
  (wRet (wBin addD (wBin addD (wSl (wVar 0) wNoP (wP (wVar 2))) (wLst (wCons (wTup (wCons (wVar 3) (wCons (wVar 4) (wCons (wVar 5) wNil)))) (wCons (wTup (wCons (wVar 3) (wCons (wVar 4) (wCons (wUn negD (wVar 5)) wNil)))) wNil)))) (wSl (wVar 0) (wP (wVar 2)) wNoP)))) wNext)
  (wSeq (wIfS (wB (wBin (eqD false) (wBin ixD (wVar 1) (wC (.int 0))) (wC (.str "go")))) (wRet (wBin addD (wSl (wVar 0) wNoP (wP (wVar 2))) (wSl (wVar 0) (wP (wBin addD (wVar 2) (wC (.int 2)))) wNoP))) wNext)
  (wRet (wBin addD (wBin addD (wSl (wVar 0) wNoP (wP (wVar 2))) (wLst (wCons (wBin ixD (wVar 0) (wBin addD (wVar 2) (wC (.int 1)))) (wCons (wBin ixD (wVar 0) (wVar 2)) wNil)))) (wSl (wVar 0) (wP (wBin addD (wVar 2) (wC (.int 2)))) wNoP))))))
theorem r_law_gone (rs : List R) (Pd : R → Prop) (h : Ph_law_gone rs Pd) (hl : rs.length = 2) : w_law_gone { nx := fun _ _ => Pd (.d .none), rt := fun r κ => Opt (outR κ 0 r) Pd } (rs.map some ++ List.replicate 4 none) [] := by
  obtain ⟨row, s, hc, l1, rfl, k⟩ := h
  clear hl
  obtain ⟨i0, i1⟩ := step_ix s
  have sz : 3 ≤ sizeLine := by rw [sizeLine_eq]; decide
  simp only [List.map_cons, List.map_nil, List.replicate_succ, List.replicate_zero, List.cons_append, List.nil_append]
  unfold w_law_gone
  have pos : ∃ n : Nat, s.at = (n : Int) ∧ n ≤ row.length := by
    cases s with
    | come a h =>
      have c : (decide (0 ≤ a) && decide (a ≤ (row.length : Int))) = true := hc
      rw [Bool.and_eq_true] at c
      have c1 := of_decide_eq_true c.1
      have c2 := of_decide_eq_true c.2
      exact ⟨a.toNat, by show a = _; omega, by omega⟩
    | change a =>
      by_cases c : 0 ≤ a ∧ a < (row.length : Int) - 1
      · exact ⟨a.toNat, by show a = _; omega, by omega⟩
      · have := two_no (f := fun x y => !hits x y) c
        rw [canF, this] at hc
        cases hc
    | go a =>
      by_cases c : 0 ≤ a ∧ a < (row.length : Int) - 1
      · exact ⟨a.toNat, by show a = _; omega, by omega⟩
      · have := two_no (f := fun x y => decide (y = turned x)) c
        rw [canF, this] at hc
        cases hc
  obtain ⟨n, en, ln⟩ := pos
  rw [en] at i1
  have lt : (row.take n).length ≤ 1000 := by rw [List.length_take]; omega
  have ld : ∀ m, (row.drop m).length ≤ 1000 := fun m => by rw [List.length_drop]; omega
  have n2 : ((n : Int) + 2) = ((n + 2 : Nat) : Int) := by omega
  cases s with
  | come a h =>
    have ea : a = (n : Int) := en
    subst ea
    have i2 : ixD (stepD (.come n h)) (.int 2) = some (.v (hookD h)) := ixD_tuple (atI_nat (j := 2) rfl)
    simp only [s_seq, s_set, s_if, s_B, s_bin, s_asg, s_var, s_c, List.getElem?_cons_succ, List.getElem?_cons_zero, List.set_cons_succ, List.set_cons_zero, st_d, val_d, Opt_some, i0, i1, i2, out_v, sto_d, eqD_ss, (word_c n h).1, if_true, decide_true, Bool.false_eq_true, if_false]
    unfold hookD
    simp only [s_tupG, s_gcons, s_gnil, s_name, List.length_cons, List.length_nil, true_and, List.set_cons_succ, List.set_cons_zero, s_ret, s_bin, s_sl, s_noP, s_P, s_lst, s_tup, s_cons, s_nil, s_un, s_var, List.getElem?_cons_succ, List.getElem?_cons_zero, st_d, val_d, Opt_some, cut_take, cut_drop, slD_list, out_n, out_v, dats_d, dats_nil, negD_int, st_f, val_f]
    refine ⟨sz, sz, by omega, ?_⟩
    rw [← List.map_take, ← List.map_drop, addD_list (by rw [List.length_map, sizeLine_eq]; simp at lt ⊢; omega)]
    simp only [Opt_some, out_n, st_f, val_f, val_d]
    rw [addD_list (by rw [List.length_append, List.length_map, List.length_map, sizeLine_eq]; have := ld n; simp at lt this ⊢; omega)]
    have ek : (goneF row (.come n h)).map hookD = (row.take n).map hookD ++ [hookD h, hookD (turned h)] ++ (row.drop n).map hookD := by
      show (row.take (n : Int).toNat ++ (h :: turned h :: row.drop (n : Int).toNat)).map hookD = _
      rw [Int.toNat_natCast]
      simp
    rw [ek] at k
    unfold hookD at k
    simpa [turned] using k
  | change a =>
    have ea : a = (n : Int) := en
    subst ea
    by_cases c : 0 ≤ (n : Int) ∧ (n : Int) < (row.length : Int) - 1
    · obtain ⟨m, u, v, x, y, e, hu, er, ef⟩ := two_split (f := fun x y => !hits x y) c.1 c.2
      have en2 : m = n := by omega
      subst en2
      obtain ⟨r0, r1⟩ := row_ix (v := v) (x := x) (y := y) hu
      rw [← er] at r0 r1
      have d0 : row.drop m = x :: y :: v := by rw [er]; exact (drop_at u _ hu).1
      have ek : (goneF row (.change m)).map hookD = (row.take m).map hookD ++ [hookD y, hookD x] ++ (row.drop (m + 2)).map hookD := by
        show (row.take (m : Int).toNat ++ (match row.drop (m : Int).toNat with
          | x :: y :: v => y :: x :: v
          | v => v)).map hookD = _
        rw [Int.toNat_natCast, ← List.drop_drop, d0]
        simp
      rw [ek] at k
      simp only [s_seq, s_set, s_if, s_B, s_bin, s_var, s_c, s_ret, s_next, List.getElem?_cons_succ, List.getElem?_cons_zero, List.set_cons_succ, List.set_cons_zero, st_d, val_d, Opt_some, i0, i1, out_v, sto_d, eqD_ss, (word_h m).1, (word_h m).2, if_true, decide_false, Bool.false_eq_true, if_false, s_sl, s_noP, s_P, s_lst, s_cons, s_nil, addD_int, r0, r1, n2, cut_take, cut_drop, slD_list, out_n, dats_d, dats_nil, st_f, val_f, List.length_cons, List.length_nil]
      refine ⟨by omega, ?_⟩
      rw [← List.map_take, ← List.map_drop, addD_list (by rw [List.length_map, sizeLine_eq]; simp at lt ⊢; omega)]
      simp only [Opt_some, out_n, st_f, val_f, val_d]
      rw [addD_list (by rw [List.length_append, List.length_map, List.length_map, sizeLine_eq]; have := ld (m + 2); simp at lt this ⊢; omega)]
      simpa using k
    · have := two_no (f := fun x y => !hits x y) c
      rw [canF, this] at hc
      cases hc
  | go a =>
    have ea : a = (n : Int) := en
    subst ea
    have ek : (goneF row (.go n)).map hookD = (row.take n).map hookD ++ (row.drop (n + 2)).map hookD := by
      show (row.take (n : Int).toNat ++ row.drop ((n : Int).toNat + 2)).map hookD = _
      rw [Int.toNat_natCast, List.map_append]
    rw [ek] at k
    simp only [s_seq, s_set, s_if, s_B, s_bin, s_var, s_c, s_ret, s_next, List.getElem?_cons_succ, List.getElem?_cons_zero, List.set_cons_succ, List.set_cons_zero, st_d, val_d, Opt_some, i0, i1, out_v, sto_d, eqD_ss, (word_g n).1, (word_g n).2, if_true, decide_false, decide_true, Bool.false_eq_true, if_false, s_sl, s_noP, s_P, addD_int, n2, cut_take, cut_drop, slD_list, out_n, st_f, val_f]
    rw [← List.map_take, ← List.map_drop, addD_list (by rw [List.length_map, List.length_map, sizeLine_eq]; have := ld (n + 2); omega)]
    simpa using k
def Ph_law_some_step (bs : List PyData) (rs : List R) (P : R → List PyData → Prop) : Prop := ∃ (N : Int) (ns : List Str) (row : Row), Box N bs ∧ N ≤ 2 ^ 38 ∧ rs = [.d (.list (ns.map .str)), .d (.list (row.map hookD))] ∧ 2 ≤ ns.length ∧ ns.length ≤ 1000 ∧ Names ns ∧ row.length ≤ 1000 ∧
  ∀ (s : StepT) (bs' : List PyData), (∀ a h, s = .come a h → HookOf ns h) → Box (N + 5) bs' → P (.d (stepD s)) bs'
/-- _law_some_step -/
def w_law_some_step : DTS := (wSeq (wPar 3 4 (wConsM false (wCallL Ph_law_take (wCons (wVar 0) (wCons (wC (.int 3)) wNil))) (wConsM false (wBin subD (wCallL Ph_law_take (wCons (wVar 0) (wCons (wBin addD (wCB lenD (wCons (wVar 2) wNil)) (wC (.int 3))) wNil))) (wC (.int 1))) wNil)))
  (wSeq (wIfS (wB (wBin (eqD false) (wVar 3) (wC (.int 0)))) (wRet (wTup (wCons (wC (.str "come")) (wCons (wVar 4) (wCons (wCallL Ph_law_hook (wCons (wVar 0) (wCons (wVar 1) wNil))) wNil))))) wNext)
  (wRet (wTup (wCons (wBin ixD (wLst (wCons (wC (.str "change")) (wCons (wC (.str "go")) wNil))) (wBin subD (wVar 3) (wC (.int 1)))) (wCons (wVar 4) wNil))))))
theorem r_law_some_step (bs : List PyData) (rs : List R) (Pd : R → List PyData → Prop) (h : Ph_law_some_step bs rs Pd) (hl : rs.length = 2) : w_law_some_step { nx := fun _ κ => endL κ (.d .none) Pd, rt := fun r κ => endL κ r Pd } (some (.c 0) :: (rs.map some ++ List.replicate 2 none)) [.l bs] := by
  obtain ⟨N, ns, row, hb, hN, rfl, n2, n3, hn, rl, k⟩ := h
  clear hl
  have sz : 3 ≤ sizeLine := by rw [sizeLine_eq]; decide
  simp only [List.map_cons, List.map_nil, List.replicate_succ, List.replicate_zero, List.cons_append, List.nil_append]
  unfold w_law_some_step
  simp only [s_seq, s_par, s_consM, s_callL, s_cons, s_nil, s_c, s_var, List.getElem?_cons_succ, List.getElem?_cons_zero, st_c, st_d, lend_c, args_d, DL.args_nil, Opt_some]
  refine ⟨N, 3, hb, by omega, rfl, by decide, by decide, fun w bs1 w0 w1 hb1 => ?_⟩
  simp only [lab_d, sto_d, st_d, List.set_cons_zero, s_bin, s_callL, s_cons, s_nil, s_c, s_cb, s_var, List.getElem?_cons_succ, List.getElem?_cons_zero, st_c, lend_c, args_d, DL.args_nil, Opt_some, vals_cons, vals_nil, val_d, lenD_list, List.length_map, out_v, addD_int]
  refine ⟨N + 1, (row.length : Int) + 3, hb1, by omega, rfl, by omega, by omega, fun a bs2 a0 a1 hb2 => ?_⟩
  simp only [lab_d, sto_d, st_d, List.set_cons_zero, List.set_cons_succ, val_d, Opt_some, subD_int, out_v, s_if, s_B, s_bin, s_var, s_c, List.getElem?_cons_succ, List.getElem?_cons_zero, eqD_ii]
  by_cases cw : w = 0
  · subst cw
    simp only [Bool.false_eq_true, if_false, decide_true, if_true, s_ret, s_tup, s_cons, s_nil, s_c, s_var, s_callL, List.getElem?_cons_succ, List.getElem?_cons_zero, st_c, st_d, lend_c, args_d, DL.args_nil, Opt_some]
    refine ⟨N + 1 + 1, ns, hb2, by omega, rfl, n2, n3, hn, fun h bs3 hh hb3 => ?_⟩
    simp only [lab_d, st_d, List.set_cons_zero, dats_d, dats_nil, Opt_some, List.length_cons, List.length_nil]
    exact ⟨sz, k (.come (a - 1) h) bs3 (fun a' h' e => by cases e; exact hh) (hb3.mono (by omega))⟩
  · have fin : ∀ s : StepT, (∀ a h, s = .come a h → HookOf ns h) → endL [.l bs2] (.d (stepD s)) Pd := fun s hs => k s bs2 hs (hb2.mono (by omega))
    simp only [Bool.false_eq_true, if_false, decide_eq_false cw, s_next, s_ret, s_tup, s_lst, s_cons, s_nil, s_c, s_var, s_bin, List.getElem?_cons_succ, List.getElem?_cons_zero, st_d, st_f, val_d, val_f, Opt_some, dats_d, dats_nil, subD_int, out_v, List.length_cons, List.length_nil]
    have w12 : w = 1 ∨ w = 2 := by omega
    rcases w12 with rfl | rfl
    · rw [show ixD (.list [.str "change", .str "go"]) (.int (1 - 1)) = some (.v (.str "change")) from ixD_list rfl]
      simp only [Opt_some, out_v, st_d, dats_d, dats_nil, List.length_cons, List.length_nil]
      exact ⟨by omega, by omega, fin (.change (a - 1)) fun a h e => nomatch e⟩
    · rw [show ixD (.list [.str "change", .str "go"]) (.int (2 - 1)) = some (.v (.str "go")) from ixD_list rfl]
      simp only [Opt_some, out_v, st_d, dats_d, dats_nil, List.length_cons, List.length_nil]
      exact ⟨by omega, by omega, fin (.go (a - 1)) fun a h e => nomatch e⟩
def Ph_law_otherwise (bs : List PyData) (rs : List R) (P : R → List PyData → Prop) : Prop := ∃ (N : Int) (ns : List Str) (row : Row) (many : Nat), Box N bs ∧ N ≤ 2 ^ 37 ∧ rs = [.d (.list (ns.map .str)), .d (.list (row.map hookD)), .d (.int many)] ∧ 2 ≤ ns.length ∧ ns.length ≤ 1000 ∧ Names ns ∧ RowOf ns row ∧ row.length ≤ 30 ∧ many ≤ 20 ∧
  ∀ (row' : Row) (bs' : List PyData), RowOf ns row' → row'.length ≤ 30 → pile row' = pile row → Box (N + 200) bs' → P (.d (.list (row'.map hookD))) bs'
def wf_otherwise : DTS := (wIfS (wAnd (wTru (wCall Ph_law_can (wCons (wVar 2) (wCons (wVar 5) wNil)))) (wOr (wB (wBin (eqD true) (wBin ixD (wVar 5) (wC (.int 0))) (wC (.str "come")))) (wB (wBin (ordD ltI ltS) (wCB lenD (wCons (wVar 2) wNil)) (wC (.int 28)))))) (wSet false 2 (wCall Ph_law_gone (wCons (wVar 2) (wCons (wVar 5) wNil)))) wNext)
def wb_otherwise : DTS := (wSeq (wSet false 5 (wCallL Ph_law_some_step (wCons (wVar 0) (wCons (wVar 1) (wCons (wVar 2) wNil)))))
  (wSeq (wIfS (wAnd (wB (wBin (eqD false) (wBin ixD (wVar 5) (wC (.int 0))) (wC (.str "come")))) (wB (wBin (ciD gtI) (wCallL Ph_law_take (wCons (wVar 0) (wCons (wC (.int 3)) wNil))) (wC (.int 0))))) (wSet false 5 (wTup (wCons (wC (.str "change")) (wCons (wCallL Ph_law_take (wCons (wVar 0) (wCons (wBin addD (wCB lenD (wCons (wVar 2) wNil)) (wC (.int 1))) wNil))) wNil)))) wNext)
  wf_otherwise))
/-- _law_otherwise -/
def w_law_otherwise : DTS := (wSeq (wFor (wRng1 (wCons (wVar 3) wNil)) (wName 4) wb_otherwise)
  (wRet (wVar 2)))
theorem oth_last {E : DEnds} {ns : List Str} {row : Row} {s : StepT} {bs : List PyData} {p3 p4 : Option R} (hn : Names ns) (hr : RowOf ns row) (hl : row.length ≤ 30) (hs : ∀ a h, s = .come a h → HookOf ns h)
    (k : ∀ row', RowOf ns row' → row'.length ≤ 30 → pile row' = pile row → E.nx [some (.c 0), some (.d (.list (ns.map .str))), some (.d (.list (row'.map hookD))), p3, p4, some (.d (stepD s))] [.l bs]) :
    wf_otherwise E [some (.c 0), some (.d (.list (ns.map .str))), some (.d (.list (row.map hookD))), p3, p4, some (.d (stepD s))] [.l bs] := by
  have i0 := (step_ix s).1
  have tt : ∀ b : Bool, truth (.bool b) = some b := fun b => rfl
  unfold wf_otherwise
  simp only [s_if, s_and, s_tru, s_call, s_cons, s_nil, s_var, List.getElem?_cons_succ, List.getElem?_cons_zero, st_d, args_d, DL.args_nil, Opt_some]
  refine ⟨row, s, hr.inn hn, by omega, rfl, ?_⟩
  simp only [st_d, val_d, Opt_some, tt]
  cases hc : canF row s with
  | false =>
    simp only [Bool.false_eq_true, if_false, s_next]
    exact k row hr hl rfl
  | true =>
    have gl := gone_len hc
    have go := gone_of hr hs
    have gp := pile_gone hc
    simp only [if_true, s_or, s_B, s_bin, s_cb, s_c, s_cons, s_nil, s_var, List.getElem?_cons_succ, List.getElem?_cons_zero, st_d, val_d, vals_cons, vals_nil, Opt_some, i0, out_v, eqD_ss, lenD_list, List.length_map, ordD_int]
    have ok : (goneF row s).length ≤ 30 → wSet false 2 (wCall Ph_law_gone (wCons (wVar 2) (wCons (wVar 5) wNil))) E [some (.c 0), some (.d (.list (ns.map .str))), some (.d (.list (row.map hookD))), p3, p4, some (.d (stepD s))] [.l bs] := fun ll => by
      simp only [s_set, s_call, s_cons, s_nil, s_var, List.getElem?_cons_succ, List.getElem?_cons_zero, st_d, args_d, DL.args_nil, Opt_some]
      refine ⟨row, s, hc, by omega, rfl, ?_⟩
      simp only [sto_f, st_f, List.set_cons_succ, List.set_cons_zero]
      exact k _ go ll gp
    cases s with
    | come a h =>
      simp only [(word_c a h).1, decide_true, Bool.not_true, Bool.false_eq_true, if_false]
      by_cases c : row.length < 28
      · rw [show ltI (row.length : Int) 28 = true from decide_eq_true (by omega), if_pos rfl]
        exact ok (by simp only at gl; omega)
      · rw [show ltI (row.length : Int) 28 = false from decide_eq_false (by omega), if_neg (by decide)]
        exact k row hr hl rfl
    | change a =>
      simp only [(word_h a).1, decide_false, Bool.not_false, if_true]
      exact ok (by simp only at gl; omega)
    | go a =>
      simp only [(word_g a).1, decide_false, Bool.not_false, if_true]
      exact ok (by simp only at gl; omega)
theorem oth_body {E : DEnds} {N : Int} {ns : List Str} {row : Row} {bs : List PyData} {p3 p4 p5 : Option R} (hb : Box N bs) (hN : N ≤ 2 ^ 38 - 1) (n2 : 2 ≤ ns.length) (n3 : ns.length ≤ 1000) (hn : Names ns) (hr : RowOf ns row) (hl : row.length ≤ 30)
    (k : ∀ row' bs' p5, RowOf ns row' → row'.length ≤ 30 → pile row' = pile row → Box (N + 8) bs' → E.nx [some (.c 0), some (.d (.list (ns.map .str))), some (.d (.list (row'.map hookD))), p3, p4, p5] [.l bs']) :
    wb_otherwise E [some (.c 0), some (.d (.list (ns.map .str))), some (.d (.list (row.map hookD))), p3, p4, p5] [.l bs] := by
  have sz : 3 ≤ sizeLine := by rw [sizeLine_eq]; decide
  unfold wb_otherwise
  generalize hW : wf_otherwise = W
  simp only [s_seq, s_set, s_callL, s_cons, s_nil, s_var, List.getElem?_cons_succ, List.getElem?_cons_zero, st_c, st_d, lend_c, args_d, DL.args_nil, Opt_some]
  refine ⟨N, ns, row, hb, by omega, rfl, n2, n3, hn, by omega, fun s bs1 hs hb1 => ?_⟩
  have i0 := (step_ix s).1
  have fin : ∀ (s : StepT) (bs' : List PyData), (∀ a h, s = .come a h → HookOf ns h) → Box (N + 8) bs' → W E [some (.c 0), some (.d (.list (ns.map .str))), some (.d (.list (row.map hookD))), p3, p4, some (.d (stepD s))] [.l bs'] := fun s bs' hs hb' => by
    rw [← hW]
    exact oth_last hn hr hl hs fun row' h1 h2 h3 => k row' bs' _ h1 h2 h3 hb'
  simp only [lab_d, sto_d, List.set_cons_succ, List.set_cons_zero, s_if, s_and, s_B, s_bin, s_c, s_var, List.getElem?_cons_succ, List.getElem?_cons_zero, st_d, val_d, Opt_some, i0, out_v, eqD_ss, Bool.false_eq_true, if_false]
  by_cases c : s.word = "come"
  · rw [decide_eq_true c, if_pos rfl]
    simp only [s_callL, s_cons, s_nil, s_c, s_var, List.getElem?_cons_succ, List.getElem?_cons_zero, st_c, st_d, lend_c, args_d, DL.args_nil, Opt_some]
    refine ⟨N + 5, 3, hb1, by omega, rfl, by decide, by decide, fun w bs2 w0 w1 hb2 => ?_⟩
    simp only [lab_d, st_d, val_d, Opt_some, List.set_cons_zero, ciD_int, out_v]
    cases hg : gtI w 0 with
    | false =>
      rw [if_neg (by decide), s_next]
      exact fin s bs2 hs (hb2.mono (by omega))
    | true =>
      rw [if_pos rfl]
      simp only [s_set, s_tup, s_cons, s_nil, s_c, s_bin, s_cb, s_callL, s_var, List.getElem?_cons_succ, List.getElem?_cons_zero, st_c, st_d, val_d, vals_cons, vals_nil, lenD_list, List.length_map, addD_int, out_v, lend_c, args_d, DL.args_nil, Opt_some]
      refine ⟨N + 5 + 1, (row.length : Int) + 1, hb2, by omega, rfl, by omega, by omega, fun a bs3 a0 a1 hb3 => ?_⟩
      simp only [lab_d, st_d, List.set_cons_zero, dats_d, dats_nil, Opt_some, List.length_cons, List.length_nil, sto_d, List.set_cons_succ]
      exact ⟨by omega, fin (.change a) bs3 (fun a h e => nomatch e) (hb3.mono (by omega))⟩
  · simp only [decide_eq_false c, Bool.false_eq_true, if_false, s_next]
    exact fin s bs1 hs (hb1.mono (by omega))
theorem oth_loop {E : DEnds} {ns : List Str} (n2 : 2 ≤ ns.length) (n3 : ns.length ≤ 1000) (hn : Names ns) {p3 : Option R} : ∀ (xs : List PyData) (N : Int) (bs : List PyData) (row : Row) (p4 p5 : Option R), Box N bs → N + 8 * (xs.length : Int) ≤ 2 ^ 38 - 1 → RowOf ns row → row.length ≤ 30 →
    (∀ (row' : Row) (bs' : List PyData) (p4 p5 : Option R), RowOf ns row' → row'.length ≤ 30 → pile row' = pile row → Box (N + 8 * (xs.length : Int)) bs' → E.nx [some (.c 0), some (.d (.list (ns.map .str))), some (.d (.list (row'.map hookD))), p3, p4, p5] [.l bs']) →
    forL (fun _ => True) (wName 4) wb_otherwise E xs [some (.c 0), some (.d (.list (ns.map .str))), some (.d (.list (row.map hookD))), p3, p4, p5] [.l bs]
  | [], N, bs, row, p4, p5, hb, _, hr, hl, k => by
    rw [forL_nil]
    exact k row bs p4 p5 hr hl rfl (by simpa using hb)
  | x :: xs, N, bs, row, p4, p5, hb, hN, hr, hl, k => by
    rw [forL_cons]
    simp only [List.length_cons] at hN k
    simp only [s_name, List.set_cons_succ, List.set_cons_zero]
    refine oth_body hb (by omega) n2 n3 hn hr hl fun row' bs' p5 h1 h2 h3 hb' => ⟨trivial, ?_⟩
    exact oth_loop n2 n3 hn xs (N + 8) bs' row' _ _ hb' (by omega) h1 h2 fun r2 bs2 p4 p5 g1 g2 g3 g4 => k r2 bs2 p4 p5 g1 g2 (g3.trans h3) (g4.mono (by omega))
theorem r_law_otherwise (bs : List PyData) (rs : List R) (Pd : R → List PyData → Prop) (h : Ph_law_otherwise bs rs Pd) (hl : rs.length = 3) : w_law_otherwise { nx := fun _ κ => endL κ (.d .none) Pd, rt := fun r κ => endL κ r Pd } (some (.c 0) :: (rs.map some ++ List.replicate 2 none)) [.l bs] := by
  obtain ⟨N, ns, row, many, hb, hN, rfl, n2, n3, hn, hr, rl, hm, k⟩ := h
  clear hl
  unfold w_law_otherwise
  simp only [List.map_cons, List.map_nil, List.replicate_succ, List.replicate_zero, List.cons_append, List.nil_append, s_seq, s_for, s_rng1, s_cons, s_nil, s_var, List.getElem?_cons_succ, List.getElem?_cons_zero, st_d]
  refine ⟨by omega, by omega, ?_⟩
  refine oth_loop n2 n3 hn _ N bs row _ _ hb (by simp; omega) hr rl fun row' bs' p4 p5 h1 h2 h3 hb' => ?_
  simp only [s_ret, s_var, List.getElem?_cons_succ, List.getElem?_cons_zero]
  exact k row' bs' h1 h2 h3 (hb'.mono (by simp; omega))
theorem cut_mid {α : Type} (xs : List α) (n m : Nat) : cut xs (some (n : Int)) (some ((n : Int) + (m : Int))) = (xs.drop n).take m := by
  rw [← Int.natCast_add]
  unfold cut
  rw [show HT.sIx xs.length 0 (some (n : Int)) = min n xs.length from HT.sIx_nat _ _ n, show HT.sIx xs.length xs.length (some ((n + m : Nat) : Int)) = min (n + m) xs.length from HT.sIx_nat _ _ (n + m)]
  by_cases c : n ≤ xs.length
  · rw [Nat.min_eq_left c]
    by_cases c2 : n + m ≤ xs.length
    · rw [Nat.min_eq_left c2, Nat.add_sub_cancel_left]
    · rw [Nat.min_eq_right (by omega), List.take_of_length_le (by rw [List.length_drop]; omega), List.take_of_length_le (by rw [List.length_drop]; omega)]
  · rw [List.drop_of_length_le (by omega), List.drop_of_length_le (by omega), List.take_nil, List.take_nil]
def Ph_law_bent (bs : List PyData) (rs : List R) (P : R → List PyData → Prop) : Prop := ∃ (N : Int) (ns : List Str) (row : Row), Box N bs ∧ N ≤ 2 ^ 38 ∧ rs = [.d (.list (ns.map .str)), .d (.list (row.map hookD))] ∧ 2 ≤ ns.length ∧ ns.length ≤ 1000 ∧ Names ns ∧ RowOf ns row ∧ row.length ≤ 1000 ∧
  ∀ (r : Row) (bs' : List PyData), RowOf ns r → r.length ≤ row.length + 1 → Box (N + 5) bs' → P (.f (r.map hookD)) bs'
/-- _law_bent -/
def w_law_bent : DTS := (wSeq (wPar 3 4 (wConsM false (wCallL Ph_law_take (wCons (wVar 0) (wCons (wC (.int 5)) wNil))) (wConsM false (wCallL Ph_law_take (wCons (wVar 0) (wCons (wBin addD (wCB lenD (wCons (wVar 2) wNil)) (wC (.int 1))) wNil))) wNil)))
  (wSeq (wIfS (wOr (wB (wBin (eqD false) (wVar 3) (wC (.int 0)))) (wB (wBin (eqD false) (wVar 4) (wCB lenD (wCons (wVar 2) wNil))))) (wRet (wBin addD (wBin addD (wSl (wVar 2) wNoP (wP (wVar 4))) (wLst (wCons (wCallL Ph_law_hook (wCons (wVar 0) (wCons (wVar 1) wNil))) wNil))) (wSl (wVar 2) (wP (wVar 4)) wNoP))) wNext)
  (wSeq (wIfS (wB (wBin (eqD false) (wVar 3) (wC (.int 1)))) (wRet (wBin addD (wSl (wVar 2) wNoP (wP (wVar 4))) (wSl (wVar 2) (wP (wBin addD (wVar 4) (wC (.int 1)))) wNoP))) wNext)
  (wSeq (wIfS (wB (wBin (eqD false) (wVar 3) (wC (.int 2)))) (wSeq (wAsg (wBin ixD (wVar 2) (wVar 4)) (wTupG 3 (wgCons (wName 5) (wgCons (wName 6) (wgCons (wName 7) wgNil)))))
  (wRet (wBin addD (wBin addD (wSl (wVar 2) wNoP (wP (wVar 4))) (wLst (wCons (wTup (wCons (wVar 5) (wCons (wVar 6) (wCons (wUn negD (wVar 7)) wNil)))) wNil))) (wSl (wVar 2) (wP (wBin addD (wVar 4) (wC (.int 1)))) wNoP)))) wNext)
  (wSeq (wIfS (wB (wBin (eqD false) (wVar 3) (wC (.int 3)))) (wRet (wBin addD (wBin addD (wSl (wVar 2) wNoP (wP (wVar 4))) (wRevS (wSl (wVar 2) (wP (wVar 4)) (wP (wBin addD (wVar 4) (wC (.int 2))))))) (wSl (wVar 2) (wP (wBin addD (wVar 4) (wC (.int 2)))) wNoP))) wNext)
  (wRet (wBin addD (wBin addD (wSl (wVar 2) wNoP (wP (wVar 4))) (wSl (wVar 2) (wP (wVar 4)) (wP (wBin addD (wVar 4) (wC (.int 1)))))) (wSl (wVar 2) (wP (wVar 4)) wNoP))))))))
theorem add_rows {x y : Row} (h : x.length + y.length ≤ 10000) : addD (.list (x.map hookD)) (.list (y.map hookD)) = some (.n ((x ++ y).map hookD)) := by
  rw [addD_list (by rw [List.length_map, List.length_map, sizeLine_eq]; omega), ← List.map_append]
theorem r_law_bent (bs : List PyData) (rs : List R) (Pd : R → List PyData → Prop) (h : Ph_law_bent bs rs Pd) (hl : rs.length = 2) : w_law_bent { nx := fun _ κ => endL κ (.d .none) Pd, rt := fun r κ => endL κ r Pd } (some (.c 0) :: (rs.map some ++ List.replicate 5 none)) [.l bs] := by
  obtain ⟨N, ns, row, hb, hN, rfl, n2, n3, hn, hr, rl, k⟩ := h
  clear hl
  have sz : 3 ≤ sizeLine := by rw [sizeLine_eq]; decide
  simp only [List.map_cons, List.map_nil, List.replicate_succ, List.replicate_zero, List.cons_append, List.nil_append]
  unfold w_law_bent
  simp only [s_seq, s_par, s_consM, s_callL, s_cons, s_nil, s_c, s_var, List.getElem?_cons_succ, List.getElem?_cons_zero, st_c, st_d, lend_c, args_d, DL.args_nil, Opt_some]
  refine ⟨N, 5, hb, by omega, rfl, by decide, by decide, fun w bs1 w0 w1 hb1 => ?_⟩
  simp only [lab_d, sto_d, st_d, List.set_cons_zero, s_bin, s_callL, s_cons, s_nil, s_c, s_cb, s_var, List.getElem?_cons_succ, List.getElem?_cons_zero, st_c, lend_c, args_d, DL.args_nil, Opt_some, vals_cons, vals_nil, val_d, lenD_list, List.length_map, out_v, addD_int]
  refine ⟨N + 1, (row.length : Int) + 1, hb1, by omega, rfl, by omega, by omega, fun a bs2 a0 a1 hb2 => ?_⟩
  obtain ⟨n, rfl⟩ := Int.eq_ofNat_of_zero_le a0
  have ln : n ≤ row.length := by omega
  have tk : ∀ m, RowOf ns (row.take m) := fun m x hx => hr x (List.mem_of_mem_take hx)
  have dk : ∀ m, RowOf ns (row.drop m) := fun m x hx => hr x (List.mem_of_mem_drop hx)
  have tl : (row.take n).length = n := by rw [List.length_take]; omega
  have dl : ∀ m, (row.drop m).length = row.length - m := fun m => List.length_drop ..
  have fin : ∀ r : Row, RowOf ns r → r.length ≤ row.length + 1 → endL [.l bs2] (.f (r.map hookD)) Pd := fun r h1 h2 => k r bs2 h1 h2 (hb2.mono (by omega))
  simp only [lab_d, sto_d, st_d, List.set_cons_zero, List.set_cons_succ, val_d, Opt_some, out_v, s_if, s_or, s_B, s_bin, s_cb, s_cons, s_nil, s_var, s_c, List.getElem?_cons_succ, List.getElem?_cons_zero, vals_cons, vals_nil, lenD_list, List.length_map, eqD_ii, Bool.false_eq_true, if_false]
  have first : wRet (wBin addD (wBin addD (wSl (wVar 2) wNoP (wP (wVar 4))) (wLst (wCons (wCallL Ph_law_hook (wCons (wVar 0) (wCons (wVar 1) wNil))) wNil))) (wSl (wVar 2) (wP (wVar 4)) wNoP)) { nx := fun _ κ => endL κ (.d .none) Pd, rt := fun r κ => endL κ r Pd }
      [some (.c 0), some (.d (.list (ns.map .str))), some (.d (.list (row.map hookD))), some (.d (.int w)), some (.d (.int n)), none, none, none] [.l bs2] := by
    simp only [s_ret, s_bin, s_sl, s_noP, s_P, s_lst, s_cons, s_nil, s_callL, s_var, List.getElem?_cons_succ, List.getElem?_cons_zero, st_c, st_d, val_d, Opt_some, slD_list, cut_take, cut_drop, out_n, lend_c, args_d, DL.args_nil]
    refine ⟨N + 1 + 1, ns, hb2, by omega, rfl, n2, n3, hn, fun h bs3 hh hb3 => ?_⟩
    simp only [lab_d, st_d, List.set_cons_zero, dats_d, dats_nil, Opt_some, List.length_cons, List.length_nil, st_f, val_f, ← List.map_take, ← List.map_drop]
    refine ⟨by omega, ?_⟩
    rw [show [hookD h] = [h].map hookD from rfl]
    simp only [val_d, Opt_some]
    rw [add_rows (by simp; omega)]
    simp only [Opt_some, out_n, st_f, val_f, val_d]
    rw [add_rows (by have := dl n; simp; omega)]
    refine k _ bs3 (((tk n).app fun x hx => ?_).app (dk n)) ?_ (hb3.mono (by omega))
    · rw [List.mem_singleton.mp hx]; exact hh
    · rw [List.length_append, List.length_append, tl, dl]; simp; omega
  by_cases c0 : w = 0
  · rw [decide_eq_true c0]
    exact first
  rw [decide_eq_false c0]
  by_cases cn : (n : Int) = (row.length : Int)
  · rw [decide_eq_true cn]
    exact first
  rw [decide_eq_false cn]
  have n1 : ((n : Int) + 1) = ((n + 1 : Nat) : Int) := by omega
  have n22 : ((n : Int) + 2) = ((n + 2 : Nat) : Int) := by omega
  simp only [Bool.false_eq_true, if_false, s_next, s_seq, s_if, s_B, s_bin, s_var, s_c, List.getElem?_cons_succ, List.getElem?_cons_zero, st_d, val_d, Opt_some, out_v, eqD_ii]
  by_cases c1 : w = 1
  · simp only [decide_eq_true c1, if_true, s_ret, s_bin, s_sl, s_noP, s_P, s_var, s_c, List.getElem?_cons_succ, List.getElem?_cons_zero, st_d, val_d, Opt_some, slD_list, addD_int, out_v, n1, cut_take, cut_drop, out_n, st_f, val_f, ← List.map_take, ← List.map_drop]
    rw [add_rows (by have := dl (n + 1); omega)]
    exact fin _ ((tk n).app (dk _)) (by rw [List.length_append, tl, dl]; omega)
  simp only [decide_eq_false c1, Bool.false_eq_true, if_false, s_next, s_seq, s_if, s_B, s_bin, s_var, s_c, List.getElem?_cons_succ, List.getElem?_cons_zero, st_d, val_d, Opt_some, out_v, eqD_ii]
  by_cases c2 : w = 2
  · obtain ⟨x, hx⟩ : ∃ x, row[n]? = some x := ⟨row[n]'(by omega), List.getElem?_eq_getElem (by omega)⟩
    have hxm := hr x (List.mem_of_getElem? hx)
    have ix : ixD (.list (row.map hookD)) (.int (n : Int)) = some (.v (hookD x)) := ixD_list (atI_nat (j := n) (by rw [List.getElem?_map, hx]; rfl))
    simp only [decide_eq_true c2, if_true, s_seq, s_asg, s_bin, s_var, List.getElem?_cons_succ, List.getElem?_cons_zero, st_d, val_d, Opt_some, ix, out_v]
    unfold hookD
    simp only [s_tupG, s_gcons, s_gnil, s_name, List.length_cons, List.length_nil, true_and, List.set_cons_succ, List.set_cons_zero, s_ret, s_bin, s_sl, s_noP, s_P, s_lst, s_tup, s_cons, s_nil, s_un, s_var, s_c, List.getElem?_cons_succ, List.getElem?_cons_zero, st_d, val_d, Opt_some, addD_int, n1, cut_take, cut_drop, slD_list, out_n, out_v, dats_d, dats_nil, negD_int, st_f, val_f]
    refine ⟨sz, by omega, ?_⟩
    rw [← List.map_take, ← List.map_drop]
    have a1 := add_rows (x := row.take n) (y := [turned x]) (by simp; omega)
    have a2 := add_rows (x := row.take n ++ [turned x]) (y := row.drop (n + 1)) (by have := dl (n + 1); simp; omega)
    have ff := fin (row.take n ++ [turned x] ++ row.drop (n + 1)) (((tk n).app fun z hz => by rw [List.mem_singleton.mp hz]; exact hxm.turn).app (dk _)) (by rw [List.length_append, List.length_append, tl, dl]; simp; omega)
    unfold hookD at a1 a2 ff
    simp only [List.map_cons, List.map_nil, turned] at a1
    rw [a1]
    simp only [Opt_some, out_n, st_f, val_f, val_d]
    rw [show (PyData.list (List.map (fun h : Hook => PyData.tuple [PyData.str h.1, PyData.str h.2.1, PyData.int h.2.2]) (List.take n row ++ [(x.1, x.2.1, -x.2.2)]))) = (PyData.list (List.map (fun h : Hook => PyData.tuple [PyData.str h.1, PyData.str h.2.1, PyData.int h.2.2]) (List.take n row ++ [turned x]))) from rfl, a2]
    exact ff
  simp only [decide_eq_false c2, Bool.false_eq_true, if_false, s_next, s_seq, s_if, s_B, s_bin, s_var, s_c, List.getElem?_cons_succ, List.getElem?_cons_zero, st_d, val_d, Opt_some, out_v, eqD_ii]
  have m1 := cut_mid (row.map hookD) n 1
  have m2 := cut_mid (row.map hookD) n 2
  have ml : ∀ m, ((row.drop n).take m).length ≤ row.length - n := fun m => by rw [List.length_take, dl]; omega
  have mo : ∀ m, RowOf ns ((row.drop n).take m) := fun m x hx => dk n x (List.mem_of_mem_take hx)
  by_cases c3 : w = 3
  · simp only [decide_eq_true c3, if_true, s_ret, s_bin, s_sl, s_noP, s_P, s_revS, s_var, s_c, List.getElem?_cons_succ, List.getElem?_cons_zero, st_d, val_d, Opt_some, slD_list, addD_int, out_v, cut_take, out_n, st_f, val_f, show ((n : Int) + 2) = ((n : Int) + (2 : Nat)) from rfl, m2]
    rw [show ((n : Int) + (2 : Nat)) = ((n + 2 : Nat) : Int) from rfl]
    simp only [cut_drop, ← List.map_take, ← List.map_drop, ← List.map_reverse]
    have l2 := ml 2
    rw [add_rows (by simp at l2 ⊢; omega)]
    simp only [Opt_some, out_n, st_f, val_f, val_d]
    rw [add_rows (by have := dl (n + 2); simp at l2 this ⊢; omega)]
    refine fin _ (((tk n).app fun x hx => mo 2 x (List.mem_reverse.mp hx)).app (dk _)) ?_
    rw [List.length_append, List.length_append, List.length_reverse, tl, dl, List.length_take, dl]
    omega
  · simp only [decide_eq_false c3, Bool.false_eq_true, if_false, s_next, s_ret, s_bin, s_sl, s_noP, s_P, s_var, s_c, List.getElem?_cons_succ, List.getElem?_cons_zero, st_d, val_d, Opt_some, slD_list, addD_int, out_v, cut_take, cut_drop, out_n, st_f, val_f, show ((n : Int) + 1) = ((n : Int) + (1 : Nat)) from rfl, m1]
    simp only [← List.map_take, ← List.map_drop]
    have l2 := ml 1
    rw [add_rows (by simp at l2 ⊢; omega)]
    simp only [Opt_some, out_n, st_f, val_f, val_d]
    rw [add_rows (by have := dl n; simp at l2 this ⊢; omega)]
    refine fin _ (((tk n).app (mo 1)).app (dk _)) ?_
    rw [List.length_append, List.length_append, tl, dl, List.length_take, dl]
    omega
end SH
/-! THg: rows put together and undone. -/
namespace SH
open PySem PySem.Spec PyProof.Rows L2 DL
theorem acts_step (h : Hook) (q ρ : Row) : acts (cstep h ρ).reverse (pile q) = act h (acts ρ.reverse (pile q)) := by
  unfold cstep
  cases e : stripR h ρ with
  | none =>
    show acts (h :: ρ).reverse (pile q) = _
    rw [List.reverse_cons, acts_app]
    rfl
  | some ρ' =>
    obtain ⟨y, x, rfl, rfl, f⟩ := strip_some e
    have f' : ∀ g ∈ y.reverse, hits h g = false := fun g hg => f g (List.mem_reverse.mp hg)
    show acts (y ++ x).reverse (pile q) = _
    rw [List.reverse_append, List.reverse_append, List.reverse_cons, acts_app, acts_app, acts_app, acts_free f']
    show _ = acts y.reverse (act h (act (turned h) (acts x.reverse (pile q))))
    rw [← pile_app, cancel2]
theorem acts_nfL (q : Row) : ∀ (r ρ : Row), acts (nfL r ρ).reverse (pile q) = acts r (acts ρ.reverse (pile q))
  | [], ρ => rfl
  | h :: r, ρ => by
    show acts (nfL r (cstep h ρ)).reverse (pile q) = acts r (act h (acts ρ.reverse (pile q)))
    rw [acts_nfL q r, acts_step]
theorem acts_settled (q r : Row) : acts (settledF r) (pile q) = acts r (pile q) := by
  rw [settled_nf]
  exact acts_nfL q r []
theorem acts_least (q r : Row) : acts (leastF r) (pile q) = acts r (pile q) := by
  unfold leastF
  rw [acts_same (first_lines (settledF r)), acts_settled]
theorem pile_both {r r' q q' : Row} (h1 : pile r = pile r') (h2 : pile q = pile q') : pile (r ++ q) = pile (r' ++ q') := by
  rw [pile_app, pile_app, ← acts_least r q, ← acts_least r' q', least_same h2, h1]
theorem pile_undo (r : Row) : pile (r ++ back r) = pile [] := by
  have := pile_back r [] []
  simpa using this
theorem pile_undo2 (r : Row) : pile (back r ++ r) = pile [] := by
  have := pile_undo (back r)
  rwa [back_back] at this
theorem pile_backs {r r' : Row} (h : pile r = pile r') : pile (back r) = pile (back r') := by
  have e1 : pile (back r ++ (r' ++ back r')) = pile (back r) := by
    have := pile_both (r := back r) rfl (pile_undo r')
    rwa [List.append_nil] at this
  have e2 : pile ((back r ++ r) ++ back r') = pile (back r') := by
    have := pile_both (pile_undo2 r) (q := back r') rfl
    rwa [List.nil_append] at this
  rw [← e1, ← List.append_assoc, ← e2]
  exact pile_both (pile_both rfl h.symm) rfl
theorem least_back (r : Row) : (leastF (back r)).length = (leastF r).length := by
  have h : ∀ r : Row, (leastF (back r)).length ≤ (leastF r).length := fun r => by
    have e : leastF (back r) = leastF (back (leastF r)) := least_same (pile_backs (pile_least r).symm)
    rw [e, ← back_len (leastF r)]
    exact least_len _
  have h2 := h (back r)
  rw [back_back] at h2
  exact Nat.le_antisymm (h r) h2
theorem held_ropes (r : Row) : heldF r = ropesF (leastF r) := (ropes_same (first_lines (settledF r))).symm
def putF (r q : Row) : Row := leastF (r ++ q)
theorem put_same {r r' q q' : Row} (h1 : pile r = pile r') (h2 : pile q = pile q') : putF r q = putF r' q' := least_same (pile_both h1 h2)
theorem pile_put (r q : Row) : pile (putF r q) = pile (r ++ q) := pile_least _
theorem put_put (r q s : Row) : putF (putF r q) s = leastF (r ++ q ++ s) := least_same (pile_both (pile_put r q) rfl)
theorem put_put2 (r q s : Row) : putF r (putF q s) = leastF (r ++ q ++ s) := by
  rw [List.append_assoc]
  exact least_same (pile_both rfl (pile_put q s))
theorem pile_nil_least {r : Row} (h : pile r = pile []) : leastF r = [] := by rw [least_same h, leastF_nil]
end SH
/-! SHzb: rows put together, their size; the promises ready for use. -/
namespace SH
open PySem PySem.Spec PyProof.Rows L2 DL
abbrev rowD (r : Row) : PyData := .list (r.map hookD)
def Ph_put (rs : List R) (P : R → Prop) : Prop := ∃ (r q : Row) (D E : PyData), RowD D r ∧ RowD E q ∧ rs = [.d D, .d E] ∧ r.length ≤ 4000 ∧ q.length ≤ 4000 ∧ RowIn r ∧ RowIn q ∧ P (.f ((putF r q).map hookD))
def Ph_size (rs : List R) (P : R → Prop) : Prop := ∃ (row : Row) (D : PyData), RowD D row ∧ rs = [.d D] ∧ row.length ≤ 1000000 ∧ RowIn row ∧ P (.d (.int ((leastF row).length : Nat)))
/-- put -/
def w_put : DTS := (wRet (wCall Ph_least (wCons (wBin addD (wCB listC (wCons (wVar 0) wNil)) (wCB listC (wCons (wVar 1) wNil))) wNil)))
/-- size -/
def w_size : DTS := (wRet (wCB lenD (wCons (wCall Ph_least (wCons (wVar 0) wNil)) wNil)))
theorem RowIn.app {r q : Row} (h : RowIn r) (h2 : RowIn q) : RowIn (r ++ q) := fun x hx => (List.mem_append.mp hx).elim (h x) (h2 x)
theorem RowIn.back {r : Row} (h : RowIn r) : RowIn (SH.back r) := fun x hx => by
  unfold SH.back at hx
  obtain ⟨y, hy, rfl⟩ := List.mem_map.mp hx
  exact h y (List.mem_reverse.mp hy)
theorem put_len (r q : Row) : (putF r q).length ≤ r.length + q.length := by
  have := least_len (r ++ q)
  rwa [List.length_append] at this
theorem RowIn.put {r q : Row} (h : RowIn r) (h2 : RowIn q) : RowIn (putF r q) := (h.app h2).least
theorem r_put (rs : List R) (Pd : R → Prop) (h : Ph_put rs Pd) (hl : rs.length = 2) : w_put { nx := fun _ _ => Pd (.d .none), rt := fun r κ => Opt (outR κ 0 r) Pd } (rs.map some ++ List.replicate 0 none) [] := by
  obtain ⟨r, q, D, E, hD, hE, rfl, l1, l2, i1, i2, k⟩ := h
  have e := add_rows (x := r) (y := q) (by omega)
  rcases hD with rfl | rfl <;> rcases hE with rfl | rfl
  all_goals simp [w_put]
  all_goals rw [e]
  all_goals simp only [Opt_some, out_n, st_f, args_d, DL.args_nil]
  all_goals exact ⟨r ++ q, _, .inl rfl, rfl, by rw [List.length_append]; omega, i1.app i2, k⟩
theorem r_size (rs : List R) (Pd : R → Prop) (h : Ph_size rs Pd) (hl : rs.length = 1) : w_size { nx := fun _ _ => Pd (.d .none), rt := fun r κ => Opt (outR κ 0 r) Pd } (rs.map some ++ List.replicate 0 none) [] := by
  obtain ⟨row, D, hD, rfl, l1, i1, k⟩ := h
  simp [w_size]
  exact ⟨row, D, hD, rfl, l1, i1, by simpa using k⟩
/-! ready for use -/
theorem ph_put {r q : Row} {P : R → Prop} (l1 : r.length ≤ 4000) (l2 : q.length ≤ 4000) (i1 : RowIn r) (i2 : RowIn q) (k : P (.f ((putF r q).map hookD))) : Ph_put [.d (rowD r), .d (rowD q)] P := ⟨r, q, _, _, .inl rfl, .inl rfl, rfl, l1, l2, i1, i2, k⟩
theorem ph_putT {r q : Row} {P : R → Prop} (l1 : r.length ≤ 4000) (l2 : q.length ≤ 4000) (i1 : RowIn r) (i2 : RowIn q) (k : P (.f ((putF r q).map hookD))) : Ph_put [.d (.tuple (r.map hookD)), .d (.tuple (q.map hookD))] P := ⟨r, q, _, _, .inr rfl, .inr rfl, rfl, l1, l2, i1, i2, k⟩
theorem ph_size {r : Row} {P : R → Prop} (l1 : r.length ≤ 1000000) (i1 : RowIn r) (k : P (.d (.int ((leastF r).length : Nat)))) : Ph_size [.d (rowD r)] P := ⟨r, _, .inl rfl, rfl, l1, i1, k⟩
theorem ph_least {r : Row} {P : R → Prop} (l1 : r.length ≤ 1000000) (i1 : RowIn r) (k : P (.f ((leastF r).map hookD))) : Ph_least [.d (rowD r)] P := ⟨r, _, .inl rfl, rfl, l1, i1, k⟩
theorem ph_lawleast {r : Row} {P : R → Prop} (l1 : r.length < 1000) (i1 : RowIn r) (k : P (.f ((leastF r).map hookD))) : Ph_law_least [.d (rowD r)] P := ⟨r, _, .inl rfl, rfl, l1, i1, k⟩
theorem ph_back {r : Row} {P : R → Prop} (l1 : r.length ≤ 1000000) (k : P (.f ((SH.back r).map hookD))) : Ph_back [.d (rowD r)] P := ⟨r, rfl, by rw [sizeLine_eq]; omega, k⟩
theorem ph_alike {r q : Row} {P : R → Prop} (l1 : r.length ≤ 1000000) (l2 : q.length ≤ 1000000) (i1 : RowIn r) (i2 : RowIn q) (k : P (.d (.bool (decide (leastF r = leastF q))))) : Ph_alike [.d (rowD r), .d (rowD q)] P := ⟨r, q, _, _, .inl rfl, .inl rfl, rfl, l1, l2, i1, i2, k⟩
theorem ph_held {r : Row} {P : R → Prop} (l1 : r.length ≤ 2000) (i1 : RowIn r) (k : P (.d (.tuple ((heldF r).map .str)))) : Ph_held [.d (rowD r)] P := ⟨r, _, .inl rfl, rfl, l1, i1, k⟩
theorem ph_ropes {r : Row} {P : R → Prop} (l1 : r.length ≤ 2000) (k : P (.d (.tuple ((ropesF r).map .str)))) : Ph_ropes_in [.d (rowD r)] P := ⟨r, _, .inl rfl, rfl, l1, k⟩
theorem ph_lawropes {r : Row} {P : R → Prop} (l1 : r.length ≤ 2000) (k : P (.d (.tuple ((ropesF r).map .str)))) : Ph_law_ropes [.d (rowD r)] P := ⟨r, rfl, l1, k⟩
theorem ph_same {n : Nat} {x y : PyData} {P : R → Prop} (e : x = y) (g : GoodN n x) (k : P (.d (.bool true))) : Ph_law_sameN n [.d x, .d y] P := by
  subst e
  exact ⟨x, rfl, g, k⟩
theorem mul2 (x : PyData) : mulD (.list [x]) (.int 2) = some (.n [x, x]) := mulD_one (n := 2) (by decide)
theorem mul3 (x : PyData) : mulD (.list [x]) (.int 3) = some (.n [x, x, x]) := mulD_one (n := 3) (by decide)
theorem good_rows {n : Nat} : ∀ {xs : List PyData}, xs.length ≤ 1000 → (∀ x ∈ xs, GoodN n x) → GoodN (n + 1) (.list xs) := fun {xs} l h => ⟨by rw [sizeLine_eq]; omega, h⟩
theorem good_rowIn {r : Row} {n : Nat} (h : RowIn r) (hl : r.length ≤ 1000000) : GoodN (n + 3) (rowD r) := SH.good_row h.ok (by rw [sizeLine_eq]; omega)
theorem good_strsT {l : List Str} {n : Nat} (h : Names l) (hl : l.length ≤ 1000000) : GoodN (n + 2) (.tuple (l.map .str)) := ⟨by rw [List.length_map, sizeLine_eq]; omega, fun x hx => by
  obtain ⟨z, hz, rfl⟩ := List.mem_map.mp hx
  exact (h.1 z hz).shaped⟩
theorem istt : truth (.bool true) = some true := rfl
theorem istf : truth (.bool false) = some false := rfl
theorem isB2 (neg a b : Bool) : isND neg (.bool a) (.bool b) = some (.v (.bool (if neg then !decide (a = b) else decide (a = b)))) := rfl
end SH
/-! K64l: rows put together and undone. -/
namespace K64
open PySem PySem.Spec PyProof.Rows L2 DL SH
abbrev Row := SH.Row
def Ph_law_right (bs : List PyData) (rs : List R) (P : R → List PyData → Prop) : Prop := ∃ N : Int, Box N bs ∧ N ≤ 2 ^ 30 ∧ rs = [] ∧ ∀ bs', Box (N + 70000) bs' → P (.d (.bool true)) bs'
def w1 : DTS := (wIfS (wNot (wTru (wCall Ph_law_same (wCons (wLst (wCons (wCall Ph_put (wCons (wVar 2) (wCons (wVar 3) wNil))) (wCons (wCall Ph_put (wCons (wVar 5) (wCons (wVar 3) wNil))) (wCons (wCall Ph_put (wCons (wCall Ph_law_least (wCons (wVar 2) wNil)) (wCons (wVar 3) wNil))) wNil)))) (wCons (wBin mulD (wLst (wCons (wVar 7) wNil)) (wC (.int 3))) wNil))))) (wRet (wC (.bool false))) wNext)
def w2 : DTS := (wIfS (wNot (wTru (wCall Ph_law_same (wCons (wLst (wCons (wCall Ph_put (wCons (wCall Ph_put (wCons (wVar 2) (wCons (wVar 3) wNil))) (wCons (wVar 4) wNil))) (wCons (wCall Ph_put (wCons (wVar 2) (wCons (wCall Ph_put (wCons (wVar 3) (wCons (wVar 4) wNil))) wNil))) wNil))) (wCons (wBin mulD (wLst (wCons (wCall Ph_law_least (wCons (wBin addD (wBin addD (wVar 2) (wVar 3)) (wVar 4)) wNil)) wNil)) (wC (.int 2))) wNil))))) (wRet (wC (.bool false))) wNext)
def w3 : DTS := (wIfS (wNot (wTru (wCall Ph_law_same (wCons (wLst (wCons (wCall Ph_put (wCons (wVar 2) (wCons (wCall Ph_back (wCons (wVar 2) wNil)) wNil))) (wCons (wCall Ph_put (wCons (wCall Ph_back (wCons (wVar 2) wNil)) (wCons (wVar 2) wNil))) (wCons (wCall Ph_put (wCons (wCall Ph_back (wCons (wVar 5) wNil)) (wCons (wVar 2) wNil))) wNil)))) (wCons (wLst (wCons (wLst wNil) (wCons (wLst wNil) (wCons (wLst wNil) wNil)))) wNil))))) (wRet (wC (.bool false))) wNext)
def w4 : DTS := (wIfS (wNot (wTru (wCall Ph_law_same (wCons (wLst (wCons (wCall Ph_back (wCons (wCall Ph_back (wCons (wVar 2) wNil)) wNil)) (wCons (wCall Ph_back (wCons (wBin addD (wVar 2) (wVar 3)) wNil)) wNil))) (wCons (wLst (wCons (wVar 2) (wCons (wBin addD (wCall Ph_law_back (wCons (wVar 3) wNil)) (wCall Ph_law_back (wCons (wVar 2) wNil))) wNil))) wNil))))) (wRet (wC (.bool false))) wNext)
def w5 : DTS := (wIfS (wNot (wTru (wCall Ph_law_same (wCons (wLst (wCons (wCall Ph_size (wCons (wCall Ph_back (wCons (wVar 2) wNil)) wNil)) (wCons (wCall Ph_size (wCons (wVar 2) wNil)) wNil))) (wCons (wBin mulD (wLst (wCons (wCB lenD (wCons (wCall Ph_law_least (wCons (wVar 2) wNil)) wNil)) wNil)) (wC (.int 2))) wNil))))) (wRet (wC (.bool false))) wNext)
def w6 : DTS := (wIfS (wNot (wTru (wCall Ph_law_same (wCons (wLst (wCons (wCall Ph_held (wCons (wCall Ph_put (wCons (wVar 2) (wCons (wVar 3) wNil))) wNil)) (wCons (wCall Ph_ropes_in (wCons (wVar 7) wNil)) wNil))) (wCons (wBin mulD (wLst (wCons (wCall Ph_law_ropes (wCons (wVar 7) wNil)) wNil)) (wC (.int 2))) wNil))))) (wRet (wC (.bool false))) wNext)
def w7 : DTS := (wRet (wAndV (wBin (eqD false) (wCall Ph_put (wCons (wCB tupC (wCons (wVar 2) wNil)) (wCons (wCB tupC (wCons (wVar 3) wNil)) wNil))) (wVar 7)) (wBin (eqD false) (wRepr (wLst (wCons (wVar 2) (wCons (wVar 3) (wCons (wVar 4) wNil))))) (wVar 6))))
/-- _law_right -/
def w_law_right : DTS := (wSeq (wSet false 1 (wCallL Ph_law_names (wCons (wVar 0) (wCons (wBin addD (wC (.int 2)) (wCallL Ph_law_take (wCons (wVar 0) (wCons (wC (.int 5)) wNil)))) wNil))))
  (wSeq (wAsg (wLc (wRng1 (wCons (wC (.int 3)) wNil)) (wName 8) wYes (wCallL Ph_law_row (wCons (wVar 0) (wCons (wVar 1) (wCons (wC (.int 30)) wNil)))) [8]) (wTupL 3 (wgCons (wName 2) (wgCons (wName 3) (wgCons (wName 4) wgNil)))))
  (wSeq (wPar 5 6 (wConsM false (wCallL Ph_law_otherwise (wCons (wVar 0) (wCons (wVar 1) (wCons (wVar 2) (wCons (wC (.int 10)) wNil))))) (wConsM false (wRepr (wLst (wCons (wVar 2) (wCons (wVar 3) (wCons (wVar 4) wNil))))) wNil)))
  (wSeq (wSet false 7 (wCall Ph_law_least (wCons (wBin addD (wVar 2) (wVar 3)) wNil)))
  (wSeq w1 (wSeq w2 (wSeq w3 (wSeq w4 (wSeq w5 (wSeq w6 w7))))))))))
section
variable {E : DEnds} {ns : List Str} {one two three like : Row} {before : Str} {bs : List PyData} {q8 : Option R}
abbrev rho (ns : List Str) (one two three like : Row) (before : Str) (q8 : Option R) : Rho := [some (.c 0), some (.d (.list (ns.map .str))), some (.d (rowD one)), some (.d (rowD two)), some (.d (rowD three)), some (.d (rowD like)), some (.d (.str before)), some (.d (rowD (putF one two))), q8]
theorem mem2 {p : PyData → Prop} {a b : PyData} (h1 : p a) (h2 : p b) : ∀ x ∈ [a, b], p x := fun x hx => by
  rcases List.mem_cons.mp hx with rfl | hx
  · exact h1
  rw [List.mem_singleton.mp hx]; exact h2
theorem mem3 {p : PyData → Prop} {a b c : PyData} (h1 : p a) (h2 : p b) (h3 : p c) : ∀ x ∈ [a, b, c], p x := fun x hx => by
  rcases List.mem_cons.mp hx with rfl | hx
  · exact h1
  exact mem2 h2 h3 x hx
theorem go1 (i1 : RowIn one) (i2 : RowIn two) (i5 : RowIn like) (l1 : one.length ≤ 30) (l2 : two.length ≤ 30) (l5 : like.length ≤ 30) (e : pile like = pile one)
    (k : E.nx (rho ns one two three like before q8) [.l bs]) : w1 E (rho ns one two three like before q8) [.l bs] := by
  have hz := sizeLine_eq
  have m1 := least_len one
  have mp := put_len one two
  unfold w1
  rw [s_if]
  simp only [s_callL, s_call, s_cons, s_consM, s_nil, s_c, s_var, s_bin, s_un, s_lst, s_tup, s_cb, s_B, s_tru, s_not, s_repr, List.getElem?_cons_succ, List.getElem?_cons_zero, List.set_cons_succ, List.set_cons_zero, st_d, st_f, st_c, val_d, val_f, dats_d, dats_nil, vals_cons, vals_nil, lend_c, args_d, DL.args_nil, Opt_some, out_v, out_n, out_t, lab_d, lab_f, sto_f, sto_d, List.length_cons, List.length_nil, lenD_list, lenD_tuple, listC_list, listC_tuple, tupC_list, tupC_tuple, istt, istf, Bool.not_true, Bool.not_false, Bool.false_eq_true, if_false, if_true]
  refine ph_put (by omega) (by omega) i1 i2 ?_
  simp only [s_callL, s_call, s_cons, s_consM, s_nil, s_c, s_var, s_bin, s_un, s_lst, s_tup, s_cb, s_B, s_tru, s_not, s_repr, List.getElem?_cons_succ, List.getElem?_cons_zero, List.set_cons_succ, List.set_cons_zero, st_d, st_f, st_c, val_d, val_f, dats_d, dats_nil, vals_cons, vals_nil, lend_c, args_d, DL.args_nil, Opt_some, out_v, out_n, out_t, lab_d, lab_f, sto_f, sto_d, List.length_cons, List.length_nil, lenD_list, lenD_tuple, listC_list, listC_tuple, tupC_list, tupC_tuple, istt, istf, Bool.not_true, Bool.not_false, Bool.false_eq_true, if_false, if_true]
  refine ph_put (by omega) (by omega) i5 i2 ?_
  simp only [s_callL, s_call, s_cons, s_consM, s_nil, s_c, s_var, s_bin, s_un, s_lst, s_tup, s_cb, s_B, s_tru, s_not, s_repr, List.getElem?_cons_succ, List.getElem?_cons_zero, List.set_cons_succ, List.set_cons_zero, st_d, st_f, st_c, val_d, val_f, dats_d, dats_nil, vals_cons, vals_nil, lend_c, args_d, DL.args_nil, Opt_some, out_v, out_n, out_t, lab_d, lab_f, sto_f, sto_d, List.length_cons, List.length_nil, lenD_list, lenD_tuple, listC_list, listC_tuple, tupC_list, tupC_tuple, istt, istf, Bool.not_true, Bool.not_false, Bool.false_eq_true, if_false, if_true]
  refine ph_lawleast (by omega) i1 ?_
  simp only [s_callL, s_call, s_cons, s_consM, s_nil, s_c, s_var, s_bin, s_un, s_lst, s_tup, s_cb, s_B, s_tru, s_not, s_repr, List.getElem?_cons_succ, List.getElem?_cons_zero, List.set_cons_succ, List.set_cons_zero, st_d, st_f, st_c, val_d, val_f, dats_d, dats_nil, vals_cons, vals_nil, lend_c, args_d, DL.args_nil, Opt_some, out_v, out_n, out_t, lab_d, lab_f, sto_f, sto_d, List.length_cons, List.length_nil, lenD_list, lenD_tuple, listC_list, listC_tuple, tupC_list, tupC_tuple, istt, istf, Bool.not_true, Bool.not_false, Bool.false_eq_true, if_false, if_true]
  refine ph_put (by omega) (by omega) i1.least i2 ?_
  simp only [s_callL, s_call, s_cons, s_consM, s_nil, s_c, s_var, s_bin, s_un, s_lst, s_tup, s_cb, s_B, s_tru, s_not, s_repr, List.getElem?_cons_succ, List.getElem?_cons_zero, List.set_cons_succ, List.set_cons_zero, st_d, st_f, st_c, val_d, val_f, dats_d, dats_nil, vals_cons, vals_nil, lend_c, args_d, DL.args_nil, Opt_some, out_v, out_n, out_t, lab_d, lab_f, sto_f, sto_d, List.length_cons, List.length_nil, lenD_list, lenD_tuple, listC_list, listC_tuple, tupC_list, tupC_tuple, istt, istf, Bool.not_true, Bool.not_false, Bool.false_eq_true, if_false, if_true, mul3, put_same e (rfl : pile two = pile two), put_same (pile_least one) (rfl : pile two = pile two)]
  refine ⟨by omega, by omega, ph_same rfl (good_rows (by simp) (mem3 (good_rowIn (i1.put i2) (by omega)) (good_rowIn (i1.put i2) (by omega)) (good_rowIn (i1.put i2) (by omega)))) ?_⟩
  simp only [s_callL, s_call, s_cons, s_consM, s_nil, s_c, s_var, s_bin, s_un, s_lst, s_tup, s_cb, s_B, s_tru, s_not, s_repr, List.getElem?_cons_succ, List.getElem?_cons_zero, List.set_cons_succ, List.set_cons_zero, st_d, st_f, st_c, val_d, val_f, dats_d, dats_nil, vals_cons, vals_nil, lend_c, args_d, DL.args_nil, Opt_some, out_v, out_n, out_t, lab_d, lab_f, sto_f, sto_d, List.length_cons, List.length_nil, lenD_list, lenD_tuple, listC_list, listC_tuple, tupC_list, tupC_tuple, istt, istf, Bool.not_true, Bool.not_false, Bool.false_eq_true, if_false, if_true]
  exact k
theorem go2 (i1 : RowIn one) (i2 : RowIn two) (i3 : RowIn three) (l1 : one.length ≤ 30) (l2 : two.length ≤ 30) (l3 : three.length ≤ 30)
    (k : E.nx (rho ns one two three like before q8) [.l bs]) : w2 E (rho ns one two three like before q8) [.l bs] := by
  have hz := sizeLine_eq
  have m1 := put_len one two
  have m2 := put_len two three
  have m3 := least_len (one ++ two ++ three)
  have ml : (one ++ two ++ three).length = one.length + two.length + three.length := by rw [List.length_append, List.length_append]
  have ml2 : (one ++ two).length = one.length + two.length := by rw [List.length_append]
  unfold w2
  rw [s_if]
  simp only [s_callL, s_call, s_cons, s_consM, s_nil, s_c, s_var, s_bin, s_un, s_lst, s_tup, s_cb, s_B, s_tru, s_not, s_repr, List.getElem?_cons_succ, List.getElem?_cons_zero, List.set_cons_succ, List.set_cons_zero, st_d, st_f, st_c, val_d, val_f, dats_d, dats_nil, vals_cons, vals_nil, lend_c, args_d, DL.args_nil, Opt_some, out_v, out_n, out_t, lab_d, lab_f, sto_f, sto_d, List.length_cons, List.length_nil, lenD_list, lenD_tuple, listC_list, listC_tuple, tupC_list, tupC_tuple, istt, istf, Bool.not_true, Bool.not_false, Bool.false_eq_true, if_false, if_true]
  refine ph_put (by omega) (by omega) i1 i2 ?_
  simp only [s_callL, s_call, s_cons, s_consM, s_nil, s_c, s_var, s_bin, s_un, s_lst, s_tup, s_cb, s_B, s_tru, s_not, s_repr, List.getElem?_cons_succ, List.getElem?_cons_zero, List.set_cons_succ, List.set_cons_zero, st_d, st_f, st_c, val_d, val_f, dats_d, dats_nil, vals_cons, vals_nil, lend_c, args_d, DL.args_nil, Opt_some, out_v, out_n, out_t, lab_d, lab_f, sto_f, sto_d, List.length_cons, List.length_nil, lenD_list, lenD_tuple, listC_list, listC_tuple, tupC_list, tupC_tuple, istt, istf, Bool.not_true, Bool.not_false, Bool.false_eq_true, if_false, if_true]
  refine ph_put (by omega) (by omega) (i1.put i2) i3 ?_
  simp only [s_callL, s_call, s_cons, s_consM, s_nil, s_c, s_var, s_bin, s_un, s_lst, s_tup, s_cb, s_B, s_tru, s_not, s_repr, List.getElem?_cons_succ, List.getElem?_cons_zero, List.set_cons_succ, List.set_cons_zero, st_d, st_f, st_c, val_d, val_f, dats_d, dats_nil, vals_cons, vals_nil, lend_c, args_d, DL.args_nil, Opt_some, out_v, out_n, out_t, lab_d, lab_f, sto_f, sto_d, List.length_cons, List.length_nil, lenD_list, lenD_tuple, listC_list, listC_tuple, tupC_list, tupC_tuple, istt, istf, Bool.not_true, Bool.not_false, Bool.false_eq_true, if_false, if_true]
  refine ph_put (by omega) (by omega) i2 i3 ?_
  simp only [s_callL, s_call, s_cons, s_consM, s_nil, s_c, s_var, s_bin, s_un, s_lst, s_tup, s_cb, s_B, s_tru, s_not, s_repr, List.getElem?_cons_succ, List.getElem?_cons_zero, List.set_cons_succ, List.set_cons_zero, st_d, st_f, st_c, val_d, val_f, dats_d, dats_nil, vals_cons, vals_nil, lend_c, args_d, DL.args_nil, Opt_some, out_v, out_n, out_t, lab_d, lab_f, sto_f, sto_d, List.length_cons, List.length_nil, lenD_list, lenD_tuple, listC_list, listC_tuple, tupC_list, tupC_tuple, istt, istf, Bool.not_true, Bool.not_false, Bool.false_eq_true, if_false, if_true]
  refine ph_put (by omega) (by omega) i1 (i2.put i3) ?_
  simp only [s_callL, s_call, s_cons, s_consM, s_nil, s_c, s_var, s_bin, s_un, s_lst, s_tup, s_cb, s_B, s_tru, s_not, s_repr, List.getElem?_cons_succ, List.getElem?_cons_zero, List.set_cons_succ, List.set_cons_zero, st_d, st_f, st_c, val_d, val_f, dats_d, dats_nil, vals_cons, vals_nil, lend_c, args_d, DL.args_nil, Opt_some, out_v, out_n, out_t, lab_d, lab_f, sto_f, sto_d, List.length_cons, List.length_nil, lenD_list, lenD_tuple, listC_list, listC_tuple, tupC_list, tupC_tuple, istt, istf, Bool.not_true, Bool.not_false, Bool.false_eq_true, if_false, if_true, add_rows (show one.length + two.length ≤ 10000 by omega), add_rows (show (one ++ two).length + three.length ≤ 10000 by omega)]
  refine ⟨by omega, ph_lawleast (by omega) ((i1.app i2).app i3) ?_⟩
  simp only [s_callL, s_call, s_cons, s_consM, s_nil, s_c, s_var, s_bin, s_un, s_lst, s_tup, s_cb, s_B, s_tru, s_not, s_repr, List.getElem?_cons_succ, List.getElem?_cons_zero, List.set_cons_succ, List.set_cons_zero, st_d, st_f, st_c, val_d, val_f, dats_d, dats_nil, vals_cons, vals_nil, lend_c, args_d, DL.args_nil, Opt_some, out_v, out_n, out_t, lab_d, lab_f, sto_f, sto_d, List.length_cons, List.length_nil, lenD_list, lenD_tuple, listC_list, listC_tuple, tupC_list, tupC_tuple, istt, istf, Bool.not_true, Bool.not_false, Bool.false_eq_true, if_false, if_true, mul2, put_put, put_put2]
  refine ⟨by omega, ph_same rfl (good_rows (by simp) (mem2 (good_rowIn ((i1.app i2).app i3).least (by omega)) (good_rowIn ((i1.app i2).app i3).least (by omega)))) ?_⟩
  simp only [s_callL, s_call, s_cons, s_consM, s_nil, s_c, s_var, s_bin, s_un, s_lst, s_tup, s_cb, s_B, s_tru, s_not, s_repr, List.getElem?_cons_succ, List.getElem?_cons_zero, List.set_cons_succ, List.set_cons_zero, st_d, st_f, st_c, val_d, val_f, dats_d, dats_nil, vals_cons, vals_nil, lend_c, args_d, DL.args_nil, Opt_some, out_v, out_n, out_t, lab_d, lab_f, sto_f, sto_d, List.length_cons, List.length_nil, lenD_list, lenD_tuple, listC_list, listC_tuple, tupC_list, tupC_tuple, istt, istf, Bool.not_true, Bool.not_false, Bool.false_eq_true, if_false, if_true]
  exact k
theorem go3 (i1 : RowIn one) (i5 : RowIn like) (l1 : one.length ≤ 30) (l5 : like.length ≤ 30) (e : pile like = pile one)
    (k : E.nx (rho ns one two three like before q8) [.l bs]) : w3 E (rho ns one two three like before q8) [.l bs] := by
  have hz := sizeLine_eq
  have b1 := back_len one
  have b5 := back_len like
  have e1 : putF one (SH.back one) = [] := pile_nil_least (pile_undo one)
  have e2 : putF (SH.back one) one = [] := pile_nil_least (pile_undo2 one)
  have e3 : putF (SH.back like) one = [] := (put_same (pile_backs e) rfl).trans e2
  have gn : GoodN 7 (rowD []) := ⟨by show 0 ≤ _; omega, fun x hx => by cases hx⟩
  unfold w3
  rw [s_if]
  simp only [s_callL, s_call, s_cons, s_consM, s_nil, s_c, s_var, s_bin, s_un, s_lst, s_tup, s_cb, s_B, s_tru, s_not, s_repr, List.getElem?_cons_succ, List.getElem?_cons_zero, List.set_cons_succ, List.set_cons_zero, st_d, st_f, st_c, val_d, val_f, dats_d, dats_nil, vals_cons, vals_nil, lend_c, args_d, DL.args_nil, Opt_some, out_v, out_n, out_t, lab_d, lab_f, sto_f, sto_d, List.length_cons, List.length_nil, lenD_list, lenD_tuple, listC_list, listC_tuple, tupC_list, tupC_tuple, istt, istf, Bool.not_true, Bool.not_false, Bool.false_eq_true, if_false, if_true]
  refine ph_back (by omega) ?_
  simp only [s_callL, s_call, s_cons, s_consM, s_nil, s_c, s_var, s_bin, s_un, s_lst, s_tup, s_cb, s_B, s_tru, s_not, s_repr, List.getElem?_cons_succ, List.getElem?_cons_zero, List.set_cons_succ, List.set_cons_zero, st_d, st_f, st_c, val_d, val_f, dats_d, dats_nil, vals_cons, vals_nil, lend_c, args_d, DL.args_nil, Opt_some, out_v, out_n, out_t, lab_d, lab_f, sto_f, sto_d, List.length_cons, List.length_nil, lenD_list, lenD_tuple, listC_list, listC_tuple, tupC_list, tupC_tuple, istt, istf, Bool.not_true, Bool.not_false, Bool.false_eq_true, if_false, if_true]
  refine ph_put (by omega) (by omega) i1 i1.back ?_
  simp only [s_callL, s_call, s_cons, s_consM, s_nil, s_c, s_var, s_bin, s_un, s_lst, s_tup, s_cb, s_B, s_tru, s_not, s_repr, List.getElem?_cons_succ, List.getElem?_cons_zero, List.set_cons_succ, List.set_cons_zero, st_d, st_f, st_c, val_d, val_f, dats_d, dats_nil, vals_cons, vals_nil, lend_c, args_d, DL.args_nil, Opt_some, out_v, out_n, out_t, lab_d, lab_f, sto_f, sto_d, List.length_cons, List.length_nil, lenD_list, lenD_tuple, listC_list, listC_tuple, tupC_list, tupC_tuple, istt, istf, Bool.not_true, Bool.not_false, Bool.false_eq_true, if_false, if_true]
  refine ph_back (by omega) ?_
  simp only [s_callL, s_call, s_cons, s_consM, s_nil, s_c, s_var, s_bin, s_un, s_lst, s_tup, s_cb, s_B, s_tru, s_not, s_repr, List.getElem?_cons_succ, List.getElem?_cons_zero, List.set_cons_succ, List.set_cons_zero, st_d, st_f, st_c, val_d, val_f, dats_d, dats_nil, vals_cons, vals_nil, lend_c, args_d, DL.args_nil, Opt_some, out_v, out_n, out_t, lab_d, lab_f, sto_f, sto_d, List.length_cons, List.length_nil, lenD_list, lenD_tuple, listC_list, listC_tuple, tupC_list, tupC_tuple, istt, istf, Bool.not_true, Bool.not_false, Bool.false_eq_true, if_false, if_true]
  refine ph_put (by omega) (by omega) i1.back i1 ?_
  simp only [s_callL, s_call, s_cons, s_consM, s_nil, s_c, s_var, s_bin, s_un, s_lst, s_tup, s_cb, s_B, s_tru, s_not, s_repr, List.getElem?_cons_succ, List.getElem?_cons_zero, List.set_cons_succ, List.set_cons_zero, st_d, st_f, st_c, val_d, val_f, dats_d, dats_nil, vals_cons, vals_nil, lend_c, args_d, DL.args_nil, Opt_some, out_v, out_n, out_t, lab_d, lab_f, sto_f, sto_d, List.length_cons, List.length_nil, lenD_list, lenD_tuple, listC_list, listC_tuple, tupC_list, tupC_tuple, istt, istf, Bool.not_true, Bool.not_false, Bool.false_eq_true, if_false, if_true]
  refine ph_back (by omega) ?_
  simp only [s_callL, s_call, s_cons, s_consM, s_nil, s_c, s_var, s_bin, s_un, s_lst, s_tup, s_cb, s_B, s_tru, s_not, s_repr, List.getElem?_cons_succ, List.getElem?_cons_zero, List.set_cons_succ, List.set_cons_zero, st_d, st_f, st_c, val_d, val_f, dats_d, dats_nil, vals_cons, vals_nil, lend_c, args_d, DL.args_nil, Opt_some, out_v, out_n, out_t, lab_d, lab_f, sto_f, sto_d, List.length_cons, List.length_nil, lenD_list, lenD_tuple, listC_list, listC_tuple, tupC_list, tupC_tuple, istt, istf, Bool.not_true, Bool.not_false, Bool.false_eq_true, if_false, if_true]
  refine ph_put (by omega) (by omega) i5.back i1 ?_
  simp only [s_callL, s_call, s_cons, s_consM, s_nil, s_c, s_var, s_bin, s_un, s_lst, s_tup, s_cb, s_B, s_tru, s_not, s_repr, List.getElem?_cons_succ, List.getElem?_cons_zero, List.set_cons_succ, List.set_cons_zero, st_d, st_f, st_c, val_d, val_f, dats_d, dats_nil, vals_cons, vals_nil, lend_c, args_d, DL.args_nil, Opt_some, out_v, out_n, out_t, lab_d, lab_f, sto_f, sto_d, List.length_cons, List.length_nil, lenD_list, lenD_tuple, listC_list, listC_tuple, tupC_list, tupC_tuple, istt, istf, Bool.not_true, Bool.not_false, Bool.false_eq_true, if_false, if_true, e1, e2, e3]
  refine ⟨by omega, by omega, by omega, by omega, by omega, ph_same rfl (good_rows (by simp) (mem3 gn gn gn)) ?_⟩
  simp only [s_callL, s_call, s_cons, s_consM, s_nil, s_c, s_var, s_bin, s_un, s_lst, s_tup, s_cb, s_B, s_tru, s_not, s_repr, List.getElem?_cons_succ, List.getElem?_cons_zero, List.set_cons_succ, List.set_cons_zero, st_d, st_f, st_c, val_d, val_f, dats_d, dats_nil, vals_cons, vals_nil, lend_c, args_d, DL.args_nil, Opt_some, out_v, out_n, out_t, lab_d, lab_f, sto_f, sto_d, List.length_cons, List.length_nil, lenD_list, lenD_tuple, listC_list, listC_tuple, tupC_list, tupC_tuple, istt, istf, Bool.not_true, Bool.not_false, Bool.false_eq_true, if_false, if_true]
  exact k
theorem go4 (i1 : RowIn one) (i2 : RowIn two) (l1 : one.length ≤ 30) (l2 : two.length ≤ 30)
    (k : E.nx (rho ns one two three like before q8) [.l bs]) : w4 E (rho ns one two three like before q8) [.l bs] := by
  have hz := sizeLine_eq
  have b1 := back_len one
  have b2 := back_len two
  have ml2 : (one ++ two).length = one.length + two.length := by rw [List.length_append]
  have mb : (SH.back two ++ SH.back one).length = one.length + two.length := by rw [List.length_append]; omega
  unfold w4
  rw [s_if]
  simp only [s_callL, s_call, s_cons, s_consM, s_nil, s_c, s_var, s_bin, s_un, s_lst, s_tup, s_cb, s_B, s_tru, s_not, s_repr, List.getElem?_cons_succ, List.getElem?_cons_zero, List.set_cons_succ, List.set_cons_zero, st_d, st_f, st_c, val_d, val_f, dats_d, dats_nil, vals_cons, vals_nil, lend_c, args_d, DL.args_nil, Opt_some, out_v, out_n, out_t, lab_d, lab_f, sto_f, sto_d, List.length_cons, List.length_nil, lenD_list, lenD_tuple, listC_list, listC_tuple, tupC_list, tupC_tuple, istt, istf, Bool.not_true, Bool.not_false, Bool.false_eq_true, if_false, if_true]
  refine ph_back (by omega) ?_
  simp only [s_callL, s_call, s_cons, s_consM, s_nil, s_c, s_var, s_bin, s_un, s_lst, s_tup, s_cb, s_B, s_tru, s_not, s_repr, List.getElem?_cons_succ, List.getElem?_cons_zero, List.set_cons_succ, List.set_cons_zero, st_d, st_f, st_c, val_d, val_f, dats_d, dats_nil, vals_cons, vals_nil, lend_c, args_d, DL.args_nil, Opt_some, out_v, out_n, out_t, lab_d, lab_f, sto_f, sto_d, List.length_cons, List.length_nil, lenD_list, lenD_tuple, listC_list, listC_tuple, tupC_list, tupC_tuple, istt, istf, Bool.not_true, Bool.not_false, Bool.false_eq_true, if_false, if_true]
  refine ph_back (by omega) ?_
  simp only [s_callL, s_call, s_cons, s_consM, s_nil, s_c, s_var, s_bin, s_un, s_lst, s_tup, s_cb, s_B, s_tru, s_not, s_repr, List.getElem?_cons_succ, List.getElem?_cons_zero, List.set_cons_succ, List.set_cons_zero, st_d, st_f, st_c, val_d, val_f, dats_d, dats_nil, vals_cons, vals_nil, lend_c, args_d, DL.args_nil, Opt_some, out_v, out_n, out_t, lab_d, lab_f, sto_f, sto_d, List.length_cons, List.length_nil, lenD_list, lenD_tuple, listC_list, listC_tuple, tupC_list, tupC_tuple, istt, istf, Bool.not_true, Bool.not_false, Bool.false_eq_true, if_false, if_true, add_rows (show one.length + two.length ≤ 10000 by omega)]
  refine ph_back (by omega) ?_
  simp only [s_callL, s_call, s_cons, s_consM, s_nil, s_c, s_var, s_bin, s_un, s_lst, s_tup, s_cb, s_B, s_tru, s_not, s_repr, List.getElem?_cons_succ, List.getElem?_cons_zero, List.set_cons_succ, List.set_cons_zero, st_d, st_f, st_c, val_d, val_f, dats_d, dats_nil, vals_cons, vals_nil, lend_c, args_d, DL.args_nil, Opt_some, out_v, out_n, out_t, lab_d, lab_f, sto_f, sto_d, List.length_cons, List.length_nil, lenD_list, lenD_tuple, listC_list, listC_tuple, tupC_list, tupC_tuple, istt, istf, Bool.not_true, Bool.not_false, Bool.false_eq_true, if_false, if_true]
  refine ⟨by omega, ph_back (by omega) ?_⟩
  simp only [s_callL, s_call, s_cons, s_consM, s_nil, s_c, s_var, s_bin, s_un, s_lst, s_tup, s_cb, s_B, s_tru, s_not, s_repr, List.getElem?_cons_succ, List.getElem?_cons_zero, List.set_cons_succ, List.set_cons_zero, st_d, st_f, st_c, val_d, val_f, dats_d, dats_nil, vals_cons, vals_nil, lend_c, args_d, DL.args_nil, Opt_some, out_v, out_n, out_t, lab_d, lab_f, sto_f, sto_d, List.length_cons, List.length_nil, lenD_list, lenD_tuple, listC_list, listC_tuple, tupC_list, tupC_tuple, istt, istf, Bool.not_true, Bool.not_false, Bool.false_eq_true, if_false, if_true]
  refine ph_back (by omega) ?_
  simp only [s_callL, s_call, s_cons, s_consM, s_nil, s_c, s_var, s_bin, s_un, s_lst, s_tup, s_cb, s_B, s_tru, s_not, s_repr, List.getElem?_cons_succ, List.getElem?_cons_zero, List.set_cons_succ, List.set_cons_zero, st_d, st_f, st_c, val_d, val_f, dats_d, dats_nil, vals_cons, vals_nil, lend_c, args_d, DL.args_nil, Opt_some, out_v, out_n, out_t, lab_d, lab_f, sto_f, sto_d, List.length_cons, List.length_nil, lenD_list, lenD_tuple, listC_list, listC_tuple, tupC_list, tupC_tuple, istt, istf, Bool.not_true, Bool.not_false, Bool.false_eq_true, if_false, if_true, add_rows (show (SH.back two).length + (SH.back one).length ≤ 10000 by omega), back_back, back_app]
  refine ⟨by omega, ph_same rfl (good_rows (by simp) (mem2 (good_rowIn i1 (by omega)) (good_rowIn (i2.back.app i1.back) (by omega)))) ?_⟩
  simp only [s_callL, s_call, s_cons, s_consM, s_nil, s_c, s_var, s_bin, s_un, s_lst, s_tup, s_cb, s_B, s_tru, s_not, s_repr, List.getElem?_cons_succ, List.getElem?_cons_zero, List.set_cons_succ, List.set_cons_zero, st_d, st_f, st_c, val_d, val_f, dats_d, dats_nil, vals_cons, vals_nil, lend_c, args_d, DL.args_nil, Opt_some, out_v, out_n, out_t, lab_d, lab_f, sto_f, sto_d, List.length_cons, List.length_nil, lenD_list, lenD_tuple, listC_list, listC_tuple, tupC_list, tupC_tuple, istt, istf, Bool.not_true, Bool.not_false, Bool.false_eq_true, if_false, if_true]
  exact k
theorem go5 (i1 : RowIn one) (l1 : one.length ≤ 30)
    (k : E.nx (rho ns one two three like before q8) [.l bs]) : w5 E (rho ns one two three like before q8) [.l bs] := by
  have hz := sizeLine_eq
  have b1 := back_len one
  unfold w5
  rw [s_if]
  simp only [s_callL, s_call, s_cons, s_consM, s_nil, s_c, s_var, s_bin, s_un, s_lst, s_tup, s_cb, s_B, s_tru, s_not, s_repr, List.getElem?_cons_succ, List.getElem?_cons_zero, List.set_cons_succ, List.set_cons_zero, st_d, st_f, st_c, val_d, val_f, dats_d, dats_nil, vals_cons, vals_nil, lend_c, args_d, DL.args_nil, Opt_some, out_v, out_n, out_t, lab_d, lab_f, sto_f, sto_d, List.length_cons, List.length_nil, lenD_list, lenD_tuple, listC_list, listC_tuple, tupC_list, tupC_tuple, istt, istf, Bool.not_true, Bool.not_false, Bool.false_eq_true, if_false, if_true]
  refine ph_back (by omega) ?_
  simp only [s_callL, s_call, s_cons, s_consM, s_nil, s_c, s_var, s_bin, s_un, s_lst, s_tup, s_cb, s_B, s_tru, s_not, s_repr, List.getElem?_cons_succ, List.getElem?_cons_zero, List.set_cons_succ, List.set_cons_zero, st_d, st_f, st_c, val_d, val_f, dats_d, dats_nil, vals_cons, vals_nil, lend_c, args_d, DL.args_nil, Opt_some, out_v, out_n, out_t, lab_d, lab_f, sto_f, sto_d, List.length_cons, List.length_nil, lenD_list, lenD_tuple, listC_list, listC_tuple, tupC_list, tupC_tuple, istt, istf, Bool.not_true, Bool.not_false, Bool.false_eq_true, if_false, if_true]
  refine ph_size (by omega) i1.back ?_
  simp only [s_callL, s_call, s_cons, s_consM, s_nil, s_c, s_var, s_bin, s_un, s_lst, s_tup, s_cb, s_B, s_tru, s_not, s_repr, List.getElem?_cons_succ, List.getElem?_cons_zero, List.set_cons_succ, List.set_cons_zero, st_d, st_f, st_c, val_d, val_f, dats_d, dats_nil, vals_cons, vals_nil, lend_c, args_d, DL.args_nil, Opt_some, out_v, out_n, out_t, lab_d, lab_f, sto_f, sto_d, List.length_cons, List.length_nil, lenD_list, lenD_tuple, listC_list, listC_tuple, tupC_list, tupC_tuple, istt, istf, Bool.not_true, Bool.not_false, Bool.false_eq_true, if_false, if_true]
  refine ph_size (by omega) i1 ?_
  simp only [s_callL, s_call, s_cons, s_consM, s_nil, s_c, s_var, s_bin, s_un, s_lst, s_tup, s_cb, s_B, s_tru, s_not, s_repr, List.getElem?_cons_succ, List.getElem?_cons_zero, List.set_cons_succ, List.set_cons_zero, st_d, st_f, st_c, val_d, val_f, dats_d, dats_nil, vals_cons, vals_nil, lend_c, args_d, DL.args_nil, Opt_some, out_v, out_n, out_t, lab_d, lab_f, sto_f, sto_d, List.length_cons, List.length_nil, lenD_list, lenD_tuple, listC_list, listC_tuple, tupC_list, tupC_tuple, istt, istf, Bool.not_true, Bool.not_false, Bool.false_eq_true, if_false, if_true]
  refine ⟨by omega, ph_lawleast (by omega) i1 ?_⟩
  simp only [s_callL, s_call, s_cons, s_consM, s_nil, s_c, s_var, s_bin, s_un, s_lst, s_tup, s_cb, s_B, s_tru, s_not, s_repr, List.getElem?_cons_succ, List.getElem?_cons_zero, List.set_cons_succ, List.set_cons_zero, st_d, st_f, st_c, val_d, val_f, dats_d, dats_nil, vals_cons, vals_nil, lend_c, args_d, DL.args_nil, Opt_some, out_v, out_n, out_t, lab_d, lab_f, sto_f, sto_d, List.length_cons, List.length_nil, lenD_list, lenD_tuple, listC_list, listC_tuple, tupC_list, tupC_tuple, istt, istf, Bool.not_true, Bool.not_false, Bool.false_eq_true, if_false, if_true, List.length_map]
  refine ⟨by omega, ?_⟩
  simp only [s_callL, s_call, s_cons, s_consM, s_nil, s_c, s_var, s_bin, s_un, s_lst, s_tup, s_cb, s_B, s_tru, s_not, s_repr, List.getElem?_cons_succ, List.getElem?_cons_zero, List.set_cons_succ, List.set_cons_zero, st_d, st_f, st_c, val_d, val_f, dats_d, dats_nil, vals_cons, vals_nil, lend_c, args_d, DL.args_nil, Opt_some, out_v, out_n, out_t, lab_d, lab_f, sto_f, sto_d, List.length_cons, List.length_nil, lenD_list, lenD_tuple, listC_list, listC_tuple, tupC_list, tupC_tuple, istt, istf, Bool.not_true, Bool.not_false, Bool.false_eq_true, if_false, if_true, mul2, least_back]
  refine ph_same rfl (good_rows (by simp) (mem2 trivial trivial)) ?_
  simp only [s_callL, s_call, s_cons, s_consM, s_nil, s_c, s_var, s_bin, s_un, s_lst, s_tup, s_cb, s_B, s_tru, s_not, s_repr, List.getElem?_cons_succ, List.getElem?_cons_zero, List.set_cons_succ, List.set_cons_zero, st_d, st_f, st_c, val_d, val_f, dats_d, dats_nil, vals_cons, vals_nil, lend_c, args_d, DL.args_nil, Opt_some, out_v, out_n, out_t, lab_d, lab_f, sto_f, sto_d, List.length_cons, List.length_nil, lenD_list, lenD_tuple, listC_list, listC_tuple, tupC_list, tupC_tuple, istt, istf, Bool.not_true, Bool.not_false, Bool.false_eq_true, if_false, if_true]
  exact k
theorem go6 (i1 : RowIn one) (i2 : RowIn two) (l1 : one.length ≤ 30) (l2 : two.length ≤ 30)
    (k : E.nx (rho ns one two three like before q8) [.l bs]) : w6 E (rho ns one two three like before q8) [.l bs] := by
  have hz := sizeLine_eq
  have m1 := put_len one two
  have mr : (ropesF (putF one two)).length ≤ 1000000 := by
    have := ropesF_len (putF one two)
    omega
  have eh : heldF (putF one two) = ropesF (putF one two) := by
    rw [held_ropes]
    unfold SH.putF
    rw [least_least]
  have gs : GoodN 7 (.tuple ((ropesF (putF one two)).map .str)) := good_strsT (ropesF_names (i1.put i2)) mr
  unfold w6
  rw [s_if]
  simp only [s_callL, s_call, s_cons, s_consM, s_nil, s_c, s_var, s_bin, s_un, s_lst, s_tup, s_cb, s_B, s_tru, s_not, s_repr, List.getElem?_cons_succ, List.getElem?_cons_zero, List.set_cons_succ, List.set_cons_zero, st_d, st_f, st_c, val_d, val_f, dats_d, dats_nil, vals_cons, vals_nil, lend_c, args_d, DL.args_nil, Opt_some, out_v, out_n, out_t, lab_d, lab_f, sto_f, sto_d, List.length_cons, List.length_nil, lenD_list, lenD_tuple, listC_list, listC_tuple, tupC_list, tupC_tuple, istt, istf, Bool.not_true, Bool.not_false, Bool.false_eq_true, if_false, if_true]
  refine ph_put (by omega) (by omega) i1 i2 ?_
  simp only [s_callL, s_call, s_cons, s_consM, s_nil, s_c, s_var, s_bin, s_un, s_lst, s_tup, s_cb, s_B, s_tru, s_not, s_repr, List.getElem?_cons_succ, List.getElem?_cons_zero, List.set_cons_succ, List.set_cons_zero, st_d, st_f, st_c, val_d, val_f, dats_d, dats_nil, vals_cons, vals_nil, lend_c, args_d, DL.args_nil, Opt_some, out_v, out_n, out_t, lab_d, lab_f, sto_f, sto_d, List.length_cons, List.length_nil, lenD_list, lenD_tuple, listC_list, listC_tuple, tupC_list, tupC_tuple, istt, istf, Bool.not_true, Bool.not_false, Bool.false_eq_true, if_false, if_true]
  refine ph_held (by omega) (i1.put i2) ?_
  simp only [s_callL, s_call, s_cons, s_consM, s_nil, s_c, s_var, s_bin, s_un, s_lst, s_tup, s_cb, s_B, s_tru, s_not, s_repr, List.getElem?_cons_succ, List.getElem?_cons_zero, List.set_cons_succ, List.set_cons_zero, st_d, st_f, st_c, val_d, val_f, dats_d, dats_nil, vals_cons, vals_nil, lend_c, args_d, DL.args_nil, Opt_some, out_v, out_n, out_t, lab_d, lab_f, sto_f, sto_d, List.length_cons, List.length_nil, lenD_list, lenD_tuple, listC_list, listC_tuple, tupC_list, tupC_tuple, istt, istf, Bool.not_true, Bool.not_false, Bool.false_eq_true, if_false, if_true]
  refine ph_ropes (by omega) ?_
  simp only [s_callL, s_call, s_cons, s_consM, s_nil, s_c, s_var, s_bin, s_un, s_lst, s_tup, s_cb, s_B, s_tru, s_not, s_repr, List.getElem?_cons_succ, List.getElem?_cons_zero, List.set_cons_succ, List.set_cons_zero, st_d, st_f, st_c, val_d, val_f, dats_d, dats_nil, vals_cons, vals_nil, lend_c, args_d, DL.args_nil, Opt_some, out_v, out_n, out_t, lab_d, lab_f, sto_f, sto_d, List.length_cons, List.length_nil, lenD_list, lenD_tuple, listC_list, listC_tuple, tupC_list, tupC_tuple, istt, istf, Bool.not_true, Bool.not_false, Bool.false_eq_true, if_false, if_true]
  refine ⟨by omega, ph_lawropes (by omega) ?_⟩
  simp only [s_callL, s_call, s_cons, s_consM, s_nil, s_c, s_var, s_bin, s_un, s_lst, s_tup, s_cb, s_B, s_tru, s_not, s_repr, List.getElem?_cons_succ, List.getElem?_cons_zero, List.set_cons_succ, List.set_cons_zero, st_d, st_f, st_c, val_d, val_f, dats_d, dats_nil, vals_cons, vals_nil, lend_c, args_d, DL.args_nil, Opt_some, out_v, out_n, out_t, lab_d, lab_f, sto_f, sto_d, List.length_cons, List.length_nil, lenD_list, lenD_tuple, listC_list, listC_tuple, tupC_list, tupC_tuple, istt, istf, Bool.not_true, Bool.not_false, Bool.false_eq_true, if_false, if_true]
  refine ⟨by omega, ?_⟩
  simp only [s_callL, s_call, s_cons, s_consM, s_nil, s_c, s_var, s_bin, s_un, s_lst, s_tup, s_cb, s_B, s_tru, s_not, s_repr, List.getElem?_cons_succ, List.getElem?_cons_zero, List.set_cons_succ, List.set_cons_zero, st_d, st_f, st_c, val_d, val_f, dats_d, dats_nil, vals_cons, vals_nil, lend_c, args_d, DL.args_nil, Opt_some, out_v, out_n, out_t, lab_d, lab_f, sto_f, sto_d, List.length_cons, List.length_nil, lenD_list, lenD_tuple, listC_list, listC_tuple, tupC_list, tupC_tuple, istt, istf, Bool.not_true, Bool.not_false, Bool.false_eq_true, if_false, if_true, mul2, eh]
  refine ph_same rfl (good_rows (by simp) (mem2 gs gs)) ?_
  simp only [s_callL, s_call, s_cons, s_consM, s_nil, s_c, s_var, s_bin, s_un, s_lst, s_tup, s_cb, s_B, s_tru, s_not, s_repr, List.getElem?_cons_succ, List.getElem?_cons_zero, List.set_cons_succ, List.set_cons_zero, st_d, st_f, st_c, val_d, val_f, dats_d, dats_nil, vals_cons, vals_nil, lend_c, args_d, DL.args_nil, Opt_some, out_v, out_n, out_t, lab_d, lab_f, sto_f, sto_d, List.length_cons, List.length_nil, lenD_list, lenD_tuple, listC_list, listC_tuple, tupC_list, tupC_tuple, istt, istf, Bool.not_true, Bool.not_false, Bool.false_eq_true, if_false, if_true]
  exact k
end
theorem r_law_right (bs : List PyData) (rs : List R) (Pd : R → List PyData → Prop) (h : Ph_law_right bs rs Pd) (hl : rs.length = 0) : w_law_right { nx := fun _ κ => endL κ (.d .none) Pd, rt := fun r κ => endL κ r Pd } (some (.c 0) :: (rs.map some ++ List.replicate 8 none)) [.l bs] := by
  obtain ⟨N, hb, hN, rfl, k⟩ := h
  clear hl
  have hz := sizeLine_eq
  unfold w_law_right
  rw [s_seq, s_set]
  simp only [List.map_nil, List.replicate_succ, List.replicate_zero, List.cons_append, List.nil_append]
  refine s_names (a := 2) (b := 5) rfl hb (by omega) (by decide) (by decide) fun ns bs1 n2 n7 hn hb1 => ?_
  simp only [sto_f, st_f, List.set_cons_succ, List.set_cons_zero]
  rw [s_seq, s_asg, s_lc, s_rng1]
  simp only [s_c, s_cons, s_nil, st_d]
  refine ⟨by decide, by decide, ?_⟩
  rw [show (List.range (3 : Int).toNat).map (fun (i : Nat) => PyData.int (0 + (i : Int))) = [.int 0, .int 1, .int 2] from rfl]
  simp only [wipeR_cons, wipeR_nil, List.set_cons_succ, List.set_cons_zero]
  simp only [lcL_cons, s_name, s_yes, if_true]
  simp only [s_callL, s_call, s_cons, s_consM, s_nil, s_c, s_var, s_bin, s_un, s_lst, s_tup, s_cb, s_B, s_tru, s_not, s_repr, List.getElem?_cons_succ, List.getElem?_cons_zero, List.set_cons_succ, List.set_cons_zero, st_d, st_f, st_c, val_d, val_f, dats_d, dats_nil, vals_cons, vals_nil, lend_c, args_d, DL.args_nil, Opt_some, out_v, out_n, out_t, lab_d, lab_f, sto_f, sto_d, List.length_cons, List.length_nil, lenD_list, lenD_tuple, listC_list, listC_tuple, tupC_list, tupC_tuple, istt, istf, Bool.not_true, Bool.not_false, Bool.false_eq_true, if_false, if_true]
  refine ⟨N + 201, ns, 30, hb1, by omega, rfl, n2, by omega, hn, by decide, fun one bs2 h1 l1 hb2 => ?_⟩
  simp only [s_callL, s_call, s_cons, s_consM, s_nil, s_c, s_var, s_bin, s_un, s_lst, s_tup, s_cb, s_B, s_tru, s_not, s_repr, List.getElem?_cons_succ, List.getElem?_cons_zero, List.set_cons_succ, List.set_cons_zero, st_d, st_f, st_c, val_d, val_f, dats_d, dats_nil, vals_cons, vals_nil, lend_c, args_d, DL.args_nil, Opt_some, out_v, out_n, out_t, lab_d, lab_f, sto_f, sto_d, List.length_cons, List.length_nil, lenD_list, lenD_tuple, listC_list, listC_tuple, tupC_list, tupC_tuple, istt, istf, Bool.not_true, Bool.not_false, Bool.false_eq_true, if_false, if_true, dat_d]
  refine ⟨by omega, trivial, N + 201 + 20000, ns, 30, hb2, by omega, rfl, n2, by omega, hn, by decide, fun two bs3 h2 l2 hb3 => ?_⟩
  simp only [s_callL, s_call, s_cons, s_consM, s_nil, s_c, s_var, s_bin, s_un, s_lst, s_tup, s_cb, s_B, s_tru, s_not, s_repr, List.getElem?_cons_succ, List.getElem?_cons_zero, List.set_cons_succ, List.set_cons_zero, st_d, st_f, st_c, val_d, val_f, dats_d, dats_nil, vals_cons, vals_nil, lend_c, args_d, DL.args_nil, Opt_some, out_v, out_n, out_t, lab_d, lab_f, sto_f, sto_d, List.length_cons, List.length_nil, lenD_list, lenD_tuple, listC_list, listC_tuple, tupC_list, tupC_tuple, istt, istf, Bool.not_true, Bool.not_false, Bool.false_eq_true, if_false, if_true, dat_d]
  refine ⟨by show 1 < _; omega, trivial, N + 201 + 20000 + 20000, ns, 30, hb3, by omega, rfl, n2, by omega, hn, by decide, fun three bs4 h3 l3 hb4 => ?_⟩
  simp only [s_callL, s_call, s_cons, s_consM, s_nil, s_c, s_var, s_bin, s_un, s_lst, s_tup, s_cb, s_B, s_tru, s_not, s_repr, List.getElem?_cons_succ, List.getElem?_cons_zero, List.set_cons_succ, List.set_cons_zero, st_d, st_f, st_c, val_d, val_f, dats_d, dats_nil, vals_cons, vals_nil, lend_c, args_d, DL.args_nil, Opt_some, out_v, out_n, out_t, lab_d, lab_f, sto_f, sto_d, List.length_cons, List.length_nil, lenD_list, lenD_tuple, listC_list, listC_tuple, tupC_list, tupC_tuple, istt, istf, Bool.not_true, Bool.not_false, Bool.false_eq_true, if_false, if_true, dat_d]
  refine ⟨by show 2 < _; omega, trivial, ?_⟩
  simp only [lcL_nil]
  unfold wTupL
  simp only [s_callL, s_call, s_cons, s_consM, s_nil, s_c, s_var, s_bin, s_un, s_lst, s_tup, s_cb, s_B, s_tru, s_not, s_repr, List.getElem?_cons_succ, List.getElem?_cons_zero, List.set_cons_succ, List.set_cons_zero, st_d, st_f, st_c, val_d, val_f, dats_d, dats_nil, vals_cons, vals_nil, lend_c, args_d, DL.args_nil, Opt_some, out_v, out_n, out_t, lab_d, lab_f, sto_f, sto_d, List.length_cons, List.length_nil, lenD_list, lenD_tuple, listC_list, listC_tuple, tupC_list, tupC_tuple, istt, istf, Bool.not_true, Bool.not_false, Bool.false_eq_true, if_false, if_true]
  refine ⟨rfl, ?_⟩
  simp only [List.nil_append, List.cons_append, s_gcons, s_gnil, s_name, List.set_cons_succ, List.set_cons_zero]
  rw [s_seq, s_par]
  simp only [s_callL, s_call, s_cons, s_consM, s_nil, s_c, s_var, s_bin, s_un, s_lst, s_tup, s_cb, s_B, s_tru, s_not, s_repr, List.getElem?_cons_succ, List.getElem?_cons_zero, List.set_cons_succ, List.set_cons_zero, st_d, st_f, st_c, val_d, val_f, dats_d, dats_nil, vals_cons, vals_nil, lend_c, args_d, DL.args_nil, Opt_some, out_v, out_n, out_t, lab_d, lab_f, sto_f, sto_d, List.length_cons, List.length_nil, lenD_list, lenD_tuple, listC_list, listC_tuple, tupC_list, tupC_tuple, istt, istf, Bool.not_true, Bool.not_false, Bool.false_eq_true, if_false, if_true]
  refine ⟨N + 201 + 20000 + 20000 + 20000, ns, one, 10, hb4, by omega, rfl, n2, by omega, hn, h1, by omega, by decide, fun like bs5 h5 l5 e hb5 => ?_⟩
  have i1 := h1.inn hn
  have i2 := h2.inn hn
  have i3 := h3.inn hn
  have i5 := h5.inn hn
  have tx : TextOk (.list [rowD one, rowD two, rowD three]) := text_rows (rs := [one, two, three]) hn (fun r h => by
    rcases List.mem_cons.mp h with rfl | h
    · exact ⟨h1, by omega⟩
    rcases List.mem_cons.mp h with rfl | h
    · exact ⟨h2, by omega⟩
    · rw [List.mem_singleton.mp h]; exact ⟨h3, by omega⟩) (by simp)
  simp only [s_callL, s_call, s_cons, s_consM, s_nil, s_c, s_var, s_bin, s_un, s_lst, s_tup, s_cb, s_B, s_tru, s_not, s_repr, List.getElem?_cons_succ, List.getElem?_cons_zero, List.set_cons_succ, List.set_cons_zero, st_d, st_f, st_c, val_d, val_f, dats_d, dats_nil, vals_cons, vals_nil, lend_c, args_d, DL.args_nil, Opt_some, out_v, out_n, out_t, lab_d, lab_f, sto_f, sto_d, List.length_cons, List.length_nil, lenD_list, lenD_tuple, listC_list, listC_tuple, tupC_list, tupC_tuple, istt, istf, Bool.not_true, Bool.not_false, Bool.false_eq_true, if_false, if_true]
  refine ⟨by omega, tx, ?_⟩
  have m2 : (one ++ two).length = one.length + two.length := by rw [List.length_append]
  have m3 := put_len one two
  rw [s_seq, s_set]
  simp only [s_callL, s_call, s_cons, s_consM, s_nil, s_c, s_var, s_bin, s_un, s_lst, s_tup, s_cb, s_B, s_tru, s_not, s_repr, List.getElem?_cons_succ, List.getElem?_cons_zero, List.set_cons_succ, List.set_cons_zero, st_d, st_f, st_c, val_d, val_f, dats_d, dats_nil, vals_cons, vals_nil, lend_c, args_d, DL.args_nil, Opt_some, out_v, out_n, out_t, lab_d, lab_f, sto_f, sto_d, List.length_cons, List.length_nil, lenD_list, lenD_tuple, listC_list, listC_tuple, tupC_list, tupC_tuple, istt, istf, Bool.not_true, Bool.not_false, Bool.false_eq_true, if_false, if_true, add_rows (show one.length + two.length ≤ 10000 by omega)]
  refine ph_lawleast (by omega) (i1.app i2) ?_
  simp only [s_callL, s_call, s_cons, s_consM, s_nil, s_c, s_var, s_bin, s_un, s_lst, s_tup, s_cb, s_B, s_tru, s_not, s_repr, List.getElem?_cons_succ, List.getElem?_cons_zero, List.set_cons_succ, List.set_cons_zero, st_d, st_f, st_c, val_d, val_f, dats_d, dats_nil, vals_cons, vals_nil, lend_c, args_d, DL.args_nil, Opt_some, out_v, out_n, out_t, lab_d, lab_f, sto_f, sto_d, List.length_cons, List.length_nil, lenD_list, lenD_tuple, listC_list, listC_tuple, tupC_list, tupC_tuple, istt, istf, Bool.not_true, Bool.not_false, Bool.false_eq_true, if_false, if_true]
  rw [s_seq]
  refine go1 i1 i2 i5 l1 l2 l5 e ?_
  dsimp only
  rw [s_seq]
  refine go2 i1 i2 i3 l1 l2 l3 ?_
  dsimp only
  rw [s_seq]
  refine go3 i1 i5 l1 l5 e ?_
  dsimp only
  rw [s_seq]
  refine go4 i1 i2 l1 l2 ?_
  dsimp only
  rw [s_seq]
  refine go5 i1 l1 ?_
  dsimp only
  rw [s_seq]
  refine go6 i1 i2 l1 l2 ?_
  dsimp only
  have er := eqD_rows false (i1.put i2) (i1.put i2) (by omega) (by omega)
  unfold w7
  rw [s_ret, s_andV]
  simp only [s_callL, s_call, s_cons, s_consM, s_nil, s_c, s_var, s_bin, s_un, s_lst, s_tup, s_cb, s_B, s_tru, s_not, s_repr, List.getElem?_cons_succ, List.getElem?_cons_zero, List.set_cons_succ, List.set_cons_zero, st_d, st_f, st_c, val_d, val_f, dats_d, dats_nil, vals_cons, vals_nil, lend_c, args_d, DL.args_nil, Opt_some, out_v, out_n, out_t, lab_d, lab_f, sto_f, sto_d, List.length_cons, List.length_nil, lenD_list, lenD_tuple, listC_list, listC_tuple, tupC_list, tupC_tuple, istt, istf, Bool.not_true, Bool.not_false, Bool.false_eq_true, if_false, if_true]
  refine ph_putT (by omega) (by omega) i1 i2 ?_
  simp only [s_callL, s_call, s_cons, s_consM, s_nil, s_c, s_var, s_bin, s_un, s_lst, s_tup, s_cb, s_B, s_tru, s_not, s_repr, List.getElem?_cons_succ, List.getElem?_cons_zero, List.set_cons_succ, List.set_cons_zero, st_d, st_f, st_c, val_d, val_f, dats_d, dats_nil, vals_cons, vals_nil, lend_c, args_d, DL.args_nil, Opt_some, out_v, out_n, out_t, lab_d, lab_f, sto_f, sto_d, List.length_cons, List.length_nil, lenD_list, lenD_tuple, listC_list, listC_tuple, tupC_list, tupC_tuple, istt, istf, Bool.not_true, Bool.not_false, Bool.false_eq_true, if_false, if_true, er]
  simp only [decide_true, if_true]
  refine ⟨by omega, tx, ?_⟩
  simp only [s_callL, s_call, s_cons, s_consM, s_nil, s_c, s_var, s_bin, s_un, s_lst, s_tup, s_cb, s_B, s_tru, s_not, s_repr, List.getElem?_cons_succ, List.getElem?_cons_zero, List.set_cons_succ, List.set_cons_zero, st_d, st_f, st_c, val_d, val_f, dats_d, dats_nil, vals_cons, vals_nil, lend_c, args_d, DL.args_nil, Opt_some, out_v, out_n, out_t, lab_d, lab_f, sto_f, sto_d, List.length_cons, List.length_nil, lenD_list, lenD_tuple, listC_list, listC_tuple, tupC_list, tupC_tuple, istt, istf, Bool.not_true, Bool.not_false, Bool.false_eq_true, if_false, if_true, eqD_ss]
  simp only [decide_true, endL_d]
  exact k bs5 (hb5.mono (by omega))
abbrev Ph_law := SH.Ph_law
/-- law -/
def w_law : DTS := (wSeq (wSet false 1 (wLcB (wRng1 (wCons (wBin addD (wC (.int 1)) (wCB min2D (wCons (wC (.int 3)) (wCons (wLenS (wVar 0)) wNil)))) wNil)) (wName 2) wYes (wCall Ph_law_box (wCons (wVar 0) (wCons (wVar 2) wNil))) [2]))
  (wRet (wCB (allC fun bs => bs.all id) (wCons (wLcR (wRefs (wMulB (wVar 1) (wC (.int 4)))) (wName 3) wYes (wCallL Ph_law_right (wCons (wVar 3) wNil)) [3]) wNil))))
theorem r_law (rs : List R) (Pd : R → Prop) (h : Ph_law rs Pd) (hl : rs.length = 1) : w_law { nx := fun _ _ => Pd (.d .none), rt := fun r κ => Opt (outR κ 0 r) Pd } (rs.map some ++ List.replicate 3 none) [] :=
  r_lawB (M := 3) (m := 4) (c := 70000) ⟨by decide, by decide, fun N bs Q hb h0 hN hQ => ⟨N, hb, hN, rfl, hQ⟩⟩ (by decide) (by decide) (by decide) rs Pd h hl
end K64
/-! DLwg: the law's head for defs that know that nobody makes a text. -/
namespace DL
open PySem PySem.Spec PyProof.Rows L2
/-- what is tracked of the script: nothing, or the script as it stands -/
theorem script_heap {P : Program} {w : World} {K : PySem.W.Frag} {s : Shared} {a : Addr} {vs : List Value} {ns : List Int} (KX : K.In s.heap) (ha : s.heap.get? a = some { cls := .type "list", data := .seq vs.toArray }) (hi : IntsAre vs ns) (hl : ns.length ≤ sizeLine) :
    ∃ H : Hp, Only H ∧ SqL K H a (ns.map V.int) ∧ HOk P w H s.heap ∧ ∀ b, H b ≠ none → b = a ∧ K.lookup b = none := by
  have rv := vals_ints hi
  cases q : K.lookup a with
  | none =>
    let o : Obj := { cls := .type "list", data := .seq vs.toArray }
    have at_a : upd (fun _ => none) a (HO.frz o (.lst (ns.map V.int))) a = some (.frz o (.lst (ns.map V.int))) := upd_same
    have off : ∀ b, b ≠ a → upd (fun _ => none) a (HO.frz o (.lst (ns.map V.int))) b = none := fun b h => by rw [upd_ne h]
    refine ⟨upd (fun _ => none) a (.frz o (.lst (ns.map V.int))), fun b => ?_, .inl (.inr ⟨o, at_a⟩), fun b u z => ?_, fun b z => ?_⟩
    · by_cases h : b = a
      · rw [h]; exact .inr ⟨o, _, at_a⟩
      · exact .inl (off b h)
    · by_cases h : b = a
      · subst h
        rw [at_a] at z
        cases z
        exact ⟨ha, by rw [List.length_map]; exact hl, vs, _, rv, ha⟩
      · rw [off b h] at z
        cases z
    · by_cases h : b = a
      · exact ⟨h, by rw [h]; exact q⟩
      · exact absurd (off b h) z
  | some o =>
    have e := KX a o q
    rw [ha] at e
    cases e
    refine ⟨fun _ => none, fun _ => .inl rfl, .inr ⟨_, vs.toArray, _, q, rfl, rfl, rfl, ?_, ?_⟩, (fun b u z => by
      have z' : (none : Option HO) = some u := z
      cases z'), fun b z => absurd rfl z⟩
    · rw [List.size_toArray, hi.length]; exact hl
    · simpa using rv
theorem law_goG {P : Program} {w : World} {K : PySem.W.Frag} {mg mb : Str → Option Value} {k : Nat} {fa a : Addr} {fd : FuncData} {x : Str} {sp : Sp} {s : Shared} {vs : List Value} {ns : List Int} (KX : K.In s.heap) (hns : s.heap.Ns mainGlobals mg) (hb : s.heap.Ns builtinsNs mb) (hbb : ∀ x : Str, x ≠ "__name__" → mb x = bootBuiltins x) (hlim : s.heap.NoLimit) (hg : s.gens = #[])
    (ha : s.heap.get? a = some { cls := .type "list", data := .seq vs.toArray }) (hi : IntsAre vs ns) (hl : ns.length ≤ sizeLine) (hr : RoomG k callerA) (F : ∀ base : Heap, K.In base → base.Ns mainGlobals mg → FnG P w K mg base CX0 k fa fd [x] sp) (bnd : ∀ (s : Shared) (u : Value), BindsTo s fd ⟨[u], []⟩ [(x, u)])
    (hsp : ∀ H : Hp, Only H → SqL K H a (ns.map V.int) → sp [.ref a] H (fun v _ => v = .bl true) fun _ _ _ => False) :
    codeAny (model P w) callerA (.call (.ref fa) ⟨[.ref a], []⟩) (fun r s' => r = .ok (.ret (.bool true)) ∧ OldK s.heap s'.heap ∧ s'.os = s.os ∧ AllBare s'.gens) s := by
  obtain ⟨H, only, sq, hok, few⟩ := script_heap (P := P) (w := w) KX ha hi hl
  have free : ∀ b, (b ≠ a ∨ K.lookup b ≠ none) → H b = none := fun b h => by
    cases q : H b with
    | none => rfl
    | some u =>
      obtain ⟨e1, e2⟩ := few b (by rw [q]; exact fun z => nomatch z)
      rcases h with h | h
      · exact absurd e1 h
      · exact absurd e2 h
  have inB : K.In (hidT s.heap H) := fun b o e => hidT_get (KX b o e) (free b (.inr (by rw [e]; exact fun z => nomatch z)))
  have dictB : ∀ {b : Addr} {o : Obj} {es : Array DictEntry} {ep : Nat}, s.heap.get? b = some o → o.data = .dict es ep → (hidT s.heap H).get? b = some o := fun {b o es ep} e d => hidT_get e (free b (.inl fun z => by
    subst z
    rw [ha] at e
    cases e
    cases d))
  have nsB : ∀ {b : Addr} {m : Str → Option Value}, s.heap.Ns b m → (hidT s.heap H).Ns b m := fun {b m} n => by
    obtain ⟨o, es, ep, e, d, r⟩ := n
    exact ⟨o, es, ep, dictB e d, d, r⟩
  obtain ⟨mc, l1, l2⟩ := hlim
  have e0 : Env0 P w K mg (hidT s.heap H) callerA [] s H := ⟨rfl, ⟨inB, nsB hns, ⟨mb, nsB hb, hbb⟩, ⟨mc, nsB l1, l2⟩⟩, fun b o e => of_hidT e, Nat.le_of_eq (hidT_size _ _), trivial, fun b z => absurd (show b ∈ ([] : List Addr) from z) (List.not_mem_nil), hok, .of_eq hg⟩
  apply codeAny_mono ((F _ inB (nsB hns)).go callerA [] s H ⟨[.ref a], []⟩ [.ref a] [.ref a] _ _ hr e0 (bnd s (.ref a)) (.cons rfl .nil) (hsp H only sq))
  intro r s' z
  cases r with
  | error e => exact z.elim
  | ok fl =>
    cases fl with
    | ret u =>
      obtain ⟨v, H', os, bare, un, hok', rv, rfl⟩ := z
      have eu : u = Value.bool true := rv
      subst eu
      refine ⟨rfl, OldK.of_keep fun b o e => ?_, os, bare⟩
      rcases only b with n | ⟨ob, xs, n⟩
      · exact un.keep b o e n (fun z => absurd (show b ∈ ([] : List Addr) from z) List.not_mem_nil) (by simp)
      · have q1 := (hok b _ n).1
        have q2 := (hok' b _ (un.frzs b ob _ n)).1
        rw [e] at q1
        cases q1
        exact q2
    | _ => exact z.elim
theorem walkG {l : PySem.W.OpenLaw} {n k : Nat} {q : Program} {loose : List Str} {XP : (Str → Option Value) → Heap → Prop} {YP : World → Heap → Prop} {d : DefRec} {K : Params → PySem.W.Frag} {x : Str} {Φ : List R → (R → Prop) → Prop}
    (hn : l.most = some n) (hn2 : n ≤ sizeLine) (hdf : d.params.defaults = []) (hr : Room k callerA) (hY : ∀ (w : World) (h : Heap), YP w h → (K w.params).In h)
    (F : ∀ (w : World) (mg : Str → Option Value) (fa : Addr) (h : Heap), (K w.params).In h → h.Ns mainGlobals mg → mg d.name = some (.ref fa) →
      ∃ fd : FuncData, (∀ (s : Shared) (u : Value), BindsTo s fd ⟨[u], []⟩ [(x, u)]) ∧ ∀ base : Heap, (K w.params).In base → base.Ns mainGlobals mg → FnG l.prog w (K w.params) mg base CX0 k fa fd [x] (spD (K w.params) 1 Φ))
    (hΦ : ∀ ns : List Int, ns.length ≤ n → Φ [.s ns] fun r => r = .d (.bool true)) :
    PySem.W.WalkO q loose XP YP l.row.toRowW d [] (fun f vs => PySem.call f vs) := by
  refine Att.attach_call hn hdf fun w s₀ s₁ mg mb fa o pm cd doc a vs ns G Y ho hd hcd hmg hobj hints hlen hg => ?_
  obtain ⟨fd, bnd, FF⟩ := F w mg fa _ (hY w _ Y) G.T.g hmg
  refine law_goG (hY w _ Y) G.T.g G.T.b G.T.builtins G.T.nolimit hg hobj hints (Nat.le_trans hlen hn2) (room_callerG hr) FF bnd fun H only hS => ?_
  refine ⟨rfl, H, [.s ns], fun r => r = .d (.bool true), Ex.refl H, .cons ⟨a, rfl, hS⟩ .nil, hΦ ns hlen, fun v r G' H' e _ _ rv => ?_⟩
  subst e
  have rv : Rp (K w.params) G' v (.bool true) := rv
  cases rv
  rfl
end DL
/-! DLj: xs[i] op= e on a list that lives. -/
namespace DL
open PySem PySem.Spec PyProof.Rows L2
def rGetL (K : PySem.W.Frag) : V → V → Hp → VK → Prop := fun o i H Q => ∃ p xs k v, o = .ref p ∧ i = .int k ∧ 0 ≤ k ∧ SqL K H p xs ∧ atI xs k = some v ∧ Q v H
theorem get_list {X : Cx} : PGet X (rGetL X.K) := by
  intro pins s σ H o i ov iv Q I ro ri h
  obtain ⟨p, xs, k, z, rfl, rfl, h0, hq, he, q⟩ := h
  cases ro
  obtain ⟨t, rfl⟩ := ri
  obtain ⟨its, r, pl, hz⟩ := I.list hq
  obtain ⟨j, h1, h2, h3, h4, h5⟩ := atI_get he
  obtain ⟨w, ew, rw'⟩ := r.get h2
  have hl := r.length
  have hn := line63
  have hj : k.toNat = j := by
    rw [seqIndex_of h0 h5] at h1
    exact Option.some.inj h1
  exact thn (wpAny_getItem_list (Q := fun r s' => r = w ∧ EP X pins σ Q r s') pl.isList h0 (by omega) (by rw [hj]; simpa using ew) ⟨rfl, ⟨z, H, I, rw', q⟩⟩) (fun r s' x => x.2)
def wAugS (wo wi : DTE) (f : Int → Int → Int) (we : DTE) : DTS := fun E ρ κ => wo ρ κ fun ro κ1 => match ro with
  | .c k => wi ρ κ1 fun ri κ2 => match ri, κ2[k]? with
    | .d (.int i), some (.l xs) => 0 ≤ i ∧ match xs[i.toNat]? with
      | some (.int a) => we ρ κ2 fun rb κ3 => match rb, κ3[k]? with
        | .d (.int b), some (.l ys) => i.toNat < ys.length ∧ E.nx ρ (κ3.set k (.l (ys.set i.toNat (.int (f a b)))))
        | _, _ => False
      | _ => False
    | _, _ => False
  | _ => False
theorem ds_augS {X : Cx} {o i e : Expr} {wo wi we : DTE} {f : Int → Int → Int} {op : Operator} {tpos pos : Pos} (ho : DE X o wo) (hi : DE X i wi) (hp : PIp X op (ipI f)) (he : DE X e we)
    (ha : ∀ ov iv new, augStore i ov iv new = (do holding [new, ov, iv] (setItem ov iv new); release [new, ov, iv] []; pure .next) := by intros; rfl) : DS X (.AugAssign (.Subscript o i tpos) op e pos) (wAugS wo wi f we) := by
  obtain ⟨to, po, ho⟩ := ho
  obtain ⟨ti, pi, hi⟩ := hi
  obtain ⟨te, pe, he⟩ := he
  refine ⟨_, ps_augS po pi get_list pe hp set_list ha, fun G H As σ ρ κ E D c p w r => ?_⟩
  refine ho G H As σ ρ κ _ _ c p w fun v1 r1 G1 H1 As1 κ1 s1 c1 p1 i1 w1 => ?_
  cases r1 with
  | c kk =>
    obtain ⟨l, hl, rfl⟩ := i1
    refine hi G1 H1 As1 σ ρ κ1 _ _ c1 p1 w1 fun v2 r2 G2 H2 As2 κ2 s2 c2 p2 i2 w2 => ?_
    split at w2
    · rename_i o1 o2 ii xs hk
      obtain ⟨h0, w2⟩ := w2
      split at w2
      · rename_i o3 a hx
        have i2 : Rp X.K G2 v2 (.int ii) := i2
        cases i2
        obtain ⟨bs, eb⟩ := s2.pre
        have hl2 : As2[kk]? = some l := by rw [eb, List.getElem?_append_left (List.getElem?_eq_some_iff.mp hl).1]; exact hl
        obtain ⟨g0, vs, hq, rp⟩ := c2.ok kk _ l hk hl2
        have ea : atI xs ii = some (.int a) := by
          have := atI_nat hx
          rw [Int.toNat_of_nonneg h0] at this
          exact this
        obtain ⟨va, ea2, ra⟩ := rp.at ea
        cases ra
        refine ⟨l, vs, ii, .int a, rfl, rfl, h0, sql_of hq, ea2, ?_⟩
        refine he G2 H2 As2 σ ρ κ2 _ _ c2 p2 w2 fun v3 r3 G3 H3 As3 κ3 s3 c3 p3 i3 w3 => ?_
        split at w3
        · rename_i o4 o5 b ys hk3
          obtain ⟨hlt, w4⟩ := w3
          have i3 : Rp X.K G3 v3 (.int b) := i3
          cases i3
          obtain ⟨bs3, eb3⟩ := s3.pre
          have hl3 : As3[kk]? = some l := by rw [eb3, List.getElem?_append_left (List.getElem?_eq_some_iff.mp hl2).1]; exact hl2
          obtain ⟨g3, vs3, hq3, rp3⟩ := c3.ok kk _ l hk3 hl3
          have ej : ixN vs3.length ii = some ii.toNat := by
            rw [rp3.len]
            unfold ixN
            rw [if_pos h0, if_pos (by omega)]
          refine ⟨a, b, rfl, rfl, l, vs3, ii, ii.toNat, rfl, rfl, hq3, ej, ?_⟩
          have sw : Step G3 H3 As3 G3 (upd H3 l (.lst (vs3.set ii.toNat (.int (f a b))))) As3 := Step.write (List.mem_of_getElem? hl3) hq3
          have sa := ((s1.trans s2).trans s3).trans sw
          exact r.nx σ ρ G3 _ As3 _ sa (c3.write hk3 hl3 (rp3.set (.int _) _)) (p.step sa) w4
        · exact w3.elim
      · exact w2.elim
    · exact w2.elim
  | _ => exact w1.elim
@[simp] theorem s_augS (wo wi : DTE) (f : Int → Int → Int) (we : DTE) (E : DEnds) (ρ : Rho) (κ : Kap) : wAugS wo wi f we E ρ κ = wo ρ κ fun ro κ1 => match ro with
  | .c k => wi ρ κ1 fun ri κ2 => match ri, κ2[k]? with
    | .d (.int i), some (.l xs) => 0 ≤ i ∧ match xs[i.toNat]? with
      | some (.int a) => we ρ κ2 fun rb κ3 => match rb, κ3[k]? with
        | .d (.int b), some (.l ys) => i.toNat < ys.length ∧ E.nx ρ (κ3.set k (.l (ys.set i.toNat (.int (f a b)))))
        | _, _ => False
      | _ => False
    | _, _ => False
  | _ => False := rfl
end DL
namespace K64
open PySem PySem.Spec PyProof.Rows L2 DL SH
def topS (i : Nat) : Stmt := PySem.Challenge.rw_drawnropes_k64_whole_put_together_and_un.prog.main.body.getD i (.Pass ⟨0, 0, 0, 0⟩)
structure Bn (mg : Str → Option Value) : Prop where
  reversed_ : mg "reversed" = none
  sorted_ : mg "sorted" = none
  tuple_ : mg "tuple" = none
  enumerate_ : mg "enumerate" = none
  len_ : mg "len" = none
  list_ : mg "list" = none
  min_ : mg "min" = none
  abs_ : mg "abs" = none
  int_ : mg "int" = none
  isinstance_ : mg "isinstance" = none
  zip_ : mg "zip" = none
  all_ : mg "all" = none
  str_ : mg "str" = none
  bool_ : mg "bool" = none
  range_ : mg "range" = none
  max_ : mg "max" = none
  set_ : mg "set" = none
  repr_ : mg "repr" = none
section
variable {P : Program} {w : World} {K : PySem.W.Frag} {mg : Str → Option Value} {base : Heap}
abbrev s_turned : Stmt := topS 1
theorem sc_turned : FnScope ["hook", "one", "other", "sense"] ["hook"] (defScope s_turned) := ⟨rfl, rfl, rfl, by decide +kernel, rfl, by decide +kernel, by decide +kernel⟩
theorem d_turned {f : Addr} {cdv : Value} {A : Around} {outer : List Env} {s : Shared} {H : Hp} {E : XK} {k : Nat} (hr : RoomG k (A.deeper (envOfC "turned" (defScope s_turned) s.heap.objs.size f cdv))) (B : Bn mg) :
    DSs (cxOf CX0 P w K mg base ["hook", "one", "other", "sense"] "turned" (defScope s_turned) f cdv A outer s H E).nox (defBody s_turned) w_turned := by
  have nd : (["hook", "one", "other", "sense"] : List Str).Nodup := sc_turned.nd
  exact (dss_cons (ds_asg (de_var 0) (dg_tup rfl (dgs_cons (dg_name 1 nd) (dgs_cons (dg_name 2 nd) (dgs_cons (dg_name 3 nd) dgs_nil)))))
      (dss_one (ds_ret (de_tup (da_cons (de_var 1) (da_cons (de_var 2) (da_cons (de_un un_neg neg_ok (de_var 3)) da_nil)))))))

abbrev s_back : Stmt := topS 2
theorem sc_back : FnScope ["row", "hook"] ["row"] (defScope s_back) := ⟨rfl, rfl, rfl, by decide +kernel, rfl, by decide +kernel, by decide +kernel⟩
theorem d_back {f : Addr} {cdv : Value} {A : Around} {outer : List Env} {s : Shared} {H : Hp} {E : XK} {k : Nat} (hr : RoomG k (A.deeper (envOfC "back" (defScope s_back) s.heap.objs.size f cdv))) (B : Bn mg) (C_turned : Cal P w K mg base "turned" k ["hook"] (spD K 1 Ph_turned)) :
    DSs (cxOf CX0 P w K mg base ["row", "hook"] "back" (defScope s_back) f cdv A outer s H E).nox (defBody s_back) w_back := by
  have nd : (["row", "hook"] : List Str).Nodup := sc_back.nd
  exact (dss_one (ds_ret (de_lc (own := [("hook", 1)]) rfl nd (di_rev B.reversed_ (da_cons (de_var 0) da_nil)) (blkOk_by (by kernel_rfl)) (fun _ => (dg_name 1 nd)) (fun _ => dts_nil) (fun _ => (de_callC C_turned hr rfl (da_cons (de_var 1) da_nil))))))

abbrev s_ropes_in : Stmt := topS 3
theorem sc_ropes_in : FnScope ["row", "hook", "rope"] ["row"] (defScope s_ropes_in) := ⟨rfl, rfl, rfl, by decide +kernel, rfl, by decide +kernel, by decide +kernel⟩
theorem d_ropes_in {f : Addr} {cdv : Value} {A : Around} {outer : List Env} {s : Shared} {H : Hp} {E : XK} {k : Nat} (hr : RoomG k (A.deeper (envOfC "ropes_in" (defScope s_ropes_in) s.heap.objs.size f cdv))) (B : Bn mg) :
    DSs (cxOf CX0 P w K mg base ["row", "hook", "rope"] "ropes_in" (defScope s_ropes_in) f cdv A outer s H E).nox (defBody s_ropes_in) w_ropes_in := by
  have nd : (["row", "hook", "rope"] : List Str).Nodup := sc_ropes_in.nd
  exact (dss_one (ds_ret (de_callTy call_tuple_of tupC_ok B.tuple_ (da_cons (de_sortSc2 (own := [("hook", 1), ("rope", 2)]) (vs1 := [2]) rfl (room80 hr) nd B.sorted_ (di_seq (de_var 0)) (blkOk_by (by kernel_rfl)) (fun _ => (dg_name 1 nd)) (fun _ => dts_nil) (fun _ => (di_seq (de_sl (de_var 1) do_none (do_some de_int)))) (fun _ => (dg_name 2 nd)) (fun _ => dts_nil) (fun _ => (de_var 2))) da_nil))))

abbrev s_settled : Stmt := topS 5
theorem sc_settled : FnScope ["row", "stacks", "kept", "at", "hook", "near", "far", "rope"] ["row"] (defScope s_settled) := ⟨rfl, rfl, rfl, by decide +kernel, rfl, by decide +kernel, by decide +kernel⟩
theorem d_settled {f : Addr} {cdv : Value} {A : Around} {outer : List Env} {s : Shared} {H : Hp} {E : XK} {k : Nat} (hr : RoomG k (A.deeper (envOfC "settled" (defScope s_settled) s.heap.objs.size f cdv))) (B : Bn mg) (C_turned : Cal P w K mg base "turned" k ["hook"] (spD K 1 Ph_turned)) :
    DSs (cxOf CX0 P w K mg base ["row", "stacks", "kept", "at", "hook", "near", "far", "rope"] "settled" (defScope s_settled) f cdv A outer s H E).nox (defBody s_settled) w_settled := by
  have nd : (["row", "stacks", "kept", "at", "hook", "near", "far", "rope"] : List Str).Nodup := sc_settled.nd
  exact (dss_cons (ds_tt 1 2 rfl nd (da_consM false de_dict0 (da_consM true de_dict0 da_nil)))
      (dss_cons (ds_for PassesOwn.never rfl (di_enum B.enumerate_ (da_cons (de_var 0) da_nil)) (dg_tup rfl (dgs_cons (dg_name 3 nd) (dgs_cons (dg_name 4 nd) dgs_nil))) (dss_cons (ds_asg (de_lcB (own := [("rope", 7)]) rfl nd (di_seq (de_sl (de_var 4) do_none (do_some de_int))) (blkOk_by (by kernel_rfl)) (fun _ => (dg_name 7 nd)) (fun _ => dts_nil) (fun _ => (de_setd (de_var 1) (de_var 7) ⟨by rfl, by rfl, by rfl, by rfl⟩))) (dg_two 5 6 rfl nd))
      (dss_one (ds_if (dw_pt (dw_and (dt_cmp op_gtI ci_ok (de_callB call_len len_ok B.len_ (da_cons (de_var 5) da_nil)) de_int (nomark _)) (dw_and (dt_cmp op_gtI ci_ok (de_callB call_len len_ok B.len_ (da_cons (de_var 6) da_nil)) de_int (nomark _)) (dw_and (dt_cmp (op_eqS hr.toRoom.units) eq_ok (de_ix ix_seq ix_ok (de_var 5) (de_un un_neg neg_ok de_int) (fun _ _ => rfl)) (de_ix ix_seq ix_ok (de_var 6) (de_un un_neg neg_ok de_int) (fun _ _ => rfl)) (nomark _)) (dw_and1 (dt_cmp (op_eqS hr.toRoom.units) eq_ok (de_ix ix_seq ix_ok (de_var 0) (de_ix ix_seq ix_ok (de_var 5) (de_un un_neg neg_ok de_int) (fun _ _ => rfl)) (fun _ _ => rfl)) (de_callC C_turned hr rfl (da_cons (de_var 4) da_nil)) (nomark _))))))) (dss_cons (ds_delD (de_var 2) (de_pop0 (de_var 5)))
      (dss_one (ds_expr (de_pop0 (de_var 6))))) (dss_cons (ds_expr (de_append (de_var 5) (de_var 3)))
      (dss_cons (ds_expr (de_append (de_var 6) (de_var 3)))
      (dss_one (ds_asg (de_var 4) (dg_subD (room65 hr) (de_var 2) (de_var 3))))))))))
      (dss_one (ds_ret (de_listVals rfl B.list_ (de_var 2))))))

abbrev s_lines_of : Stmt := topS 6
theorem sc_lines_of : FnScope ["row", "lines", "at", "hook", "rope"] ["row"] (defScope s_lines_of) := ⟨rfl, rfl, rfl, by decide +kernel, rfl, by decide +kernel, by decide +kernel⟩
theorem d_lines_of {f : Addr} {cdv : Value} {A : Around} {outer : List Env} {s : Shared} {H : Hp} {E : XK} {k : Nat} (hr : RoomG k (A.deeper (envOfC "lines_of" (defScope s_lines_of) s.heap.objs.size f cdv))) (B : Bn mg) :
    DSs (cxOf CX0 P w K mg base ["row", "lines", "at", "hook", "rope"] "lines_of" (defScope s_lines_of) f cdv A outer s H E).nox (defBody s_lines_of) w_lines_of := by
  have nd : (["row", "lines", "at", "hook", "rope"] : List Str).Nodup := sc_lines_of.nd
  exact (dss_cons (ds_set false 1 nd de_dict0)
      (dss_cons (ds_for PassesOwn.never rfl (di_enum B.enumerate_ (da_cons (de_var 0) da_nil)) (dg_tup rfl (dgs_cons (dg_name 2 nd) (dgs_cons (dg_name 3 nd) dgs_nil))) (dss_one (ds_for PassesOwn.never rfl (di_seq (de_sl (de_var 3) do_none (do_some de_int))) (dg_name 4 nd) (dss_one (ds_expr (de_append (de_setd (de_var 1) (de_var 4) ⟨by rfl, by rfl, by rfl, by rfl⟩) (de_var 2)))))))
      (dss_one (ds_ret (de_frz (de_var 1))))))

abbrev s_first_of : Stmt := topS 7
theorem sc_first_of : FnScope ["row", "lines", "gone", "found", "heads", "hook", "rope", "line", "place"] ["row"] (defScope s_first_of) := ⟨rfl, rfl, rfl, by decide +kernel, rfl, by decide +kernel, by decide +kernel⟩
theorem d_first_of {f : Addr} {cdv : Value} {A : Around} {outer : List Env} {s : Shared} {H : Hp} {E : XK} {k : Nat} (hr : RoomG k (A.deeper (envOfC "first_of" (defScope s_first_of) s.heap.objs.size f cdv))) (B : Bn mg) (C_lines_of : Cal P w K mg base "lines_of" k ["row"] (spD K 1 Ph_lines_of)) :
    DSs (cxOf CX0 P w K mg base ["row", "lines", "gone", "found", "heads", "hook", "rope", "line", "place"] "first_of" (defScope s_first_of) f cdv A outer s H E).nox (defBody s_first_of) w_first_of := by
  have nd : (["row", "lines", "gone", "found", "heads", "hook", "rope", "line", "place"] : List Str).Nodup := sc_first_of.nd
  exact (dss_cons (ds_set false 1 nd (de_callC C_lines_of hr rfl (da_cons (de_var 0) da_nil)))
      (dss_cons (ds_tt 2 3 rfl nd (da_consM true (de_dc (own := [("rope", 6)]) false rfl nd (di_keysK (de_var 1)) (blkOk_by (by kernel_rfl)) (fun _ => (dg_name 6 nd)) (fun _ => dts_nil) (fun _ => (de_var 6)) (fun _ => de_int)) (da_consM true (de_lst da_nil) da_nil)))
      (dss_cons (ds_while PassesOwn.never (dt_cmp op_ltD ord_ok (de_callB call_len len_ok B.len_ (da_cons (de_var 3) da_nil)) (de_callB call_len len_ok B.len_ (da_cons (de_var 0) da_nil)) (nomark _)) (dss_cons (ds_set false 4 nd (de_lc (own := [("rope", 6), ("line", 7)]) rfl nd (di_itemsM (de_var 1)) (blkOk_by (by kernel_rfl)) (fun _ => (dg_tup rfl (dgs_cons (dg_name 6 nd) (dgs_cons (dg_name 7 nd) dgs_nil)))) (fun _ => (dts_one (dt_cmp op_ltD ord_ok (de_getD (room65 hr) (de_var 2) (de_var 6)) (de_callB call_len len_ok B.len_ (da_cons (de_var 7) da_nil)) (nomark _)))) (fun _ => (de_ix ix_seq ix_ok (de_var 7) (de_getD (room65 hr) (de_var 2) (de_var 6)) (fun _ _ => rfl)))))
      (dss_cons (ds_set false 5 nd (de_callB (cr_minD rfl (room80 hr)) bestC_ok B.min_ (da_cons (de_lc (own := [("place", 8)]) rfl nd (di_seq (de_var 4)) (blkOk_by (by kernel_rfl)) (fun _ => (dg_name 8 nd)) (fun _ => (dts_one (dt_cmp (op_eqS hr.toRoom.units) eq_ok (de_bm PySem.F.plainAttrs_list PySem.F.slot_list_count PySem.F.type_list_count mt_lcount cnt_ok (de_var 4) (da_cons (de_var 8) da_nil)) de_int (nomark _)))) (fun _ => (de_ix ix_seq ix_ok (de_var 0) (de_var 8) (fun _ _ => rfl)))) da_nil)))
      (dss_cons (ds_for PassesOwn.never rfl (di_seq (de_sl (de_var 5) do_none (do_some de_int))) (dg_name 6 nd) (dss_one (ds_augD (room65 hr) (de_var 2) (de_var 6) de_int)))
      (dss_one (ds_expr (de_append (de_var 3) (de_var 5))))))))
      (dss_one (ds_ret (de_var 3))))))

abbrev s_least : Stmt := topS 8
theorem sc_least : FnScope ["row"] ["row"] (defScope s_least) := ⟨rfl, rfl, rfl, by decide +kernel, rfl, by decide +kernel, by decide +kernel⟩
theorem d_least {f : Addr} {cdv : Value} {A : Around} {outer : List Env} {s : Shared} {H : Hp} {E : XK} {k : Nat} (hr : RoomG k (A.deeper (envOfC "least" (defScope s_least) s.heap.objs.size f cdv))) (B : Bn mg) (C_settled : Cal P w K mg base "settled" k ["row"] (spD K 1 Ph_settled)) (C_first_of : Cal P w K mg base "first_of" k ["row"] (spD K 1 Ph_first_of)) :
    DSs (cxOf CX0 P w K mg base ["row"] "least" (defScope s_least) f cdv A outer s H E).nox (defBody s_least) w_least := by
  have nd : (["row"] : List Str).Nodup := sc_least.nd
  exact (dss_one (ds_ret (de_callC C_first_of hr rfl (da_cons (de_callC C_settled hr rfl (da_cons (de_var 0) da_nil)) da_nil))))

abbrev s_put : Stmt := topS 10
theorem sc_put : FnScope ["row", "other"] ["row", "other"] (defScope s_put) := ⟨rfl, rfl, rfl, by decide +kernel, rfl, by decide +kernel, by decide +kernel⟩
theorem d_put {f : Addr} {cdv : Value} {A : Around} {outer : List Env} {s : Shared} {H : Hp} {E : XK} {k : Nat} (hr : RoomG k (A.deeper (envOfC "put" (defScope s_put) s.heap.objs.size f cdv))) (B : Bn mg) (C_least : Cal P w K mg base "least" k ["row"] (spD K 1 Ph_least)) :
    DSs (cxOf CX0 P w K mg base ["row", "other"] "put" (defScope s_put) f cdv A outer s H E).nox (defBody s_put) w_put := by
  have nd : (["row", "other"] : List Str).Nodup := sc_put.nd
  exact (dss_one (ds_ret (de_callC C_least hr rfl (da_cons (de_op op_addD add_ok (de_callTy call_list_of listC_ok B.list_ (da_cons (de_var 0) da_nil)) (de_callTy call_list_of listC_ok B.list_ (da_cons (de_var 1) da_nil))) da_nil))))

abbrev s_size : Stmt := topS 11
theorem sc_size : FnScope ["row"] ["row"] (defScope s_size) := ⟨rfl, rfl, rfl, by decide +kernel, rfl, by decide +kernel, by decide +kernel⟩
theorem d_size {f : Addr} {cdv : Value} {A : Around} {outer : List Env} {s : Shared} {H : Hp} {E : XK} {k : Nat} (hr : RoomG k (A.deeper (envOfC "size" (defScope s_size) s.heap.objs.size f cdv))) (B : Bn mg) (C_least : Cal P w K mg base "least" k ["row"] (spD K 1 Ph_least)) :
    DSs (cxOf CX0 P w K mg base ["row"] "size" (defScope s_size) f cdv A outer s H E).nox (defBody s_size) w_size := by
  have nd : (["row"] : List Str).Nodup := sc_size.nd
  exact (dss_one (ds_ret (de_callB call_len len_ok B.len_ (da_cons (de_callC C_least hr rfl (da_cons (de_var 0) da_nil)) da_nil))))

abbrev s_held : Stmt := topS 13
theorem sc_held : FnScope ["row"] ["row"] (defScope s_held) := ⟨rfl, rfl, rfl, by decide +kernel, rfl, by decide +kernel, by decide +kernel⟩
theorem d_held {f : Addr} {cdv : Value} {A : Around} {outer : List Env} {s : Shared} {H : Hp} {E : XK} {k : Nat} (hr : RoomG k (A.deeper (envOfC "held" (defScope s_held) s.heap.objs.size f cdv))) (B : Bn mg) (C_settled : Cal P w K mg base "settled" k ["row"] (spD K 1 Ph_settled)) (C_ropes_in : Cal P w K mg base "ropes_in" k ["row"] (spD K 1 Ph_ropes_in)) :
    DSs (cxOf CX0 P w K mg base ["row"] "held" (defScope s_held) f cdv A outer s H E).nox (defBody s_held) w_held := by
  have nd : (["row"] : List Str).Nodup := sc_held.nd
  exact (dss_one (ds_ret (de_callC C_ropes_in hr rfl (da_cons (de_callC C_settled hr rfl (da_cons (de_var 0) da_nil)) da_nil))))

abbrev s_law_box : Stmt := topS 15
theorem sc_law_box : FnScope ["_law_script", "_law_k", "_law_cell"] ["_law_script", "_law_k"] (defScope s_law_box) := ⟨rfl, rfl, rfl, by decide +kernel, rfl, by decide +kernel, by decide +kernel⟩
theorem d_law_box {f : Addr} {cdv : Value} {A : Around} {outer : List Env} {s : Shared} {H : Hp} {E : XK} {k : Nat} (hr : RoomG k (A.deeper (envOfC "_law_box" (defScope s_law_box) s.heap.objs.size f cdv))) (B : Bn mg) :
    DSs (cxOf CX0 P w K mg base ["_law_script", "_law_k", "_law_cell"] "_law_box" (defScope s_law_box) f cdv A outer s H E).nox (defBody s_law_box) w_law_box := by
  have nd : (["_law_script", "_law_k", "_law_cell"] : List Str).Nodup := sc_law_box.nd
  exact (dss_cons (ds_set false 2 nd de_int)
      (dss_cons (ds_if (dt_cmp op_ltD ord_ok (de_var 1) (de_lenS B.len_ (de_var 0)) (nomark _)) (dss_one (ds_set false 2 nd (de_scr (de_var 0) (de_var 1) (fun _ _ => rfl)))) dss_nil)
      (dss_one (ds_ret (de_lst (da_cons (de_op op_mulD mul_ok (de_callB call_abs abs_ok B.abs_ (da_cons (de_var 2) da_nil)) (de_callTy call_int1 intC_ok B.int_ (da_cons (de_cmp op_geI ci_ok (de_callB call_abs abs_ok B.abs_ (da_cons (de_var 2) da_nil)) (de_op op_pow pow_ok de_int de_int) (nomark _)) da_nil))) (da_cons (de_op op_addD add_ok (de_op op_addD add_ok (de_op op_mod mod_ok (de_var 2) de_int) (de_op op_mulD mul_ok de_int (de_var 1))) de_int) (da_cons de_int da_nil))))))))

abbrev s_law_take : Stmt := topS 16
theorem sc_law_take : FnScope ["_law_box_here", "_law_bound", "_law_found", "_law_once"] ["_law_box_here", "_law_bound"] (defScope s_law_take) := ⟨rfl, rfl, rfl, by decide +kernel, rfl, by decide +kernel, by decide +kernel⟩
theorem d_law_take {f : Addr} {cdv : Value} {A : Around} {outer : List Env} {s : Shared} {H : Hp} {E : XK} {k : Nat} (hr : RoomG k (A.deeper (envOfC "_law_take" (defScope s_law_take) s.heap.objs.size f cdv))) (B : Bn mg) :
    DSs (cxOf CX0 P w K mg base ["_law_box_here", "_law_bound", "_law_found", "_law_once"] "_law_take" (defScope s_law_take) f cdv A outer s H E).nox (defBody s_law_take) w_law_take := by
  have nd : (["_law_box_here", "_law_bound", "_law_found", "_law_once"] : List Str).Nodup := sc_law_take.nd
  exact (dss_cons (ds_if (dt_cmp op_gtI ci_ok (de_ix ix_seq ix_ok (de_var 0) de_int (fun _ _ => rfl)) de_int (nomark _)) (dss_cons (ds_set false 2 nd (de_op op_mod mod_ok (de_ix ix_seq ix_ok (de_var 0) de_int (fun _ _ => rfl)) (de_var 1)))
      (dss_cons (ds_asg (de_op op_fdiv fdiv_ok (de_ix ix_seq ix_ok (de_var 0) de_int (fun _ _ => rfl)) (de_var 1)) (dg_sub (de_var 0) de_int))
      (dss_one (ds_ret (de_var 2))))) dss_nil)
      (dss_cons (ds_asg (de_op op_addD add_ok (de_ix ix_seq ix_ok (de_var 0) de_int (fun _ _ => rfl)) de_int) (dg_sub (de_var 0) de_int))
      (dss_cons (ds_set false 3 nd (de_op op_mod mod_ok (de_op op_pow pow_ok (de_op op_addD add_ok (de_ix ix_seq ix_ok (de_var 0) de_int (fun _ _ => rfl)) (de_op op_mulD mul_ok de_int (de_ix ix_seq ix_ok (de_var 0) de_int (fun _ _ => rfl)))) de_int) de_int))
      (dss_one (ds_ret (de_op op_mod mod_ok (de_op op_fdiv fdiv_ok (de_op op_mod mod_ok (de_op op_addD add_ok (de_op op_mulD mul_ok (de_var 3) (de_op op_addD add_ok (de_op op_mod mod_ok (de_var 3) de_int) de_int)) (de_op op_mulD mul_ok (de_ix ix_seq ix_ok (de_var 0) de_int (fun _ _ => rfl)) de_int)) de_int) de_int) (de_var 1)))))))

abbrev s_law_same : Stmt := topS 17
theorem sc_law_same : FnScope ["_law_found", "_law_due", "_law_one", "_law_two"] ["_law_found", "_law_due"] (defScope s_law_same) := ⟨rfl, rfl, rfl, by decide +kernel, rfl, by decide +kernel, by decide +kernel⟩
theorem d_law_same {f : Addr} {cdv : Value} {A : Around} {outer : List Env} {s : Shared} {H : Hp} {E : XK} {k : Nat} (hr : RoomG k (A.deeper (envOfC "_law_same" (defScope s_law_same) s.heap.objs.size f cdv))) (B : Bn mg) {Ph_law_same : List R → (R → Prop) → Prop} (C_law_same : Cal P w K mg base "_law_same" k ["_law_found", "_law_due"] (spD K 2 Ph_law_same)) :
    DSs (cxOf CX0 P w K mg base ["_law_found", "_law_due", "_law_one", "_law_two"] "_law_same" (defScope s_law_same) f cdv A outer s H E).nox (defBody s_law_same) (w_law_same Ph_law_same) := by
  have nd : (["_law_found", "_law_due", "_law_one", "_law_two"] : List Str).Nodup := sc_law_same.nd
  exact (dss_cons (ds_if (dt_tru (de_isi2 .list .tuple B.isinstance_ B.list_ B.tuple_ (de_var 1))) (dss_cons (ds_if (dw_pt (dw_or (dt_cmp (op_neS hr.toRoom.units) ne_ok (de_isi .list B.isinstance_ B.list_ (de_var 0)) (de_isi .list B.isinstance_ B.list_ (de_var 1)) (nomark _)) (dw_or1 (dt_cmp (op_neS hr.toRoom.units) ne_ok (de_isi .tuple B.isinstance_ B.tuple_ (de_var 0)) (de_isi .tuple B.isinstance_ B.tuple_ (de_var 1)) (nomark _))))) (dss_one (ds_ret de_bl)) dss_nil)
      (dss_one (ds_ret (de_and (de_cmp (op_eqS hr.toRoom.units) eq_ok (de_callB call_len len_ok B.len_ (da_cons (de_var 0) da_nil)) (de_callB call_len len_ok B.len_ (da_cons (de_var 1) da_nil)) (nomark _)) (de_one (de_callB (cr_all rfl) allC_ok B.all_ (da_cons (de_lc (own := [("_law_one", 2), ("_law_two", 3)]) rfl nd (di_zip B.zip_ (da_cons (de_var 0) (da_cons (de_var 1) da_nil))) (blkOk_by (by kernel_rfl)) (fun _ => (dg_tup rfl (dgs_cons (dg_name 2 nd) (dgs_cons (dg_name 3 nd) dgs_nil)))) (fun _ => dts_nil) (fun _ => (de_callC C_law_same hr rfl (da_cons (de_var 2) (da_cons (de_var 3) da_nil))))) da_nil))))))) dss_nil)
      (dss_cons (ds_if (dw_pt (dw_or (dt_cmp op_isND isN_ok (de_var 1) de_non (nomark _)) (dw_or1 (dt_tru (de_isi .str B.isinstance_ B.str_ (de_var 1)))))) (dss_one (ds_ret (de_and (de_cmp (op_eqS hr.toRoom.units) eq_ok (de_var 0) (de_var 1) (nomark _)) (de_one (de_cmp (op_eqS hr.toRoom.units) eq_ok (de_isi .str B.isinstance_ B.str_ (de_var 0)) (de_isi .str B.isinstance_ B.str_ (de_var 1)) (nomark _)))))) dss_nil)
      (dss_one (ds_ret (de_and (de_isi .int B.isinstance_ B.int_ (de_var 0)) (de_and (de_cmp (op_eqS hr.toRoom.units) eq_ok (de_isi .bool B.isinstance_ B.bool_ (de_var 0)) (de_isi .bool B.isinstance_ B.bool_ (de_var 1)) (nomark _)) (de_one (de_cmp (op_eqS hr.toRoom.units) eq_ok (de_var 0) (de_var 1) (nomark _)))))))))

abbrev s_law_names : Stmt := topS 18
theorem sc_law_names : FnScope ["_law_box_here", "_law_many", "_law_letters", "_law_found", "_law_k", "_law_name", "_law_j", "_law_one", "_law_sign"] ["_law_box_here", "_law_many"] (defScope s_law_names) := ⟨rfl, rfl, rfl, by decide +kernel, rfl, by decide +kernel, by decide +kernel⟩
theorem d_law_names {f : Addr} {cdv : Value} {A : Around} {outer : List Env} {s : Shared} {H : Hp} {E : XK} {k : Nat} (hr : RoomG k (A.deeper (envOfC "_law_names" (defScope s_law_names) s.heap.objs.size f cdv))) (B : Bn mg) (C_law_take : Cal P w K mg base "_law_take" k ["_law_box_here", "_law_bound"] (spL K 2 Ph_law_take)) :
    DSs (cxOf CX0 P w K mg base ["_law_box_here", "_law_many", "_law_letters", "_law_found", "_law_k", "_law_name", "_law_j", "_law_one", "_law_sign"] "_law_names" (defScope s_law_names) f cdv A outer s H E).nox (defBody s_law_names) w_law_names := by
  have nd : (["_law_box_here", "_law_many", "_law_letters", "_law_found", "_law_k", "_law_name", "_law_j", "_law_one", "_law_sign"] : List Str).Nodup := sc_law_names.nd
  exact (dss_cons (ds_tt 2 3 rfl nd (da_consM false de_str (da_consM true (de_lst da_nil) da_nil)))
      (dss_cons (ds_for PassesOwn.never rfl (di_range1 B.range_ (da_cons (de_var 1) da_nil)) (dg_name 4 nd) (dss_cons (ds_set false 5 nd (de_bm PySem.F.plainAttrs_str PySem.F.slot_str_join PySem.F.type_str_join mt_join joinC_ok de_str (da_cons (de_lc (own := [("_law_j", 6)]) rfl nd (di_range1 B.range_ (da_cons (de_ix ix_seq ix_ok (de_lst (da_cons de_int (da_cons de_int (da_cons de_int (da_cons de_int da_nil))))) (de_callC_L C_law_take hr rfl (da_cons (de_var 0) (da_cons de_int da_nil))) (fun _ _ => rfl)) da_nil)) (blkOk_by (by kernel_rfl)) (fun _ => (dg_name 6 nd)) (fun _ => dts_nil) (fun _ => (de_ix ix_seq ix_ok (de_var 2) (de_callC_L C_law_take hr rfl (da_cons (de_var 0) (da_cons de_int da_nil))) (fun _ _ => rfl)))) da_nil)))
      (dss_one (ds_expr (de_append (de_var 3) (de_ix ix_seq ix_ok (de_lc (own := [("_law_one", 7)]) rfl nd (di_seq (de_op op_addD add_ok (de_lst (da_cons (de_var 5) da_nil)) (de_lc (own := [("_law_sign", 8)]) rfl nd (di_seq (de_var 2)) (blkOk_by (by kernel_rfl)) (fun _ => (dg_name 8 nd)) (fun _ => dts_nil) (fun _ => (de_op op_addD add_ok (de_sl (de_var 5) do_none (do_some de_int)) (de_var 8)))))) (blkOk_by (by kernel_rfl)) (fun _ => (dg_name 7 nd)) (fun _ => (dts_one (dt_cmp (op_notInA (room65 hr)) in_ok (de_var 7) (de_var 3) (by rfl)))) (fun _ => (de_var 7))) de_int (fun _ _ => rfl)))))))
      (dss_one (ds_ret (de_callB (cr_sortD (room80 hr)) sortC_ok B.sorted_ (da_cons (de_var 3) da_nil))))))

abbrev s_law_hook : Stmt := topS 19
theorem sc_law_hook : FnScope ["_law_box_here", "_law_names_here", "_law_one", "_law_other"] ["_law_box_here", "_law_names_here"] (defScope s_law_hook) := ⟨rfl, rfl, rfl, by decide +kernel, rfl, by decide +kernel, by decide +kernel⟩
theorem d_law_hook {f : Addr} {cdv : Value} {A : Around} {outer : List Env} {s : Shared} {H : Hp} {E : XK} {k : Nat} (hr : RoomG k (A.deeper (envOfC "_law_hook" (defScope s_law_hook) s.heap.objs.size f cdv))) (B : Bn mg) (C_law_take : Cal P w K mg base "_law_take" k ["_law_box_here", "_law_bound"] (spL K 2 Ph_law_take)) :
    DSs (cxOf CX0 P w K mg base ["_law_box_here", "_law_names_here", "_law_one", "_law_other"] "_law_hook" (defScope s_law_hook) f cdv A outer s H E).nox (defBody s_law_hook) w_law_hook := by
  have nd : (["_law_box_here", "_law_names_here", "_law_one", "_law_other"] : List Str).Nodup := sc_law_hook.nd
  exact (dss_cons (ds_par 2 3 rfl nd (da_consM false (de_callC_L C_law_take hr rfl (da_cons (de_var 0) (da_cons (de_callB call_len len_ok B.len_ (da_cons (de_var 1) da_nil)) da_nil))) (da_consM false (de_callC_L C_law_take hr rfl (da_cons (de_var 0) (da_cons (de_op op_sub sub_ok (de_callB call_len len_ok B.len_ (da_cons (de_var 1) da_nil)) de_int) da_nil))) da_nil)))
      (dss_cons (ds_set false 3 nd (de_op op_addD add_ok (de_var 3) (de_callTy call_int1 intC_ok B.int_ (da_cons (de_cmp op_geI ci_ok (de_var 3) (de_var 2) (nomark _)) da_nil))))
      (dss_one (ds_ret (de_tup (da_cons (de_ix ix_seq ix_ok (de_var 1) (de_callB (call_min2 rfl) min2_ok B.min_ (da_cons (de_var 2) (da_cons (de_var 3) da_nil))) (fun _ _ => rfl)) (da_cons (de_ix ix_seq ix_ok (de_var 1) (de_callB (call_max2 rfl) max2_ok B.max_ (da_cons (de_var 2) (da_cons (de_var 3) da_nil))) (fun _ _ => rfl)) (da_cons (de_op op_sub sub_ok de_int (de_op op_mulD mul_ok de_int (de_callC_L C_law_take hr rfl (da_cons (de_var 0) (da_cons de_int da_nil))))) da_nil))))))))

abbrev s_law_back : Stmt := topS 20
theorem sc_law_back : FnScope ["_law_row_here", "_law_one", "_law_other", "_law_sense"] ["_law_row_here"] (defScope s_law_back) := ⟨rfl, rfl, rfl, by decide +kernel, rfl, by decide +kernel, by decide +kernel⟩
theorem d_law_back {f : Addr} {cdv : Value} {A : Around} {outer : List Env} {s : Shared} {H : Hp} {E : XK} {k : Nat} (hr : RoomG k (A.deeper (envOfC "_law_back" (defScope s_law_back) s.heap.objs.size f cdv))) (B : Bn mg) :
    DSs (cxOf CX0 P w K mg base ["_law_row_here", "_law_one", "_law_other", "_law_sense"] "_law_back" (defScope s_law_back) f cdv A outer s H E).nox (defBody s_law_back) w_law_back := by
  have nd : (["_law_row_here", "_law_one", "_law_other", "_law_sense"] : List Str).Nodup := sc_law_back.nd
  exact (dss_one (ds_ret (de_lc (own := [("_law_one", 1), ("_law_other", 2), ("_law_sense", 3)]) rfl nd (di_seq (de_revS (de_var 0))) (blkOk_by (by kernel_rfl)) (fun _ => (dg_tup rfl (dgs_cons (dg_name 1 nd) (dgs_cons (dg_name 2 nd) (dgs_cons (dg_name 3 nd) dgs_nil))))) (fun _ => dts_nil) (fun _ => (de_tup (da_cons (de_var 1) (da_cons (de_var 2) (da_cons (de_un un_neg neg_ok (de_var 3)) da_nil))))))))

abbrev s_law_knot : Stmt := topS 21
theorem sc_law_knot : FnScope ["_law_names_here", "_law_found", "_law_one", "_law_other"] ["_law_names_here"] (defScope s_law_knot) := ⟨rfl, rfl, rfl, by decide +kernel, rfl, by decide +kernel, by decide +kernel⟩
theorem d_law_knot {f : Addr} {cdv : Value} {A : Around} {outer : List Env} {s : Shared} {H : Hp} {E : XK} {k : Nat} (hr : RoomG k (A.deeper (envOfC "_law_knot" (defScope s_law_knot) s.heap.objs.size f cdv))) (B : Bn mg) (C_law_back : Cal P w K mg base "_law_back" k ["_law_row_here"] (spD K 1 Ph_law_back)) :
    DSs (cxOf CX0 P w K mg base ["_law_names_here", "_law_found", "_law_one", "_law_other"] "_law_knot" (defScope s_law_knot) f cdv A outer s H E).nox (defBody s_law_knot) w_law_knot := by
  have nd : (["_law_names_here", "_law_found", "_law_one", "_law_other"] : List Str).Nodup := sc_law_knot.nd
  exact (dss_cons (ds_set false 1 nd (de_lst (da_cons (de_tup (da_cons (de_ix ix_seq ix_ok (de_var 0) de_int (fun _ _ => rfl)) (da_cons (de_ix ix_seq ix_ok (de_var 0) de_int (fun _ _ => rfl)) (da_cons de_int da_nil)))) da_nil)))
      (dss_cons (ds_for PassesOwn.never rfl (di_zip B.zip_ (da_cons (de_sl (de_var 0) (do_some de_int) do_none) (da_cons (de_sl (de_var 0) (do_some de_int) do_none) da_nil))) (dg_tup rfl (dgs_cons (dg_name 2 nd) (dgs_cons (dg_name 3 nd) dgs_nil))) (dss_one (ds_set false 1 nd (de_op op_addD add_ok (de_op op_addD add_ok (de_op op_addD add_ok (de_var 1) (de_lst (da_cons (de_tup (da_cons (de_var 2) (da_cons (de_var 3) (da_cons de_int da_nil)))) da_nil))) (de_callC C_law_back hr rfl (da_cons (de_var 1) da_nil))) (de_lst (da_cons (de_tup (da_cons (de_var 2) (da_cons (de_var 3) (da_cons (de_un un_neg neg_ok de_int) da_nil)))) da_nil))))))
      (dss_one (ds_ret (de_var 1)))))

abbrev s_law_some : Stmt := topS 22
theorem sc_law_some : FnScope ["_law_box_here", "_law_names_here", "_law_few", "_law_others", "_law_found", "_law_turn"] ["_law_box_here", "_law_names_here", "_law_few"] (defScope s_law_some) := ⟨rfl, rfl, rfl, by decide +kernel, rfl, by decide +kernel, by decide +kernel⟩
theorem d_law_some {f : Addr} {cdv : Value} {A : Around} {outer : List Env} {s : Shared} {H : Hp} {E : XK} {k : Nat} (hr : RoomG k (A.deeper (envOfC "_law_some" (defScope s_law_some) s.heap.objs.size f cdv))) (B : Bn mg) (C_law_take : Cal P w K mg base "_law_take" k ["_law_box_here", "_law_bound"] (spL K 2 Ph_law_take)) :
    DSs (cxOf CX0 P w K mg base ["_law_box_here", "_law_names_here", "_law_few", "_law_others", "_law_found", "_law_turn"] "_law_some" (defScope s_law_some) f cdv A outer s H E).nox (defBody s_law_some) w_law_some := by
  have nd : (["_law_box_here", "_law_names_here", "_law_few", "_law_others", "_law_found", "_law_turn"] : List Str).Nodup := sc_law_some.nd
  exact (dss_cons (ds_par 3 4 rfl nd (da_consM true (de_callTy call_list_of listC_ok B.list_ (da_cons (de_var 1) da_nil)) (da_consM true (de_lst da_nil) da_nil)))
      (dss_cons (ds_for PassesOwn.never rfl (di_range1 B.range_ (da_cons (de_op op_addD add_ok (de_var 2) (de_callC_L C_law_take hr rfl (da_cons (de_var 0) (da_cons (de_op op_addD add_ok (de_op op_sub sub_ok (de_callB call_len len_ok B.len_ (da_cons (de_var 1) da_nil)) (de_var 2)) de_int) da_nil)))) da_nil)) (dg_name 5 nd) (dss_one (ds_expr (de_append (de_var 4) (de_pop1 (de_var 3) (de_callC_L C_law_take hr rfl (da_cons (de_var 0) (da_cons (de_callB call_len len_ok B.len_ (da_cons (de_var 3) da_nil)) da_nil))))))))
      (dss_one (ds_ret (de_callB (cr_sortD (room80 hr)) sortC_ok B.sorted_ (da_cons (de_var 4) da_nil))))))

abbrev s_law_piece : Stmt := topS 23
theorem sc_law_piece : FnScope ["_law_box_here", "_law_names_here", "_law_way", "_law_one", "_law_other"] ["_law_box_here", "_law_names_here"] (defScope s_law_piece) := ⟨rfl, rfl, rfl, by decide +kernel, rfl, by decide +kernel, by decide +kernel⟩
theorem d_law_piece {f : Addr} {cdv : Value} {A : Around} {outer : List Env} {s : Shared} {H : Hp} {E : XK} {k : Nat} (hr : RoomG k (A.deeper (envOfC "_law_piece" (defScope s_law_piece) s.heap.objs.size f cdv))) (B : Bn mg) (C_law_hook : Cal P w K mg base "_law_hook" k ["_law_box_here", "_law_names_here"] (spL K 2 Ph_law_hook)) (C_law_take : Cal P w K mg base "_law_take" k ["_law_box_here", "_law_bound"] (spL K 2 Ph_law_take)) (C_law_back : Cal P w K mg base "_law_back" k ["_law_row_here"] (spD K 1 Ph_law_back)) (C_law_some : Cal P w K mg base "_law_some" k ["_law_box_here", "_law_names_here", "_law_few"] (spL K 3 Ph_law_some)) (C_law_knot : Cal P w K mg base "_law_knot" k ["_law_names_here"] (spD K 1 Ph_law_knot)) :
    DSs (cxOf CX0 P w K mg base ["_law_box_here", "_law_names_here", "_law_way", "_law_one", "_law_other"] "_law_piece" (defScope s_law_piece) f cdv A outer s H E).nox (defBody s_law_piece) w_law_piece := by
  have nd : (["_law_box_here", "_law_names_here", "_law_way", "_law_one", "_law_other"] : List Str).Nodup := sc_law_piece.nd
  exact (dss_cons (ds_par3 2 3 4 rfl nd (da_consM false (de_callC_L C_law_take hr rfl (da_cons (de_var 0) (da_cons de_int da_nil))) (da_consM false (de_callC_L C_law_hook hr rfl (da_cons (de_var 0) (da_cons (de_var 1) da_nil))) (da_consM false (de_callC_L C_law_hook hr rfl (da_cons (de_var 0) (da_cons (de_var 1) da_nil))) da_nil))))
      (dss_cons (ds_if (dt_cmp op_ltD ord_ok (de_var 2) de_int (nomark _)) (dss_one (ds_ret (de_lst (da_cons (de_var 3) da_nil)))) dss_nil)
      (dss_cons (ds_if (dt_cmp (op_eqS hr.toRoom.units) eq_ok (de_var 2) de_int (nomark _)) (dss_one (ds_ret (de_op op_mulD mul_ok (de_lst (da_cons (de_var 3) da_nil)) (de_op op_addD add_ok de_int (de_callC_L C_law_take hr rfl (da_cons (de_var 0) (da_cons de_int da_nil))))))) dss_nil)
      (dss_cons (ds_if (dt_cmp op_ltD ord_ok (de_var 2) de_int (nomark _)) (dss_one (ds_ret (de_op op_addD add_ok (de_lst (da_cons (de_var 3) (da_cons (de_var 4) da_nil))) (de_callC C_law_back hr rfl (da_cons (de_lst (da_cons (de_var 4) (da_cons (de_var 3) da_nil))) da_nil))))) dss_nil)
      (dss_cons (ds_if (dt_cmp (op_eqS hr.toRoom.units) eq_ok (de_var 2) de_int (nomark _)) (dss_one (ds_ret (de_callC C_law_knot hr rfl (da_cons (de_callC_L C_law_some hr rfl (da_cons (de_var 0) (da_cons (de_sl (de_var 1) do_none (do_some de_int)) (da_cons de_int da_nil)))) da_nil)))) dss_nil)
      (dss_one (ds_ret (de_ifx (dt_cmp (op_eqS hr.toRoom.units) eq_ok (de_var 2) de_int (nomark _)) (de_op op_addD add_ok (de_lst (da_cons (de_var 3) (da_cons (de_var 4) da_nil))) (de_callC C_law_back hr rfl (da_cons (de_lst (da_cons (de_var 3) da_nil)) da_nil))) (de_op op_addD add_ok (de_lst (da_cons (de_var 3) da_nil)) (de_callC C_law_back hr rfl (da_cons (de_lst (da_cons (de_var 3) da_nil)) da_nil)))))))))))

abbrev s_law_row : Stmt := topS 24
theorem sc_law_row : FnScope ["_law_box_here", "_law_names_here", "_law_room", "_law_found", "_law_turn", "_law_piece_here", "_law_at"] ["_law_box_here", "_law_names_here", "_law_room"] (defScope s_law_row) := ⟨rfl, rfl, rfl, by decide +kernel, rfl, by decide +kernel, by decide +kernel⟩
theorem d_law_row {f : Addr} {cdv : Value} {A : Around} {outer : List Env} {s : Shared} {H : Hp} {E : XK} {k : Nat} (hr : RoomG k (A.deeper (envOfC "_law_row" (defScope s_law_row) s.heap.objs.size f cdv))) (B : Bn mg) (C_law_take : Cal P w K mg base "_law_take" k ["_law_box_here", "_law_bound"] (spL K 2 Ph_law_take)) (C_law_piece : Cal P w K mg base "_law_piece" k ["_law_box_here", "_law_names_here"] (spL K 2 Ph_law_piece)) (C_law_back : Cal P w K mg base "_law_back" k ["_law_row_here"] (spD K 1 Ph_law_back)) :
    DSs (cxOf CX0 P w K mg base ["_law_box_here", "_law_names_here", "_law_room", "_law_found", "_law_turn", "_law_piece_here", "_law_at"] "_law_row" (defScope s_law_row) f cdv A outer s H E).nox (defBody s_law_row) w_law_row := by
  have nd : (["_law_box_here", "_law_names_here", "_law_room", "_law_found", "_law_turn", "_law_piece_here", "_law_at"] : List Str).Nodup := sc_law_row.nd
  exact (dss_cons (ds_set false 3 nd (de_lst da_nil))
      (dss_cons (ds_for PassesOwn.never rfl (di_range1 B.range_ (da_cons (de_op op_addD add_ok de_int (de_callC_L C_law_take hr rfl (da_cons (de_var 0) (da_cons de_int da_nil)))) da_nil)) (dg_name 4 nd) (dss_cons (ds_set false 5 nd (de_callC_L C_law_piece hr rfl (da_cons (de_var 0) (da_cons (de_var 1) da_nil))))
      (dss_cons (ds_if (dw_pt (dw_and (dt_cmp (op_neS hr.toRoom.units) ne_ok (de_var 3) (de_lst da_nil) (nomark _)) (dw_and1 (dt_cmp (op_eqS hr.toRoom.units) eq_ok (de_callC_L C_law_take hr rfl (da_cons (de_var 0) (da_cons de_int da_nil))) de_int (nomark _))))) (dss_cons (ds_set false 6 nd (de_callC_L C_law_take hr rfl (da_cons (de_var 0) (da_cons (de_callB call_len len_ok B.len_ (da_cons (de_var 3) da_nil)) da_nil))))
      (dss_one (ds_set false 5 nd (de_callC C_law_back hr rfl (da_cons (de_sl (de_var 3) (do_some (de_var 6)) (do_some (de_op op_addD add_ok (de_op op_addD add_ok (de_var 6) de_int) (de_callC_L C_law_take hr rfl (da_cons (de_var 0) (da_cons de_int da_nil)))))) da_nil))))) dss_nil)
      (dss_one (ds_if (dt_cmp op_leI ci_ok (de_op op_addD add_ok (de_callB call_len len_ok B.len_ (da_cons (de_var 3) da_nil)) (de_callB call_len len_ok B.len_ (da_cons (de_var 5) da_nil))) (de_var 2) (nomark _)) (dss_one (ds_set false 3 nd (de_op op_addD add_ok (de_var 3) (de_var 5)))) dss_nil)))))
      (dss_one (ds_ret (de_var 3)))))

abbrev s_law_settled : Stmt := topS 25
theorem sc_law_settled : FnScope ["_law_row_here", "_law_stacks", "_law_staying", "_law_at", "_law_one", "_law_other", "_law_sense", "_law_near", "_law_far"] ["_law_row_here"] (defScope s_law_settled) := ⟨rfl, rfl, rfl, by decide +kernel, rfl, by decide +kernel, by decide +kernel⟩
theorem d_law_settled {f : Addr} {cdv : Value} {A : Around} {outer : List Env} {s : Shared} {H : Hp} {E : XK} {k : Nat} (hr : RoomG k (A.deeper (envOfC "_law_settled" (defScope s_law_settled) s.heap.objs.size f cdv))) (B : Bn mg) :
    DSs (cxOf CX0 P w K mg base ["_law_row_here", "_law_stacks", "_law_staying", "_law_at", "_law_one", "_law_other", "_law_sense", "_law_near", "_law_far"] "_law_settled" (defScope s_law_settled) f cdv A outer s H E).nox (defBody s_law_settled) w_law_settled := by
  have nd : (["_law_row_here", "_law_stacks", "_law_staying", "_law_at", "_law_one", "_law_other", "_law_sense", "_law_near", "_law_far"] : List Str).Nodup := sc_law_settled.nd
  exact (dss_cons (ds_par 1 2 rfl nd (da_consM false de_dict0 (da_consM true de_dict0 da_nil)))
      (dss_cons (ds_for PassesOwn.never rfl (di_enum B.enumerate_ (da_cons (de_var 0) da_nil)) (dg_tup rfl (dgs_cons (dg_name 3 nd) (dgs_cons (dg_tup rfl (dgs_cons (dg_name 4 nd) (dgs_cons (dg_name 5 nd) (dgs_cons (dg_name 6 nd) dgs_nil)))) dgs_nil))) (dss_cons (ds_par 7 8 rfl nd (da_consM true (de_setd (de_var 1) (de_var 4) ⟨by rfl, by rfl, by rfl, by rfl⟩) (da_consM true (de_setd (de_var 1) (de_var 5) ⟨by rfl, by rfl, by rfl, by rfl⟩) da_nil)))
      (dss_one (ds_if (dw_pt (dw_and (dt_cmp (op_neS hr.toRoom.units) ne_ok (de_var 7) (de_lst da_nil) (nomark _)) (dw_and (dt_cmp (op_neS hr.toRoom.units) ne_ok (de_var 8) (de_lst da_nil) (nomark _)) (dw_and (dt_cmp (op_eqS hr.toRoom.units) eq_ok (de_ix ix_seq ix_ok (de_var 7) (de_un un_neg neg_ok de_int) (fun _ _ => rfl)) (de_ix ix_seq ix_ok (de_var 8) (de_un un_neg neg_ok de_int) (fun _ _ => rfl)) (nomark _)) (dw_and1 (dt_cmp (op_eqS hr.toRoom.units) eq_ok (de_ix ix_seq ix_ok (de_var 0) (de_ix ix_seq ix_ok (de_var 7) (de_un un_neg neg_ok de_int) (fun _ _ => rfl)) (fun _ _ => rfl)) (de_tup (da_cons (de_var 4) (da_cons (de_var 5) (da_cons (de_un un_neg neg_ok (de_var 6)) da_nil)))) (nomark _))))))) (dss_cons (ds_expr (de_popD (de_var 2) (de_pop0 (de_var 7)) ⟨by rfl, by rfl, by rfl, by rfl⟩))
      (dss_one (ds_expr (de_pop0 (de_var 8))))) (dss_cons (ds_expr (de_append (de_var 7) (de_var 3)))
      (dss_cons (ds_expr (de_append (de_var 8) (de_var 3)))
      (dss_one (ds_asg de_bl (dg_subD (room65 hr) (de_var 2) (de_var 3))))))))))
      (dss_one (ds_ret (de_lc (own := [("_law_at", 3)]) rfl nd (di_seq (de_sortDI rfl (room80 hr) B.sorted_ (de_var 2))) (blkOk_by (by kernel_rfl)) (fun _ => (dg_name 3 nd)) (fun _ => dts_nil) (fun _ => (de_ix ix_seq ix_ok (de_var 0) (de_var 3) (fun _ _ => rfl))))))))

abbrev s_law_first : Stmt := topS 26
theorem sc_law_first : FnScope ["_law_row_here", "_law_lines", "_law_found", "_law_at", "_law_one", "_law_other", "_law_sense", "_law_turn", "_law_heads", "_law_lowest", "_law_name", "_law_line"] ["_law_row_here"] (defScope s_law_first) := ⟨rfl, rfl, rfl, by decide +kernel, rfl, by decide +kernel, by decide +kernel⟩
theorem d_law_first {f : Addr} {cdv : Value} {A : Around} {outer : List Env} {s : Shared} {H : Hp} {E : XK} {k : Nat} (hr : RoomG k (A.deeper (envOfC "_law_first" (defScope s_law_first) s.heap.objs.size f cdv))) (B : Bn mg) :
    DSs (cxOf CX0 P w K mg base ["_law_row_here", "_law_lines", "_law_found", "_law_at", "_law_one", "_law_other", "_law_sense", "_law_turn", "_law_heads", "_law_lowest", "_law_name", "_law_line"] "_law_first" (defScope s_law_first) f cdv A outer s H E).nox (defBody s_law_first) w_law_first := by
  have nd : (["_law_row_here", "_law_lines", "_law_found", "_law_at", "_law_one", "_law_other", "_law_sense", "_law_turn", "_law_heads", "_law_lowest", "_law_name", "_law_line"] : List Str).Nodup := sc_law_first.nd
  exact (dss_cons (ds_par 1 2 rfl nd (da_consM false de_dict0 (da_consM true (de_lst da_nil) da_nil)))
      (dss_cons (ds_for PassesOwn.never rfl (di_enum B.enumerate_ (da_cons (de_var 0) da_nil)) (dg_tup rfl (dgs_cons (dg_name 3 nd) (dgs_cons (dg_tup rfl (dgs_cons (dg_name 4 nd) (dgs_cons (dg_name 5 nd) (dgs_cons (dg_name 6 nd) dgs_nil)))) dgs_nil))) (dss_cons (ds_expr (de_append (de_setd (de_var 1) (de_var 4) ⟨by rfl, by rfl, by rfl, by rfl⟩) (de_var 3)))
      (dss_one (ds_expr (de_append (de_setd (de_var 1) (de_var 5) ⟨by rfl, by rfl, by rfl, by rfl⟩) (de_var 3))))))
      (dss_cons (ds_for PassesOwn.never rfl (di_range1 B.range_ (da_cons (de_callB call_len len_ok B.len_ (da_cons (de_var 0) da_nil)) da_nil)) (dg_name 7 nd) (dss_cons (ds_set false 8 nd (de_lcV (own := [("_law_line", 11)]) 1 rfl nd (blkOk_by (by kernel_rfl)) (fun _ => (dg_name 11 nd)) (fun _ => (dts_one (dt_cmp (op_neS hr.toRoom.units) ne_ok (de_var 11) (de_lst da_nil) (nomark _)))) (fun _ => (de_ix ix_seq ix_ok (de_var 11) de_int (fun _ _ => rfl)))))
      (dss_cons (ds_set false 9 nd (de_callB (cr_minD rfl (room80 hr)) bestC_ok B.min_ (da_cons (de_lc (own := [("_law_at", 3)]) rfl nd (di_seq (de_var 8)) (blkOk_by (by kernel_rfl)) (fun _ => (dg_name 3 nd)) (fun _ => (dts_one (dt_cmp (op_eqS hr.toRoom.units) eq_ok (de_bm PySem.F.plainAttrs_list PySem.F.slot_list_count PySem.F.type_list_count mt_lcount cnt_ok (de_var 8) (da_cons (de_var 3) da_nil)) de_int (nomark _)))) (fun _ => (de_ix ix_seq ix_ok (de_var 0) (de_var 3) (fun _ _ => rfl)))) da_nil)))
      (dss_cons (ds_for PassesOwn.never rfl (di_seq (de_sl (de_var 9) do_none (do_some de_int))) (dg_name 10 nd) (dss_one (ds_expr (de_pop1 (de_getD (room65 hr) (de_var 1) (de_var 10)) de_int))))
      (dss_one (ds_expr (de_append (de_var 2) (de_var 9))))))))
      (dss_one (ds_ret (de_var 2))))))

abbrev s_law_least : Stmt := topS 27
theorem sc_law_least : FnScope ["_law_row_here"] ["_law_row_here"] (defScope s_law_least) := ⟨rfl, rfl, rfl, by decide +kernel, rfl, by decide +kernel, by decide +kernel⟩
theorem d_law_least {f : Addr} {cdv : Value} {A : Around} {outer : List Env} {s : Shared} {H : Hp} {E : XK} {k : Nat} (hr : RoomG k (A.deeper (envOfC "_law_least" (defScope s_law_least) s.heap.objs.size f cdv))) (B : Bn mg) (C_law_settled : Cal P w K mg base "_law_settled" k ["_law_row_here"] (spD K 1 Ph_law_settled)) (C_law_first : Cal P w K mg base "_law_first" k ["_law_row_here"] (spD K 1 Ph_law_first)) :
    DSs (cxOf CX0 P w K mg base ["_law_row_here"] "_law_least" (defScope s_law_least) f cdv A outer s H E).nox (defBody s_law_least) w_law_least := by
  have nd : (["_law_row_here"] : List Str).Nodup := sc_law_least.nd
  exact (dss_one (ds_ret (de_callC C_law_first hr rfl (da_cons (de_callC C_law_settled hr rfl (da_cons (de_var 0) da_nil)) da_nil))))

abbrev s_law_ropes : Stmt := topS 28
theorem sc_law_ropes : FnScope ["_law_row_here", "_law_hook_here"] ["_law_row_here"] (defScope s_law_ropes) := ⟨rfl, rfl, rfl, by decide +kernel, rfl, by decide +kernel, by decide +kernel⟩
theorem d_law_ropes {f : Addr} {cdv : Value} {A : Around} {outer : List Env} {s : Shared} {H : Hp} {E : XK} {k : Nat} (hr : RoomG k (A.deeper (envOfC "_law_ropes" (defScope s_law_ropes) s.heap.objs.size f cdv))) (B : Bn mg) :
    DSs (cxOf CX0 P w K mg base ["_law_row_here", "_law_hook_here"] "_law_ropes" (defScope s_law_ropes) f cdv A outer s H E).nox (defBody s_law_ropes) w_law_ropes := by
  have nd : (["_law_row_here", "_law_hook_here"] : List Str).Nodup := sc_law_ropes.nd
  exact (dss_one (ds_ret (de_callTy call_tuple_of tupC_ok B.tuple_ (da_cons (de_sortSet rfl (room80 hr) B.sorted_ B.set_ (de_op op_addD add_ok (de_lc (own := [("_law_hook_here", 1)]) rfl nd (di_seq (de_var 0)) (blkOk_by (by kernel_rfl)) (fun _ => (dg_name 1 nd)) (fun _ => dts_nil) (fun _ => (de_ix ix_seq ix_ok (de_var 1) de_int (fun _ _ => rfl)))) (de_lc (own := [("_law_hook_here", 1)]) rfl nd (di_seq (de_var 0)) (blkOk_by (by kernel_rfl)) (fun _ => (dg_name 1 nd)) (fun _ => dts_nil) (fun _ => (de_ix ix_seq ix_ok (de_var 1) de_int (fun _ _ => rfl)))))) da_nil))))

abbrev s_law_can : Stmt := topS 29
theorem sc_law_can : FnScope ["_law_row_here", "_law_step", "_law_at", "_law_one", "_law_other"] ["_law_row_here", "_law_step"] (defScope s_law_can) := ⟨rfl, rfl, rfl, by decide +kernel, rfl, by decide +kernel, by decide +kernel⟩
theorem d_law_can {f : Addr} {cdv : Value} {A : Around} {outer : List Env} {s : Shared} {H : Hp} {E : XK} {k : Nat} (hr : RoomG k (A.deeper (envOfC "_law_can" (defScope s_law_can) s.heap.objs.size f cdv))) (B : Bn mg) :
    DSs (cxOf CX0 P w K mg base ["_law_row_here", "_law_step", "_law_at", "_law_one", "_law_other"] "_law_can" (defScope s_law_can) f cdv A outer s H E).nox (defBody s_law_can) w_law_can := by
  have nd : (["_law_row_here", "_law_step", "_law_at", "_law_one", "_law_other"] : List Str).Nodup := sc_law_can.nd
  exact (dss_cons (ds_set false 2 nd (de_ix ix_seq ix_ok (de_var 1) de_int (fun _ _ => rfl)))
      (dss_cons (ds_if (dt_cmp (op_eqS hr.toRoom.units) eq_ok (de_ix ix_seq ix_ok (de_var 1) de_int (fun _ _ => rfl)) de_str (nomark _)) (dss_one (ds_ret (de_chain op_leI ci_ok op_leI ci_ok de_int (de_var 2) (de_callB call_len len_ok B.len_ (da_cons (de_var 0) da_nil))))) dss_nil)
      (dss_cons (ds_if (dt_not (dt_chain op_leI ci_ok op_ltD ord_ok de_int (de_var 2) (de_op op_sub sub_ok (de_callB call_len len_ok B.len_ (da_cons (de_var 0) da_nil)) de_int))) (dss_one (ds_ret de_bl)) dss_nil)
      (dss_cons (ds_par 3 4 rfl nd (da_consM false (de_ix ix_seq ix_ok (de_var 0) (de_var 2) (fun _ _ => rfl)) (da_consM false (de_ix ix_seq ix_ok (de_var 0) (de_op op_addD add_ok (de_var 2) de_int) (fun _ _ => rfl)) da_nil)))
      (dss_cons (ds_if (dt_cmp (op_eqS hr.toRoom.units) eq_ok (de_ix ix_seq ix_ok (de_var 1) de_int (fun _ _ => rfl)) de_str (nomark _)) (dss_one (ds_ret (de_cmp (op_eqS hr.toRoom.units) eq_ok (de_var 4) (de_tup (da_cons (de_ix ix_seq ix_ok (de_var 3) de_int (fun _ _ => rfl)) (da_cons (de_ix ix_seq ix_ok (de_var 3) de_int (fun _ _ => rfl)) (da_cons (de_un un_neg neg_ok (de_ix ix_seq ix_ok (de_var 3) de_int (fun _ _ => rfl))) da_nil)))) (nomark _)))) dss_nil)
      (dss_one (ds_ret (de_and (de_cmp (op_notInA (room65 hr)) in_ok (de_ix ix_seq ix_ok (de_var 3) de_int (fun _ _ => rfl)) (de_sl (de_var 4) do_none (do_some de_int)) (by rfl)) (de_one (de_cmp (op_notInA (room65 hr)) in_ok (de_ix ix_seq ix_ok (de_var 3) de_int (fun _ _ => rfl)) (de_sl (de_var 4) do_none (do_some de_int)) (by rfl)))))))))))

abbrev s_law_gone : Stmt := topS 30
theorem sc_law_gone : FnScope ["_law_row_here", "_law_step", "_law_at", "_law_one", "_law_other", "_law_sense"] ["_law_row_here", "_law_step"] (defScope s_law_gone) := ⟨rfl, rfl, rfl, by decide +kernel, rfl, by decide +kernel, by decide +kernel⟩
theorem d_law_gone {f : Addr} {cdv : Value} {A : Around} {outer : List Env} {s : Shared} {H : Hp} {E : XK} {k : Nat} (hr : RoomG k (A.deeper (envOfC "_law_gone" (defScope s_law_gone) s.heap.objs.size f cdv))) (B : Bn mg) :
    DSs (cxOf CX0 P w K mg base ["_law_row_here", "_law_step", "_law_at", "_law_one", "_law_other", "_law_sense"] "_law_gone" (defScope s_law_gone) f cdv A outer s H E).nox (defBody s_law_gone) w_law_gone := by
  have nd : (["_law_row_here", "_law_step", "_law_at", "_law_one", "_law_other", "_law_sense"] : List Str).Nodup := sc_law_gone.nd
  exact (dss_cons (ds_set false 2 nd (de_ix ix_seq ix_ok (de_var 1) de_int (fun _ _ => rfl)))
      (dss_cons (ds_if (dt_cmp (op_eqS hr.toRoom.units) eq_ok (de_ix ix_seq ix_ok (de_var 1) de_int (fun _ _ => rfl)) de_str (nomark _)) (dss_cons (ds_asg (de_ix ix_seq ix_ok (de_var 1) de_int (fun _ _ => rfl)) (dg_tup rfl (dgs_cons (dg_name 3 nd) (dgs_cons (dg_name 4 nd) (dgs_cons (dg_name 5 nd) dgs_nil)))))
      (dss_one (ds_ret (de_op op_addD add_ok (de_op op_addD add_ok (de_sl (de_var 0) do_none (do_some (de_var 2))) (de_lst (da_cons (de_tup (da_cons (de_var 3) (da_cons (de_var 4) (da_cons (de_var 5) da_nil)))) (da_cons (de_tup (da_cons (de_var 3) (da_cons (de_var 4) (da_cons (de_un un_neg neg_ok (de_var 5)) da_nil)))) da_nil)))) (de_sl (de_var 0) (do_some (de_var 2)) do_none))))) dss_nil)
      (dss_cons (ds_if (dt_cmp (op_eqS hr.toRoom.units) eq_ok (de_ix ix_seq ix_ok (de_var 1) de_int (fun _ _ => rfl)) de_str (nomark _)) (dss_one (ds_ret (de_op op_addD add_ok (de_sl (de_var 0) do_none (do_some (de_var 2))) (de_sl (de_var 0) (do_some (de_op op_addD add_ok (de_var 2) de_int)) do_none)))) dss_nil)
      (dss_one (ds_ret (de_op op_addD add_ok (de_op op_addD add_ok (de_sl (de_var 0) do_none (do_some (de_var 2))) (de_lst (da_cons (de_ix ix_seq ix_ok (de_var 0) (de_op op_addD add_ok (de_var 2) de_int) (fun _ _ => rfl)) (da_cons (de_ix ix_seq ix_ok (de_var 0) (de_var 2) (fun _ _ => rfl)) da_nil)))) (de_sl (de_var 0) (do_some (de_op op_addD add_ok (de_var 2) de_int)) do_none)))))))

abbrev s_law_some_step : Stmt := topS 31
theorem sc_law_some_step : FnScope ["_law_box_here", "_law_names_here", "_law_row_here", "_law_way", "_law_at"] ["_law_box_here", "_law_names_here", "_law_row_here"] (defScope s_law_some_step) := ⟨rfl, rfl, rfl, by decide +kernel, rfl, by decide +kernel, by decide +kernel⟩
theorem d_law_some_step {f : Addr} {cdv : Value} {A : Around} {outer : List Env} {s : Shared} {H : Hp} {E : XK} {k : Nat} (hr : RoomG k (A.deeper (envOfC "_law_some_step" (defScope s_law_some_step) s.heap.objs.size f cdv))) (B : Bn mg) (C_law_take : Cal P w K mg base "_law_take" k ["_law_box_here", "_law_bound"] (spL K 2 Ph_law_take)) (C_law_hook : Cal P w K mg base "_law_hook" k ["_law_box_here", "_law_names_here"] (spL K 2 Ph_law_hook)) :
    DSs (cxOf CX0 P w K mg base ["_law_box_here", "_law_names_here", "_law_row_here", "_law_way", "_law_at"] "_law_some_step" (defScope s_law_some_step) f cdv A outer s H E).nox (defBody s_law_some_step) w_law_some_step := by
  have nd : (["_law_box_here", "_law_names_here", "_law_row_here", "_law_way", "_law_at"] : List Str).Nodup := sc_law_some_step.nd
  exact (dss_cons (ds_par 3 4 rfl nd (da_consM false (de_callC_L C_law_take hr rfl (da_cons (de_var 0) (da_cons de_int da_nil))) (da_consM false (de_op op_sub sub_ok (de_callC_L C_law_take hr rfl (da_cons (de_var 0) (da_cons (de_op op_addD add_ok (de_callB call_len len_ok B.len_ (da_cons (de_var 2) da_nil)) de_int) da_nil))) de_int) da_nil)))
      (dss_cons (ds_if (dt_cmp (op_eqS hr.toRoom.units) eq_ok (de_var 3) de_int (nomark _)) (dss_one (ds_ret (de_tup (da_cons de_str (da_cons (de_var 4) (da_cons (de_callC_L C_law_hook hr rfl (da_cons (de_var 0) (da_cons (de_var 1) da_nil))) da_nil)))))) dss_nil)
      (dss_one (ds_ret (de_tup (da_cons (de_ix ix_seq ix_ok (de_lst (da_cons de_str (da_cons de_str da_nil))) (de_op op_sub sub_ok (de_var 3) de_int) (fun _ _ => rfl)) (da_cons (de_var 4) da_nil)))))))

abbrev s_law_otherwise : Stmt := topS 32
theorem sc_law_otherwise : FnScope ["_law_box_here", "_law_names_here", "_law_row_here", "_law_many", "_law_turn", "_law_step"] ["_law_box_here", "_law_names_here", "_law_row_here", "_law_many"] (defScope s_law_otherwise) := ⟨rfl, rfl, rfl, by decide +kernel, rfl, by decide +kernel, by decide +kernel⟩
theorem d_law_otherwise {f : Addr} {cdv : Value} {A : Around} {outer : List Env} {s : Shared} {H : Hp} {E : XK} {k : Nat} (hr : RoomG k (A.deeper (envOfC "_law_otherwise" (defScope s_law_otherwise) s.heap.objs.size f cdv))) (B : Bn mg) (C_law_some_step : Cal P w K mg base "_law_some_step" k ["_law_box_here", "_law_names_here", "_law_row_here"] (spL K 3 Ph_law_some_step)) (C_law_take : Cal P w K mg base "_law_take" k ["_law_box_here", "_law_bound"] (spL K 2 Ph_law_take)) (C_law_can : Cal P w K mg base "_law_can" k ["_law_row_here", "_law_step"] (spD K 2 Ph_law_can)) (C_law_gone : Cal P w K mg base "_law_gone" k ["_law_row_here", "_law_step"] (spD K 2 Ph_law_gone)) :
    DSs (cxOf CX0 P w K mg base ["_law_box_here", "_law_names_here", "_law_row_here", "_law_many", "_law_turn", "_law_step"] "_law_otherwise" (defScope s_law_otherwise) f cdv A outer s H E).nox (defBody s_law_otherwise) w_law_otherwise := by
  have nd : (["_law_box_here", "_law_names_here", "_law_row_here", "_law_many", "_law_turn", "_law_step"] : List Str).Nodup := sc_law_otherwise.nd
  exact (dss_cons (ds_for PassesOwn.never rfl (di_range1 B.range_ (da_cons (de_var 3) da_nil)) (dg_name 4 nd) (dss_cons (ds_set false 5 nd (de_callC_L C_law_some_step hr rfl (da_cons (de_var 0) (da_cons (de_var 1) (da_cons (de_var 2) da_nil)))))
      (dss_cons (ds_if (dw_pt (dw_and (dt_cmp (op_eqS hr.toRoom.units) eq_ok (de_ix ix_seq ix_ok (de_var 5) de_int (fun _ _ => rfl)) de_str (nomark _)) (dw_and1 (dt_cmp op_gtI ci_ok (de_callC_L C_law_take hr rfl (da_cons (de_var 0) (da_cons de_int da_nil))) de_int (nomark _))))) (dss_one (ds_set false 5 nd (de_tup (da_cons de_str (da_cons (de_callC_L C_law_take hr rfl (da_cons (de_var 0) (da_cons (de_op op_addD add_ok (de_callB call_len len_ok B.len_ (da_cons (de_var 2) da_nil)) de_int) da_nil))) da_nil))))) dss_nil)
      (dss_one (ds_if (dw_pt (dw_and (dt_tru (de_callC C_law_can hr rfl (da_cons (de_var 2) (da_cons (de_var 5) da_nil)))) (dw_and1 (dw_pt (dw_or (dt_cmp (op_neS hr.toRoom.units) ne_ok (de_ix ix_seq ix_ok (de_var 5) de_int (fun _ _ => rfl)) de_str (nomark _)) (dw_or1 (dt_cmp op_ltD ord_ok (de_callB call_len len_ok B.len_ (da_cons (de_var 2) da_nil)) de_int (nomark _)))))))) (dss_one (ds_set false 2 nd (de_callC C_law_gone hr rfl (da_cons (de_var 2) (da_cons (de_var 5) da_nil))))) dss_nil)))))
      (dss_one (ds_ret (de_var 2))))

abbrev s_law_right : Stmt := topS 33
theorem sc_law_right : FnScope ["_law_box_here", "_law_names_here", "_law_one", "_law_two", "_law_three", "_law_like", "_law_before", "_law_due", "_law_turn"] ["_law_box_here"] (defScope s_law_right) := ⟨rfl, rfl, rfl, by decide +kernel, rfl, by decide +kernel, by decide +kernel⟩
theorem d_law_right {f : Addr} {cdv : Value} {A : Around} {outer : List Env} {s : Shared} {H : Hp} {E : XK} {k : Nat} (hr : RoomG k (A.deeper (envOfC "_law_right" (defScope s_law_right) s.heap.objs.size f cdv))) (B : Bn mg) (C_law_take : Cal P w K mg base "_law_take" k ["_law_box_here", "_law_bound"] (spL K 2 Ph_law_take)) (C_law_names : Cal P w K mg base "_law_names" k ["_law_box_here", "_law_many"] (spL K 2 Ph_law_names)) (C_law_row : Cal P w K mg base "_law_row" k ["_law_box_here", "_law_names_here", "_law_room"] (spL K 3 Ph_law_row)) (C_law_otherwise : Cal P w K mg base "_law_otherwise" k ["_law_box_here", "_law_names_here", "_law_row_here", "_law_many"] (spL K 4 Ph_law_otherwise)) (C_law_least : Cal P w K mg base "_law_least" k ["_law_row_here"] (spD K 1 Ph_law_least)) (C_put : Cal P w K mg base "put" k ["row", "other"] (spD K 2 Ph_put)) (C_law_same : Cal P w K mg base "_law_same" k ["_law_found", "_law_due"] (spD K 2 Ph_law_same)) (C_back : Cal P w K mg base "back" k ["row"] (spD K 1 Ph_back)) (C_law_back : Cal P w K mg base "_law_back" k ["_law_row_here"] (spD K 1 Ph_law_back)) (C_size : Cal P w K mg base "size" k ["row"] (spD K 1 Ph_size)) (C_law_ropes : Cal P w K mg base "_law_ropes" k ["_law_row_here"] (spD K 1 Ph_law_ropes)) (C_ropes_in : Cal P w K mg base "ropes_in" k ["row"] (spD K 1 Ph_ropes_in)) (C_held : Cal P w K mg base "held" k ["row"] (spD K 1 Ph_held)) :
    DSs (cxOf CX0 P w K mg base ["_law_box_here", "_law_names_here", "_law_one", "_law_two", "_law_three", "_law_like", "_law_before", "_law_due", "_law_turn"] "_law_right" (defScope s_law_right) f cdv A outer s H E).nox (defBody s_law_right) w_law_right := by
  have nd : (["_law_box_here", "_law_names_here", "_law_one", "_law_two", "_law_three", "_law_like", "_law_before", "_law_due", "_law_turn"] : List Str).Nodup := sc_law_right.nd
  exact (dss_cons (ds_set false 1 nd (de_callC_L C_law_names hr rfl (da_cons (de_var 0) (da_cons (de_op op_addD add_ok de_int (de_callC_L C_law_take hr rfl (da_cons (de_var 0) (da_cons de_int da_nil)))) da_nil))))
      (dss_cons (ds_asg (de_lc (own := [("_law_turn", 8)]) rfl nd (di_range1 B.range_ (da_cons de_int da_nil)) (blkOk_by (by kernel_rfl)) (fun _ => (dg_name 8 nd)) (fun _ => dts_nil) (fun _ => (de_callC_L C_law_row hr rfl (da_cons (de_var 0) (da_cons (de_var 1) (da_cons de_int da_nil)))))) (dg_tupL rfl (dgs_cons (dg_name 2 nd) (dgs_cons (dg_name 3 nd) (dgs_cons (dg_name 4 nd) dgs_nil)))))
      (dss_cons (ds_par 5 6 rfl nd (da_consM false (de_callC_L C_law_otherwise hr rfl (da_cons (de_var 0) (da_cons (de_var 1) (da_cons (de_var 2) (da_cons de_int da_nil))))) (da_consM false (de_repr hr.gu (room150 hr) B.repr_ (de_lst (da_cons (de_var 2) (da_cons (de_var 3) (da_cons (de_var 4) da_nil))))) da_nil)))
      (dss_cons (ds_set false 7 nd (de_callC C_law_least hr rfl (da_cons (de_op op_addD add_ok (de_var 2) (de_var 3)) da_nil)))
      (dss_cons (ds_if (dt_not (dt_tru (de_callC C_law_same hr rfl (da_cons (de_lst (da_cons (de_callC C_put hr rfl (da_cons (de_var 2) (da_cons (de_var 3) da_nil))) (da_cons (de_callC C_put hr rfl (da_cons (de_var 5) (da_cons (de_var 3) da_nil))) (da_cons (de_callC C_put hr rfl (da_cons (de_callC C_law_least hr rfl (da_cons (de_var 2) da_nil)) (da_cons (de_var 3) da_nil))) da_nil)))) (da_cons (de_op op_mulD mul_ok (de_lst (da_cons (de_var 7) da_nil)) de_int) da_nil))))) (dss_one (ds_ret de_bl)) dss_nil)
      (dss_cons (ds_if (dt_not (dt_tru (de_callC C_law_same hr rfl (da_cons (de_lst (da_cons (de_callC C_put hr rfl (da_cons (de_callC C_put hr rfl (da_cons (de_var 2) (da_cons (de_var 3) da_nil))) (da_cons (de_var 4) da_nil))) (da_cons (de_callC C_put hr rfl (da_cons (de_var 2) (da_cons (de_callC C_put hr rfl (da_cons (de_var 3) (da_cons (de_var 4) da_nil))) da_nil))) da_nil))) (da_cons (de_op op_mulD mul_ok (de_lst (da_cons (de_callC C_law_least hr rfl (da_cons (de_op op_addD add_ok (de_op op_addD add_ok (de_var 2) (de_var 3)) (de_var 4)) da_nil)) da_nil)) de_int) da_nil))))) (dss_one (ds_ret de_bl)) dss_nil)
      (dss_cons (ds_if (dt_not (dt_tru (de_callC C_law_same hr rfl (da_cons (de_lst (da_cons (de_callC C_put hr rfl (da_cons (de_var 2) (da_cons (de_callC C_back hr rfl (da_cons (de_var 2) da_nil)) da_nil))) (da_cons (de_callC C_put hr rfl (da_cons (de_callC C_back hr rfl (da_cons (de_var 2) da_nil)) (da_cons (de_var 2) da_nil))) (da_cons (de_callC C_put hr rfl (da_cons (de_callC C_back hr rfl (da_cons (de_var 5) da_nil)) (da_cons (de_var 2) da_nil))) da_nil)))) (da_cons (de_lst (da_cons (de_lst da_nil) (da_cons (de_lst da_nil) (da_cons (de_lst da_nil) da_nil)))) da_nil))))) (dss_one (ds_ret de_bl)) dss_nil)
      (dss_cons (ds_if (dt_not (dt_tru (de_callC C_law_same hr rfl (da_cons (de_lst (da_cons (de_callC C_back hr rfl (da_cons (de_callC C_back hr rfl (da_cons (de_var 2) da_nil)) da_nil)) (da_cons (de_callC C_back hr rfl (da_cons (de_op op_addD add_ok (de_var 2) (de_var 3)) da_nil)) da_nil))) (da_cons (de_lst (da_cons (de_var 2) (da_cons (de_op op_addD add_ok (de_callC C_law_back hr rfl (da_cons (de_var 3) da_nil)) (de_callC C_law_back hr rfl (da_cons (de_var 2) da_nil))) da_nil))) da_nil))))) (dss_one (ds_ret de_bl)) dss_nil)
      (dss_cons (ds_if (dt_not (dt_tru (de_callC C_law_same hr rfl (da_cons (de_lst (da_cons (de_callC C_size hr rfl (da_cons (de_callC C_back hr rfl (da_cons (de_var 2) da_nil)) da_nil)) (da_cons (de_callC C_size hr rfl (da_cons (de_var 2) da_nil)) da_nil))) (da_cons (de_op op_mulD mul_ok (de_lst (da_cons (de_callB call_len len_ok B.len_ (da_cons (de_callC C_law_least hr rfl (da_cons (de_var 2) da_nil)) da_nil)) da_nil)) de_int) da_nil))))) (dss_one (ds_ret de_bl)) dss_nil)
      (dss_cons (ds_if (dt_not (dt_tru (de_callC C_law_same hr rfl (da_cons (de_lst (da_cons (de_callC C_held hr rfl (da_cons (de_callC C_put hr rfl (da_cons (de_var 2) (da_cons (de_var 3) da_nil))) da_nil)) (da_cons (de_callC C_ropes_in hr rfl (da_cons (de_var 7) da_nil)) da_nil))) (da_cons (de_op op_mulD mul_ok (de_lst (da_cons (de_callC C_law_ropes hr rfl (da_cons (de_var 7) da_nil)) da_nil)) de_int) da_nil))))) (dss_one (ds_ret de_bl)) dss_nil)
      (dss_one (ds_ret (de_and (de_cmp (op_eqS hr.toRoom.units) eq_ok (de_callC C_put hr rfl (da_cons (de_callTy call_tuple_of tupC_ok B.tuple_ (da_cons (de_var 2) da_nil)) (da_cons (de_callTy call_tuple_of tupC_ok B.tuple_ (da_cons (de_var 3) da_nil)) da_nil))) (de_var 7) (nomark _)) (de_one (de_cmp (op_eqS hr.toRoom.units) eq_ok (de_repr hr.gu (room150 hr) B.repr_ (de_lst (da_cons (de_var 2) (da_cons (de_var 3) (da_cons (de_var 4) da_nil))))) (de_var 6) (nomark _))))))))))))))))

abbrev s_law : Stmt := topS 34
theorem sc_law : FnScope ["_law_script", "_law_boxes", "_law_k", "_law_box_here"] ["_law_script"] (defScope s_law) := ⟨rfl, rfl, rfl, by decide +kernel, rfl, by decide +kernel, by decide +kernel⟩
theorem d_law {f : Addr} {cdv : Value} {A : Around} {outer : List Env} {s : Shared} {H : Hp} {E : XK} {k : Nat} (hr : RoomG k (A.deeper (envOfC "law" (defScope s_law) s.heap.objs.size f cdv))) (B : Bn mg) (C_law_box : Cal P w K mg base "_law_box" k ["_law_script", "_law_k"] (spD K 2 Ph_law_box)) (C_law_right : Cal P w K mg base "_law_right" k ["_law_box_here"] (spL K 1 Ph_law_right)) :
    DSs (cxOf CX0 P w K mg base ["_law_script", "_law_boxes", "_law_k", "_law_box_here"] "law" (defScope s_law) f cdv A outer s H E).nox (defBody s_law) w_law := by
  have nd : (["_law_script", "_law_boxes", "_law_k", "_law_box_here"] : List Str).Nodup := sc_law.nd
  exact (dss_cons (ds_setLcB (own := [("_law_k", 2)]) false 1 rfl nd (sw_true rfl rfl rfl (by decide +kernel)) (di_range1 B.range_ (da_cons (de_op op_addD add_ok de_int (de_callB (call_min2 rfl) min2_ok B.min_ (da_cons de_int (da_cons (de_lenS B.len_ (de_var 0)) da_nil)))) da_nil)) (blkOk_by (by kernel_rfl)) (fun _ => (dg_name 2 nd)) (fun _ => dts_nil) (fun _ => (de_callC C_law_box hr rfl (da_cons (de_var 0) (da_cons (de_var 2) da_nil)))))
      (dss_one (ds_ret (de_callB (cr_all rfl) allC_ok B.all_ (da_cons (de_lcR (own := [("_law_box_here", 3)]) rfl nd (dir_refs (de_mulB (de_var 1) de_int)) (blkOk_by (by kernel_rfl)) (fun _ => (dg_name 3 nd)) (fun _ => dts_nil) (fun _ => (de_callC_L C_law_right hr rfl (da_cons (de_var 3) da_nil)))) da_nil)))))
theorem ok_turned {f : Addr} {fd : FuncData} {k : Nat} (F : Fun K "turned" "turned" s_turned f fd) (B : Bn mg) : FnG P w K mg base CX0 (k + 1) f fd ["hook"] (spD K 1 Ph_turned) :=
  dfn F sc_turned fun cdv A outer s H E hr => ⟨_, d_turned hr B, r_turned⟩

theorem ok_back {f : Addr} {fd : FuncData} {k : Nat} (F : Fun K "back" "back" s_back f fd) (B : Bn mg) (C_turned : Cal P w K mg base "turned" k ["hook"] (spD K 1 Ph_turned)) : FnG P w K mg base CX0 (k + 1) f fd ["row"] (spD K 1 Ph_back) :=
  dfn F sc_back fun cdv A outer s H E hr => ⟨_, d_back hr B C_turned, r_back⟩

theorem ok_ropes_in {f : Addr} {fd : FuncData} {k : Nat} (F : Fun K "ropes_in" "ropes_in" s_ropes_in f fd) (B : Bn mg) : FnG P w K mg base CX0 (k + 1) f fd ["row"] (spD K 1 Ph_ropes_in) :=
  dfn F sc_ropes_in fun cdv A outer s H E hr => ⟨_, d_ropes_in hr B, r_ropes_in⟩

theorem ok_settled {f : Addr} {fd : FuncData} {k : Nat} (F : Fun K "settled" "settled" s_settled f fd) (B : Bn mg) (C_turned : Cal P w K mg base "turned" k ["hook"] (spD K 1 Ph_turned)) : FnG P w K mg base CX0 (k + 1) f fd ["row"] (spD K 1 Ph_settled) :=
  dfn F sc_settled fun cdv A outer s H E hr => ⟨_, d_settled hr B C_turned, r_settled⟩

theorem ok_lines_of {f : Addr} {fd : FuncData} {k : Nat} (F : Fun K "lines_of" "lines_of" s_lines_of f fd) (B : Bn mg) : FnG P w K mg base CX0 (k + 1) f fd ["row"] (spD K 1 Ph_lines_of) :=
  dfn F sc_lines_of fun cdv A outer s H E hr => ⟨_, d_lines_of hr B, r_lines_of⟩

theorem ok_first_of {f : Addr} {fd : FuncData} {k : Nat} (F : Fun K "first_of" "first_of" s_first_of f fd) (B : Bn mg) (C_lines_of : Cal P w K mg base "lines_of" k ["row"] (spD K 1 Ph_lines_of)) : FnG P w K mg base CX0 (k + 1) f fd ["row"] (spD K 1 Ph_first_of) :=
  dfn F sc_first_of fun cdv A outer s H E hr => ⟨_, d_first_of hr B C_lines_of, r_first_of⟩

theorem ok_least {f : Addr} {fd : FuncData} {k : Nat} (F : Fun K "least" "least" s_least f fd) (B : Bn mg) (C_settled : Cal P w K mg base "settled" k ["row"] (spD K 1 Ph_settled)) (C_first_of : Cal P w K mg base "first_of" k ["row"] (spD K 1 Ph_first_of)) : FnG P w K mg base CX0 (k + 1) f fd ["row"] (spD K 1 Ph_least) :=
  dfn F sc_least fun cdv A outer s H E hr => ⟨_, d_least hr B C_settled C_first_of, r_least⟩

theorem ok_put {f : Addr} {fd : FuncData} {k : Nat} (F : Fun K "put" "put" s_put f fd) (B : Bn mg) (C_least : Cal P w K mg base "least" k ["row"] (spD K 1 Ph_least)) : FnG P w K mg base CX0 (k + 1) f fd ["row", "other"] (spD K 2 Ph_put) :=
  dfn F sc_put fun cdv A outer s H E hr => ⟨_, d_put hr B C_least, r_put⟩

theorem ok_size {f : Addr} {fd : FuncData} {k : Nat} (F : Fun K "size" "size" s_size f fd) (B : Bn mg) (C_least : Cal P w K mg base "least" k ["row"] (spD K 1 Ph_least)) : FnG P w K mg base CX0 (k + 1) f fd ["row"] (spD K 1 Ph_size) :=
  dfn F sc_size fun cdv A outer s H E hr => ⟨_, d_size hr B C_least, r_size⟩

theorem ok_held {f : Addr} {fd : FuncData} {k : Nat} (F : Fun K "held" "held" s_held f fd) (B : Bn mg) (C_settled : Cal P w K mg base "settled" k ["row"] (spD K 1 Ph_settled)) (C_ropes_in : Cal P w K mg base "ropes_in" k ["row"] (spD K 1 Ph_ropes_in)) : FnG P w K mg base CX0 (k + 1) f fd ["row"] (spD K 1 Ph_held) :=
  dfn F sc_held fun cdv A outer s H E hr => ⟨_, d_held hr B C_settled C_ropes_in, r_held⟩

theorem ok_law_box {f : Addr} {fd : FuncData} {k : Nat} (F : Fun K "_law_box" "_law_box" s_law_box f fd) (B : Bn mg) : FnG P w K mg base CX0 (k + 1) f fd ["_law_script", "_law_k"] (spD K 2 Ph_law_box) :=
  dfn F sc_law_box fun cdv A outer s H E hr => ⟨_, d_law_box hr B, r_law_box⟩

theorem ok_law_take {f : Addr} {fd : FuncData} {k : Nat} (F : Fun K "_law_take" "_law_take" s_law_take f fd) (B : Bn mg) : FnG P w K mg base CX0 (k + 1) f fd ["_law_box_here", "_law_bound"] (spL K 2 Ph_law_take) :=
  dfnL F sc_law_take rfl fun cdv A outer s H E hr => ⟨_, d_law_take hr B, r_law_take⟩

theorem no_law_same {vs : List V} {H : Hp} {Q : VK} {E : XK} (h : spD K 2 (Ph_law_sameN 0) vs H Q E) : False := by
  obtain ⟨_, G, rs, P, _, _, h, _⟩ := h
  exact n_law_same h

theorem ok_law_same {f : Addr} {fd : FuncData} {k : Nat} (F : Fun K "_law_same" "_law_same" s_law_same f fd) (B : Bn mg) (hm : mg "_law_same" = some (.ref f)) (hk : PySem.W.keepIn K (.ref f) = true) (hb : Binds K fd ["_law_found", "_law_due"] []) : ∀ n : Nat, FnG P w K mg base CX0 (k + n) f fd ["_law_found", "_law_due"] (spD K 2 (Ph_law_sameN n))
  | 0 => ⟨fun vs H Q E h => h.1, fun A outer s H as us vs Q E hr he hb hv hs => (no_law_same hs).elim⟩
  | n + 1 => dfn F sc_law_same fun cdv A outer s H E hr => ⟨_, d_law_same hr B ⟨_, _, ok_law_same F B hm hk hb n, hm, hk, hb⟩, r_law_same n⟩

theorem ok_law_names {f : Addr} {fd : FuncData} {k : Nat} (F : Fun K "_law_names" "_law_names" s_law_names f fd) (B : Bn mg) (C_law_take : Cal P w K mg base "_law_take" k ["_law_box_here", "_law_bound"] (spL K 2 Ph_law_take)) : FnG P w K mg base CX0 (k + 1) f fd ["_law_box_here", "_law_many"] (spL K 2 Ph_law_names) :=
  dfnL F sc_law_names rfl fun cdv A outer s H E hr => ⟨_, d_law_names hr B C_law_take, r_law_names⟩

theorem ok_law_hook {f : Addr} {fd : FuncData} {k : Nat} (F : Fun K "_law_hook" "_law_hook" s_law_hook f fd) (B : Bn mg) (C_law_take : Cal P w K mg base "_law_take" k ["_law_box_here", "_law_bound"] (spL K 2 Ph_law_take)) : FnG P w K mg base CX0 (k + 1) f fd ["_law_box_here", "_law_names_here"] (spL K 2 Ph_law_hook) :=
  dfnL F sc_law_hook rfl fun cdv A outer s H E hr => ⟨_, d_law_hook hr B C_law_take, r_law_hook⟩

theorem ok_law_back {f : Addr} {fd : FuncData} {k : Nat} (F : Fun K "_law_back" "_law_back" s_law_back f fd) (B : Bn mg) : FnG P w K mg base CX0 (k + 1) f fd ["_law_row_here"] (spD K 1 Ph_law_back) :=
  dfn F sc_law_back fun cdv A outer s H E hr => ⟨_, d_law_back hr B, r_law_back⟩

theorem ok_law_knot {f : Addr} {fd : FuncData} {k : Nat} (F : Fun K "_law_knot" "_law_knot" s_law_knot f fd) (B : Bn mg) (C_law_back : Cal P w K mg base "_law_back" k ["_law_row_here"] (spD K 1 Ph_law_back)) : FnG P w K mg base CX0 (k + 1) f fd ["_law_names_here"] (spD K 1 Ph_law_knot) :=
  dfn F sc_law_knot fun cdv A outer s H E hr => ⟨_, d_law_knot hr B C_law_back, r_law_knot⟩

theorem ok_law_some {f : Addr} {fd : FuncData} {k : Nat} (F : Fun K "_law_some" "_law_some" s_law_some f fd) (B : Bn mg) (C_law_take : Cal P w K mg base "_law_take" k ["_law_box_here", "_law_bound"] (spL K 2 Ph_law_take)) : FnG P w K mg base CX0 (k + 1) f fd ["_law_box_here", "_law_names_here", "_law_few"] (spL K 3 Ph_law_some) :=
  dfnL F sc_law_some rfl fun cdv A outer s H E hr => ⟨_, d_law_some hr B C_law_take, r_law_some⟩

theorem ok_law_piece {f : Addr} {fd : FuncData} {k : Nat} (F : Fun K "_law_piece" "_law_piece" s_law_piece f fd) (B : Bn mg) (C_law_hook : Cal P w K mg base "_law_hook" k ["_law_box_here", "_law_names_here"] (spL K 2 Ph_law_hook)) (C_law_take : Cal P w K mg base "_law_take" k ["_law_box_here", "_law_bound"] (spL K 2 Ph_law_take)) (C_law_back : Cal P w K mg base "_law_back" k ["_law_row_here"] (spD K 1 Ph_law_back)) (C_law_some : Cal P w K mg base "_law_some" k ["_law_box_here", "_law_names_here", "_law_few"] (spL K 3 Ph_law_some)) (C_law_knot : Cal P w K mg base "_law_knot" k ["_law_names_here"] (spD K 1 Ph_law_knot)) : FnG P w K mg base CX0 (k + 1) f fd ["_law_box_here", "_law_names_here"] (spL K 2 Ph_law_piece) :=
  dfnL F sc_law_piece rfl fun cdv A outer s H E hr => ⟨_, d_law_piece hr B C_law_hook C_law_take C_law_back C_law_some C_law_knot, r_law_piece⟩

theorem ok_law_row {f : Addr} {fd : FuncData} {k : Nat} (F : Fun K "_law_row" "_law_row" s_law_row f fd) (B : Bn mg) (C_law_take : Cal P w K mg base "_law_take" k ["_law_box_here", "_law_bound"] (spL K 2 Ph_law_take)) (C_law_piece : Cal P w K mg base "_law_piece" k ["_law_box_here", "_law_names_here"] (spL K 2 Ph_law_piece)) (C_law_back : Cal P w K mg base "_law_back" k ["_law_row_here"] (spD K 1 Ph_law_back)) : FnG P w K mg base CX0 (k + 1) f fd ["_law_box_here", "_law_names_here", "_law_room"] (spL K 3 Ph_law_row) :=
  dfnL F sc_law_row rfl fun cdv A outer s H E hr => ⟨_, d_law_row hr B C_law_take C_law_piece C_law_back, r_law_row⟩

theorem ok_law_settled {f : Addr} {fd : FuncData} {k : Nat} (F : Fun K "_law_settled" "_law_settled" s_law_settled f fd) (B : Bn mg) : FnG P w K mg base CX0 (k + 1) f fd ["_law_row_here"] (spD K 1 Ph_law_settled) :=
  dfn F sc_law_settled fun cdv A outer s H E hr => ⟨_, d_law_settled hr B, r_law_settled⟩

theorem ok_law_first {f : Addr} {fd : FuncData} {k : Nat} (F : Fun K "_law_first" "_law_first" s_law_first f fd) (B : Bn mg) : FnG P w K mg base CX0 (k + 1) f fd ["_law_row_here"] (spD K 1 Ph_law_first) :=
  dfn F sc_law_first fun cdv A outer s H E hr => ⟨_, d_law_first hr B, r_law_first⟩

theorem ok_law_least {f : Addr} {fd : FuncData} {k : Nat} (F : Fun K "_law_least" "_law_least" s_law_least f fd) (B : Bn mg) (C_law_settled : Cal P w K mg base "_law_settled" k ["_law_row_here"] (spD K 1 Ph_law_settled)) (C_law_first : Cal P w K mg base "_law_first" k ["_law_row_here"] (spD K 1 Ph_law_first)) : FnG P w K mg base CX0 (k + 1) f fd ["_law_row_here"] (spD K 1 Ph_law_least) :=
  dfn F sc_law_least fun cdv A outer s H E hr => ⟨_, d_law_least hr B C_law_settled C_law_first, r_law_least⟩

theorem ok_law_ropes {f : Addr} {fd : FuncData} {k : Nat} (F : Fun K "_law_ropes" "_law_ropes" s_law_ropes f fd) (B : Bn mg) : FnG P w K mg base CX0 (k + 1) f fd ["_law_row_here"] (spD K 1 Ph_law_ropes) :=
  dfn F sc_law_ropes fun cdv A outer s H E hr => ⟨_, d_law_ropes hr B, r_law_ropes⟩

theorem ok_law_can {f : Addr} {fd : FuncData} {k : Nat} (F : Fun K "_law_can" "_law_can" s_law_can f fd) (B : Bn mg) : FnG P w K mg base CX0 (k + 1) f fd ["_law_row_here", "_law_step"] (spD K 2 Ph_law_can) :=
  dfn F sc_law_can fun cdv A outer s H E hr => ⟨_, d_law_can hr B, r_law_can⟩

theorem ok_law_gone {f : Addr} {fd : FuncData} {k : Nat} (F : Fun K "_law_gone" "_law_gone" s_law_gone f fd) (B : Bn mg) : FnG P w K mg base CX0 (k + 1) f fd ["_law_row_here", "_law_step"] (spD K 2 Ph_law_gone) :=
  dfn F sc_law_gone fun cdv A outer s H E hr => ⟨_, d_law_gone hr B, r_law_gone⟩

theorem ok_law_some_step {f : Addr} {fd : FuncData} {k : Nat} (F : Fun K "_law_some_step" "_law_some_step" s_law_some_step f fd) (B : Bn mg) (C_law_take : Cal P w K mg base "_law_take" k ["_law_box_here", "_law_bound"] (spL K 2 Ph_law_take)) (C_law_hook : Cal P w K mg base "_law_hook" k ["_law_box_here", "_law_names_here"] (spL K 2 Ph_law_hook)) : FnG P w K mg base CX0 (k + 1) f fd ["_law_box_here", "_law_names_here", "_law_row_here"] (spL K 3 Ph_law_some_step) :=
  dfnL F sc_law_some_step rfl fun cdv A outer s H E hr => ⟨_, d_law_some_step hr B C_law_take C_law_hook, r_law_some_step⟩

theorem ok_law_otherwise {f : Addr} {fd : FuncData} {k : Nat} (F : Fun K "_law_otherwise" "_law_otherwise" s_law_otherwise f fd) (B : Bn mg) (C_law_some_step : Cal P w K mg base "_law_some_step" k ["_law_box_here", "_law_names_here", "_law_row_here"] (spL K 3 Ph_law_some_step)) (C_law_take : Cal P w K mg base "_law_take" k ["_law_box_here", "_law_bound"] (spL K 2 Ph_law_take)) (C_law_can : Cal P w K mg base "_law_can" k ["_law_row_here", "_law_step"] (spD K 2 Ph_law_can)) (C_law_gone : Cal P w K mg base "_law_gone" k ["_law_row_here", "_law_step"] (spD K 2 Ph_law_gone)) : FnG P w K mg base CX0 (k + 1) f fd ["_law_box_here", "_law_names_here", "_law_row_here", "_law_many"] (spL K 4 Ph_law_otherwise) :=
  dfnL F sc_law_otherwise rfl fun cdv A outer s H E hr => ⟨_, d_law_otherwise hr B C_law_some_step C_law_take C_law_can C_law_gone, r_law_otherwise⟩

theorem ok_law_right {f : Addr} {fd : FuncData} {k : Nat} (F : Fun K "_law_right" "_law_right" s_law_right f fd) (B : Bn mg) (C_law_take : Cal P w K mg base "_law_take" k ["_law_box_here", "_law_bound"] (spL K 2 Ph_law_take)) (C_law_names : Cal P w K mg base "_law_names" k ["_law_box_here", "_law_many"] (spL K 2 Ph_law_names)) (C_law_row : Cal P w K mg base "_law_row" k ["_law_box_here", "_law_names_here", "_law_room"] (spL K 3 Ph_law_row)) (C_law_otherwise : Cal P w K mg base "_law_otherwise" k ["_law_box_here", "_law_names_here", "_law_row_here", "_law_many"] (spL K 4 Ph_law_otherwise)) (C_law_least : Cal P w K mg base "_law_least" k ["_law_row_here"] (spD K 1 Ph_law_least)) (C_put : Cal P w K mg base "put" k ["row", "other"] (spD K 2 Ph_put)) (C_law_same : Cal P w K mg base "_law_same" k ["_law_found", "_law_due"] (spD K 2 Ph_law_same)) (C_back : Cal P w K mg base "back" k ["row"] (spD K 1 Ph_back)) (C_law_back : Cal P w K mg base "_law_back" k ["_law_row_here"] (spD K 1 Ph_law_back)) (C_size : Cal P w K mg base "size" k ["row"] (spD K 1 Ph_size)) (C_law_ropes : Cal P w K mg base "_law_ropes" k ["_law_row_here"] (spD K 1 Ph_law_ropes)) (C_ropes_in : Cal P w K mg base "ropes_in" k ["row"] (spD K 1 Ph_ropes_in)) (C_held : Cal P w K mg base "held" k ["row"] (spD K 1 Ph_held)) : FnG P w K mg base CX0 (k + 1) f fd ["_law_box_here"] (spL K 1 Ph_law_right) :=
  dfnL F sc_law_right rfl fun cdv A outer s H E hr => ⟨_, d_law_right hr B C_law_take C_law_names C_law_row C_law_otherwise C_law_least C_put C_law_same C_back C_law_back C_size C_law_ropes C_ropes_in C_held, r_law_right⟩

theorem ok_law {f : Addr} {fd : FuncData} {k : Nat} (F : Fun K "law" "law" s_law f fd) (B : Bn mg) (C_law_box : Cal P w K mg base "_law_box" k ["_law_script", "_law_k"] (spD K 2 Ph_law_box)) (C_law_right : Cal P w K mg base "_law_right" k ["_law_box_here"] (spL K 1 Ph_law_right)) : FnG P w K mg base CX0 (k + 1) f fd ["_law_script"] (spD K 1 Ph_law) :=
  dfn F sc_law fun cdv A outer s H E hr => ⟨_, d_law hr B C_law_box C_law_right, r_law⟩
end
theorem all_mk {l : PySem.W.OpenLaw} {w : World} {K : PySem.W.Frag} {h : Heap} {mg : Str → Option Value} {fa f1 f2 f3 f4 f5 f6 f7 f8 f9 f10 f11 f12 f13 f14 f15 f16 f17 f18 f19 f20 f21 f22 f23 f24 f25 f26 f27 f28 f29 f30 : Addr} (X : K.In h) (G : h.Ns mainGlobals mg) (hfa : mg "law" = some (.ref fa))
    {od1 an1 od2 an2 od3 an3 od4 an4 od5 an5 od6 an6 od7 an7 od8 an8 od9 an9 od10 an10 od11 an11 od12 an12 od13 an13 od14 an14 od15 an15 od16 an16 od17 an17 od18 an18 od19 an19 od20 an20 od21 an21 od22 an22 od23 an23 od24 an24 od25 an25 od26 an26 od27 an27 od28 an28 od29 an29 od30 an30 : Option Addr} {sl1 sl2 sl3 sl4 sl5 sl6 sl7 sl8 sl9 sl10 sl11 sl12 sl13 sl14 sl15 sl16 sl17 sl18 sl19 sl20 sl21 sl22 sl23 sl24 sl25 sl26 sl27 sl28 sl29 sl30 : Array (Option Value)} {oc1 kV1 dc1 pm1 cd1 ct1 oc2 kV2 dc2 pm2 cd2 ct2 oc3 kV3 dc3 pm3 cd3 ct3 oc4 kV4 dc4 pm4 cd4 ct4 oc5 kV5 dc5 pm5 cd5 ct5 oc6 kV6 dc6 pm6 cd6 ct6 oc7 kV7 dc7 pm7 cd7 ct7 oc8 kV8 dc8 pm8 cd8 ct8 oc9 kV9 dc9 pm9 cd9 ct9 oc10 kV10 dc10 pm10 cd10 ct10 oc11 kV11 dc11 pm11 cd11 ct11 oc12 kV12 dc12 pm12 cd12 ct12 oc13 kV13 dc13 pm13 cd13 ct13 oc14 kV14 dc14 pm14 cd14 ct14 oc15 kV15 dc15 pm15 cd15 ct15 oc16 kV16 dc16 pm16 cd16 ct16 oc17 kV17 dc17 pm17 cd17 ct17 oc18 kV18 dc18 pm18 cd18 ct18 oc19 kV19 dc19 pm19 cd19 ct19 oc20 kV20 dc20 pm20 cd20 ct20 oc21 kV21 dc21 pm21 cd21 ct21 oc22 kV22 dc22 pm22 cd22 ct22 oc23 kV23 dc23 pm23 cd23 ct23 oc24 kV24 dc24 pm24 cd24 ct24 oc25 kV25 dc25 pm25 cd25 ct25 oc26 kV26 dc26 pm26 cd26 ct26 oc27 kV27 dc27 pm27 cd27 ct27 oc28 kV28 dc28 pm28 cd28 ct28 oc29 kV29 dc29 pm29 cd29 ct29 oc30 kV30 dc30 pm30 cd30 ct30 : Value}
    (a1 : PySem.W.nsIn K mainGlobals "turned" = some (some (.ref f1))) (l1 : K.lookup f1 = some ⟨oc1, od1, .func (PySem.W.fnOf "turned" "turned" (defArgs s_turned) (defBody s_turned) (defScope s_turned) .none kV1 dc1 pm1 an1 cd1 ct1), sl1⟩) (c1 : PySem.W.codeIn K cd1 "turned" = true) (k1 : PySem.W.keepIn K (.ref f1) = true)
    (a2 : PySem.W.nsIn K mainGlobals "back" = some (some (.ref f2))) (l2 : K.lookup f2 = some ⟨oc2, od2, .func (PySem.W.fnOf "back" "back" (defArgs s_back) (defBody s_back) (defScope s_back) .none kV2 dc2 pm2 an2 cd2 ct2), sl2⟩) (c2 : PySem.W.codeIn K cd2 "back" = true) (k2 : PySem.W.keepIn K (.ref f2) = true)
    (a3 : PySem.W.nsIn K mainGlobals "ropes_in" = some (some (.ref f3))) (l3 : K.lookup f3 = some ⟨oc3, od3, .func (PySem.W.fnOf "ropes_in" "ropes_in" (defArgs s_ropes_in) (defBody s_ropes_in) (defScope s_ropes_in) .none kV3 dc3 pm3 an3 cd3 ct3), sl3⟩) (c3 : PySem.W.codeIn K cd3 "ropes_in" = true) (k3 : PySem.W.keepIn K (.ref f3) = true)
    (a4 : PySem.W.nsIn K mainGlobals "settled" = some (some (.ref f4))) (l4 : K.lookup f4 = some ⟨oc4, od4, .func (PySem.W.fnOf "settled" "settled" (defArgs s_settled) (defBody s_settled) (defScope s_settled) .none kV4 dc4 pm4 an4 cd4 ct4), sl4⟩) (c4 : PySem.W.codeIn K cd4 "settled" = true) (k4 : PySem.W.keepIn K (.ref f4) = true)
    (a5 : PySem.W.nsIn K mainGlobals "lines_of" = some (some (.ref f5))) (l5 : K.lookup f5 = some ⟨oc5, od5, .func (PySem.W.fnOf "lines_of" "lines_of" (defArgs s_lines_of) (defBody s_lines_of) (defScope s_lines_of) .none kV5 dc5 pm5 an5 cd5 ct5), sl5⟩) (c5 : PySem.W.codeIn K cd5 "lines_of" = true) (k5 : PySem.W.keepIn K (.ref f5) = true)
    (a6 : PySem.W.nsIn K mainGlobals "first_of" = some (some (.ref f6))) (l6 : K.lookup f6 = some ⟨oc6, od6, .func (PySem.W.fnOf "first_of" "first_of" (defArgs s_first_of) (defBody s_first_of) (defScope s_first_of) .none kV6 dc6 pm6 an6 cd6 ct6), sl6⟩) (c6 : PySem.W.codeIn K cd6 "first_of" = true) (k6 : PySem.W.keepIn K (.ref f6) = true)
    (a7 : PySem.W.nsIn K mainGlobals "least" = some (some (.ref f7))) (l7 : K.lookup f7 = some ⟨oc7, od7, .func (PySem.W.fnOf "least" "least" (defArgs s_least) (defBody s_least) (defScope s_least) .none kV7 dc7 pm7 an7 cd7 ct7), sl7⟩) (c7 : PySem.W.codeIn K cd7 "least" = true) (k7 : PySem.W.keepIn K (.ref f7) = true)
    (a8 : PySem.W.nsIn K mainGlobals "put" = some (some (.ref f8))) (l8 : K.lookup f8 = some ⟨oc8, od8, .func (PySem.W.fnOf "put" "put" (defArgs s_put) (defBody s_put) (defScope s_put) .none kV8 dc8 pm8 an8 cd8 ct8), sl8⟩) (c8 : PySem.W.codeIn K cd8 "put" = true) (k8 : PySem.W.keepIn K (.ref f8) = true)
    (a9 : PySem.W.nsIn K mainGlobals "size" = some (some (.ref f9))) (l9 : K.lookup f9 = some ⟨oc9, od9, .func (PySem.W.fnOf "size" "size" (defArgs s_size) (defBody s_size) (defScope s_size) .none kV9 dc9 pm9 an9 cd9 ct9), sl9⟩) (c9 : PySem.W.codeIn K cd9 "size" = true) (k9 : PySem.W.keepIn K (.ref f9) = true)
    (a10 : PySem.W.nsIn K mainGlobals "held" = some (some (.ref f10))) (l10 : K.lookup f10 = some ⟨oc10, od10, .func (PySem.W.fnOf "held" "held" (defArgs s_held) (defBody s_held) (defScope s_held) .none kV10 dc10 pm10 an10 cd10 ct10), sl10⟩) (c10 : PySem.W.codeIn K cd10 "held" = true) (k10 : PySem.W.keepIn K (.ref f10) = true)
    (a11 : PySem.W.nsIn K mainGlobals "_law_box" = some (some (.ref f11))) (l11 : K.lookup f11 = some ⟨oc11, od11, .func (PySem.W.fnOf "_law_box" "_law_box" (defArgs s_law_box) (defBody s_law_box) (defScope s_law_box) .none kV11 dc11 pm11 an11 cd11 ct11), sl11⟩) (c11 : PySem.W.codeIn K cd11 "_law_box" = true) (k11 : PySem.W.keepIn K (.ref f11) = true)
    (a12 : PySem.W.nsIn K mainGlobals "_law_take" = some (some (.ref f12))) (l12 : K.lookup f12 = some ⟨oc12, od12, .func (PySem.W.fnOf "_law_take" "_law_take" (defArgs s_law_take) (defBody s_law_take) (defScope s_law_take) .none kV12 dc12 pm12 an12 cd12 ct12), sl12⟩) (c12 : PySem.W.codeIn K cd12 "_law_take" = true) (k12 : PySem.W.keepIn K (.ref f12) = true)
    (a13 : PySem.W.nsIn K mainGlobals "_law_same" = some (some (.ref f13))) (l13 : K.lookup f13 = some ⟨oc13, od13, .func (PySem.W.fnOf "_law_same" "_law_same" (defArgs s_law_same) (defBody s_law_same) (defScope s_law_same) .none kV13 dc13 pm13 an13 cd13 ct13), sl13⟩) (c13 : PySem.W.codeIn K cd13 "_law_same" = true) (k13 : PySem.W.keepIn K (.ref f13) = true)
    (a14 : PySem.W.nsIn K mainGlobals "_law_names" = some (some (.ref f14))) (l14 : K.lookup f14 = some ⟨oc14, od14, .func (PySem.W.fnOf "_law_names" "_law_names" (defArgs s_law_names) (defBody s_law_names) (defScope s_law_names) .none kV14 dc14 pm14 an14 cd14 ct14), sl14⟩) (c14 : PySem.W.codeIn K cd14 "_law_names" = true) (k14 : PySem.W.keepIn K (.ref f14) = true)
    (a15 : PySem.W.nsIn K mainGlobals "_law_hook" = some (some (.ref f15))) (l15 : K.lookup f15 = some ⟨oc15, od15, .func (PySem.W.fnOf "_law_hook" "_law_hook" (defArgs s_law_hook) (defBody s_law_hook) (defScope s_law_hook) .none kV15 dc15 pm15 an15 cd15 ct15), sl15⟩) (c15 : PySem.W.codeIn K cd15 "_law_hook" = true) (k15 : PySem.W.keepIn K (.ref f15) = true)
    (a16 : PySem.W.nsIn K mainGlobals "_law_back" = some (some (.ref f16))) (l16 : K.lookup f16 = some ⟨oc16, od16, .func (PySem.W.fnOf "_law_back" "_law_back" (defArgs s_law_back) (defBody s_law_back) (defScope s_law_back) .none kV16 dc16 pm16 an16 cd16 ct16), sl16⟩) (c16 : PySem.W.codeIn K cd16 "_law_back" = true) (k16 : PySem.W.keepIn K (.ref f16) = true)
    (a17 : PySem.W.nsIn K mainGlobals "_law_knot" = some (some (.ref f17))) (l17 : K.lookup f17 = some ⟨oc17, od17, .func (PySem.W.fnOf "_law_knot" "_law_knot" (defArgs s_law_knot) (defBody s_law_knot) (defScope s_law_knot) .none kV17 dc17 pm17 an17 cd17 ct17), sl17⟩) (c17 : PySem.W.codeIn K cd17 "_law_knot" = true) (k17 : PySem.W.keepIn K (.ref f17) = true)
    (a18 : PySem.W.nsIn K mainGlobals "_law_some" = some (some (.ref f18))) (l18 : K.lookup f18 = some ⟨oc18, od18, .func (PySem.W.fnOf "_law_some" "_law_some" (defArgs s_law_some) (defBody s_law_some) (defScope s_law_some) .none kV18 dc18 pm18 an18 cd18 ct18), sl18⟩) (c18 : PySem.W.codeIn K cd18 "_law_some" = true) (k18 : PySem.W.keepIn K (.ref f18) = true)
    (a19 : PySem.W.nsIn K mainGlobals "_law_piece" = some (some (.ref f19))) (l19 : K.lookup f19 = some ⟨oc19, od19, .func (PySem.W.fnOf "_law_piece" "_law_piece" (defArgs s_law_piece) (defBody s_law_piece) (defScope s_law_piece) .none kV19 dc19 pm19 an19 cd19 ct19), sl19⟩) (c19 : PySem.W.codeIn K cd19 "_law_piece" = true) (k19 : PySem.W.keepIn K (.ref f19) = true)
    (a20 : PySem.W.nsIn K mainGlobals "_law_row" = some (some (.ref f20))) (l20 : K.lookup f20 = some ⟨oc20, od20, .func (PySem.W.fnOf "_law_row" "_law_row" (defArgs s_law_row) (defBody s_law_row) (defScope s_law_row) .none kV20 dc20 pm20 an20 cd20 ct20), sl20⟩) (c20 : PySem.W.codeIn K cd20 "_law_row" = true) (k20 : PySem.W.keepIn K (.ref f20) = true)
    (a21 : PySem.W.nsIn K mainGlobals "_law_settled" = some (some (.ref f21))) (l21 : K.lookup f21 = some ⟨oc21, od21, .func (PySem.W.fnOf "_law_settled" "_law_settled" (defArgs s_law_settled) (defBody s_law_settled) (defScope s_law_settled) .none kV21 dc21 pm21 an21 cd21 ct21), sl21⟩) (c21 : PySem.W.codeIn K cd21 "_law_settled" = true) (k21 : PySem.W.keepIn K (.ref f21) = true)
    (a22 : PySem.W.nsIn K mainGlobals "_law_first" = some (some (.ref f22))) (l22 : K.lookup f22 = some ⟨oc22, od22, .func (PySem.W.fnOf "_law_first" "_law_first" (defArgs s_law_first) (defBody s_law_first) (defScope s_law_first) .none kV22 dc22 pm22 an22 cd22 ct22), sl22⟩) (c22 : PySem.W.codeIn K cd22 "_law_first" = true) (k22 : PySem.W.keepIn K (.ref f22) = true)
    (a23 : PySem.W.nsIn K mainGlobals "_law_least" = some (some (.ref f23))) (l23 : K.lookup f23 = some ⟨oc23, od23, .func (PySem.W.fnOf "_law_least" "_law_least" (defArgs s_law_least) (defBody s_law_least) (defScope s_law_least) .none kV23 dc23 pm23 an23 cd23 ct23), sl23⟩) (c23 : PySem.W.codeIn K cd23 "_law_least" = true) (k23 : PySem.W.keepIn K (.ref f23) = true)
    (a24 : PySem.W.nsIn K mainGlobals "_law_ropes" = some (some (.ref f24))) (l24 : K.lookup f24 = some ⟨oc24, od24, .func (PySem.W.fnOf "_law_ropes" "_law_ropes" (defArgs s_law_ropes) (defBody s_law_ropes) (defScope s_law_ropes) .none kV24 dc24 pm24 an24 cd24 ct24), sl24⟩) (c24 : PySem.W.codeIn K cd24 "_law_ropes" = true) (k24 : PySem.W.keepIn K (.ref f24) = true)
    (a25 : PySem.W.nsIn K mainGlobals "_law_can" = some (some (.ref f25))) (l25 : K.lookup f25 = some ⟨oc25, od25, .func (PySem.W.fnOf "_law_can" "_law_can" (defArgs s_law_can) (defBody s_law_can) (defScope s_law_can) .none kV25 dc25 pm25 an25 cd25 ct25), sl25⟩) (c25 : PySem.W.codeIn K cd25 "_law_can" = true) (k25 : PySem.W.keepIn K (.ref f25) = true)
    (a26 : PySem.W.nsIn K mainGlobals "_law_gone" = some (some (.ref f26))) (l26 : K.lookup f26 = some ⟨oc26, od26, .func (PySem.W.fnOf "_law_gone" "_law_gone" (defArgs s_law_gone) (defBody s_law_gone) (defScope s_law_gone) .none kV26 dc26 pm26 an26 cd26 ct26), sl26⟩) (c26 : PySem.W.codeIn K cd26 "_law_gone" = true) (k26 : PySem.W.keepIn K (.ref f26) = true)
    (a27 : PySem.W.nsIn K mainGlobals "_law_some_step" = some (some (.ref f27))) (l27 : K.lookup f27 = some ⟨oc27, od27, .func (PySem.W.fnOf "_law_some_step" "_law_some_step" (defArgs s_law_some_step) (defBody s_law_some_step) (defScope s_law_some_step) .none kV27 dc27 pm27 an27 cd27 ct27), sl27⟩) (c27 : PySem.W.codeIn K cd27 "_law_some_step" = true) (k27 : PySem.W.keepIn K (.ref f27) = true)
    (a28 : PySem.W.nsIn K mainGlobals "_law_otherwise" = some (some (.ref f28))) (l28 : K.lookup f28 = some ⟨oc28, od28, .func (PySem.W.fnOf "_law_otherwise" "_law_otherwise" (defArgs s_law_otherwise) (defBody s_law_otherwise) (defScope s_law_otherwise) .none kV28 dc28 pm28 an28 cd28 ct28), sl28⟩) (c28 : PySem.W.codeIn K cd28 "_law_otherwise" = true) (k28 : PySem.W.keepIn K (.ref f28) = true)
    (a29 : PySem.W.nsIn K mainGlobals "_law_right" = some (some (.ref f29))) (l29 : K.lookup f29 = some ⟨oc29, od29, .func (PySem.W.fnOf "_law_right" "_law_right" (defArgs s_law_right) (defBody s_law_right) (defScope s_law_right) .none kV29 dc29 pm29 an29 cd29 ct29), sl29⟩) (c29 : PySem.W.codeIn K cd29 "_law_right" = true) (k29 : PySem.W.keepIn K (.ref f29) = true)
    (a30 : PySem.W.nsIn K mainGlobals "law" = some (some (.ref f30))) (l30 : K.lookup f30 = some ⟨oc30, od30, .func (PySem.W.fnOf "law" "law" (defArgs s_law) (defBody s_law) (defScope s_law) .none kV30 dc30 pm30 an30 cd30 ct30), sl30⟩) (c30 : PySem.W.codeIn K cd30 "law" = true) (k30 : PySem.W.keepIn K (.ref f30) = true)
    (z1 : PySem.W.nsIn K mainGlobals "reversed" = some none) (z2 : PySem.W.nsIn K mainGlobals "sorted" = some none) (z3 : PySem.W.nsIn K mainGlobals "tuple" = some none) (z4 : PySem.W.nsIn K mainGlobals "enumerate" = some none) (z5 : PySem.W.nsIn K mainGlobals "len" = some none) (z6 : PySem.W.nsIn K mainGlobals "list" = some none) (z7 : PySem.W.nsIn K mainGlobals "min" = some none) (z8 : PySem.W.nsIn K mainGlobals "abs" = some none) (z9 : PySem.W.nsIn K mainGlobals "int" = some none) (z10 : PySem.W.nsIn K mainGlobals "isinstance" = some none) (z11 : PySem.W.nsIn K mainGlobals "zip" = some none) (z12 : PySem.W.nsIn K mainGlobals "all" = some none) (z13 : PySem.W.nsIn K mainGlobals "str" = some none) (z14 : PySem.W.nsIn K mainGlobals "bool" = some none) (z15 : PySem.W.nsIn K mainGlobals "range" = some none) (z16 : PySem.W.nsIn K mainGlobals "max" = some none) (z17 : PySem.W.nsIn K mainGlobals "set" = some none) (z18 : PySem.W.nsIn K mainGlobals "repr" = some none) :
    ∃ fd : FuncData, (∀ (s : Shared) (v : Value), BindsTo s fd ⟨[v], []⟩ [("_law_script", v)]) ∧ ∀ base : Heap, K.In base → base.Ns mainGlobals mg → FnG l.prog w K mg base CX0 10 fa fd ["_law_script"] (spD K 1 Ph_law) := by
  have e := hfa.symm.trans (PySem.W.mg_of X G a30)
  cases e
  have F1 := fun_mk (st := s_turned) l1 c1 k1
  have b1 := F1.binds (ps := ["hook"]) fun _ _ _ _ _ _ us hl => match us, hl with | [_], _ => rfl
  have m1 := PySem.W.mg_of X G a1
  have F2 := fun_mk (st := s_back) l2 c2 k2
  have b2 := F2.binds (ps := ["row"]) fun _ _ _ _ _ _ us hl => match us, hl with | [_], _ => rfl
  have m2 := PySem.W.mg_of X G a2
  have F3 := fun_mk (st := s_ropes_in) l3 c3 k3
  have b3 := F3.binds (ps := ["row"]) fun _ _ _ _ _ _ us hl => match us, hl with | [_], _ => rfl
  have m3 := PySem.W.mg_of X G a3
  have F4 := fun_mk (st := s_settled) l4 c4 k4
  have b4 := F4.binds (ps := ["row"]) fun _ _ _ _ _ _ us hl => match us, hl with | [_], _ => rfl
  have m4 := PySem.W.mg_of X G a4
  have F5 := fun_mk (st := s_lines_of) l5 c5 k5
  have b5 := F5.binds (ps := ["row"]) fun _ _ _ _ _ _ us hl => match us, hl with | [_], _ => rfl
  have m5 := PySem.W.mg_of X G a5
  have F6 := fun_mk (st := s_first_of) l6 c6 k6
  have b6 := F6.binds (ps := ["row"]) fun _ _ _ _ _ _ us hl => match us, hl with | [_], _ => rfl
  have m6 := PySem.W.mg_of X G a6
  have F7 := fun_mk (st := s_least) l7 c7 k7
  have b7 := F7.binds (ps := ["row"]) fun _ _ _ _ _ _ us hl => match us, hl with | [_], _ => rfl
  have m7 := PySem.W.mg_of X G a7
  have F8 := fun_mk (st := s_put) l8 c8 k8
  have b8 := F8.binds (ps := ["row", "other"]) fun _ _ _ _ _ _ us hl => match us, hl with | [_, _], _ => rfl
  have m8 := PySem.W.mg_of X G a8
  have F9 := fun_mk (st := s_size) l9 c9 k9
  have b9 := F9.binds (ps := ["row"]) fun _ _ _ _ _ _ us hl => match us, hl with | [_], _ => rfl
  have m9 := PySem.W.mg_of X G a9
  have F10 := fun_mk (st := s_held) l10 c10 k10
  have b10 := F10.binds (ps := ["row"]) fun _ _ _ _ _ _ us hl => match us, hl with | [_], _ => rfl
  have m10 := PySem.W.mg_of X G a10
  have F11 := fun_mk (st := s_law_box) l11 c11 k11
  have b11 := F11.binds (ps := ["_law_script", "_law_k"]) fun _ _ _ _ _ _ us hl => match us, hl with | [_, _], _ => rfl
  have m11 := PySem.W.mg_of X G a11
  have F12 := fun_mk (st := s_law_take) l12 c12 k12
  have b12 := F12.binds (ps := ["_law_box_here", "_law_bound"]) fun _ _ _ _ _ _ us hl => match us, hl with | [_, _], _ => rfl
  have m12 := PySem.W.mg_of X G a12
  have F13 := fun_mk (st := s_law_same) l13 c13 k13
  have b13 := F13.binds (ps := ["_law_found", "_law_due"]) fun _ _ _ _ _ _ us hl => match us, hl with | [_, _], _ => rfl
  have m13 := PySem.W.mg_of X G a13
  have F14 := fun_mk (st := s_law_names) l14 c14 k14
  have b14 := F14.binds (ps := ["_law_box_here", "_law_many"]) fun _ _ _ _ _ _ us hl => match us, hl with | [_, _], _ => rfl
  have m14 := PySem.W.mg_of X G a14
  have F15 := fun_mk (st := s_law_hook) l15 c15 k15
  have b15 := F15.binds (ps := ["_law_box_here", "_law_names_here"]) fun _ _ _ _ _ _ us hl => match us, hl with | [_, _], _ => rfl
  have m15 := PySem.W.mg_of X G a15
  have F16 := fun_mk (st := s_law_back) l16 c16 k16
  have b16 := F16.binds (ps := ["_law_row_here"]) fun _ _ _ _ _ _ us hl => match us, hl with | [_], _ => rfl
  have m16 := PySem.W.mg_of X G a16
  have F17 := fun_mk (st := s_law_knot) l17 c17 k17
  have b17 := F17.binds (ps := ["_law_names_here"]) fun _ _ _ _ _ _ us hl => match us, hl with | [_], _ => rfl
  have m17 := PySem.W.mg_of X G a17
  have F18 := fun_mk (st := s_law_some) l18 c18 k18
  have b18 := F18.binds (ps := ["_law_box_here", "_law_names_here", "_law_few"]) fun _ _ _ _ _ _ us hl => match us, hl with | [_, _, _], _ => rfl
  have m18 := PySem.W.mg_of X G a18
  have F19 := fun_mk (st := s_law_piece) l19 c19 k19
  have b19 := F19.binds (ps := ["_law_box_here", "_law_names_here"]) fun _ _ _ _ _ _ us hl => match us, hl with | [_, _], _ => rfl
  have m19 := PySem.W.mg_of X G a19
  have F20 := fun_mk (st := s_law_row) l20 c20 k20
  have b20 := F20.binds (ps := ["_law_box_here", "_law_names_here", "_law_room"]) fun _ _ _ _ _ _ us hl => match us, hl with | [_, _, _], _ => rfl
  have m20 := PySem.W.mg_of X G a20
  have F21 := fun_mk (st := s_law_settled) l21 c21 k21
  have b21 := F21.binds (ps := ["_law_row_here"]) fun _ _ _ _ _ _ us hl => match us, hl with | [_], _ => rfl
  have m21 := PySem.W.mg_of X G a21
  have F22 := fun_mk (st := s_law_first) l22 c22 k22
  have b22 := F22.binds (ps := ["_law_row_here"]) fun _ _ _ _ _ _ us hl => match us, hl with | [_], _ => rfl
  have m22 := PySem.W.mg_of X G a22
  have F23 := fun_mk (st := s_law_least) l23 c23 k23
  have b23 := F23.binds (ps := ["_law_row_here"]) fun _ _ _ _ _ _ us hl => match us, hl with | [_], _ => rfl
  have m23 := PySem.W.mg_of X G a23
  have F24 := fun_mk (st := s_law_ropes) l24 c24 k24
  have b24 := F24.binds (ps := ["_law_row_here"]) fun _ _ _ _ _ _ us hl => match us, hl with | [_], _ => rfl
  have m24 := PySem.W.mg_of X G a24
  have F25 := fun_mk (st := s_law_can) l25 c25 k25
  have b25 := F25.binds (ps := ["_law_row_here", "_law_step"]) fun _ _ _ _ _ _ us hl => match us, hl with | [_, _], _ => rfl
  have m25 := PySem.W.mg_of X G a25
  have F26 := fun_mk (st := s_law_gone) l26 c26 k26
  have b26 := F26.binds (ps := ["_law_row_here", "_law_step"]) fun _ _ _ _ _ _ us hl => match us, hl with | [_, _], _ => rfl
  have m26 := PySem.W.mg_of X G a26
  have F27 := fun_mk (st := s_law_some_step) l27 c27 k27
  have b27 := F27.binds (ps := ["_law_box_here", "_law_names_here", "_law_row_here"]) fun _ _ _ _ _ _ us hl => match us, hl with | [_, _, _], _ => rfl
  have m27 := PySem.W.mg_of X G a27
  have F28 := fun_mk (st := s_law_otherwise) l28 c28 k28
  have b28 := F28.binds (ps := ["_law_box_here", "_law_names_here", "_law_row_here", "_law_many"]) fun _ _ _ _ _ _ us hl => match us, hl with | [_, _, _, _], _ => rfl
  have m28 := PySem.W.mg_of X G a28
  have F29 := fun_mk (st := s_law_right) l29 c29 k29
  have b29 := F29.binds (ps := ["_law_box_here"]) fun _ _ _ _ _ _ us hl => match us, hl with | [_], _ => rfl
  have m29 := PySem.W.mg_of X G a29
  have F30 := fun_mk (st := s_law) l30 c30 k30
  have b30 := F30.binds (ps := ["_law_script"]) fun _ _ _ _ _ _ us hl => match us, hl with | [_], _ => rfl
  have m30 := PySem.W.mg_of X G a30
  have B : Bn mg := ⟨PySem.W.mg_none_of X G z1, PySem.W.mg_none_of X G z2, PySem.W.mg_none_of X G z3, PySem.W.mg_none_of X G z4, PySem.W.mg_none_of X G z5, PySem.W.mg_none_of X G z6, PySem.W.mg_none_of X G z7, PySem.W.mg_none_of X G z8, PySem.W.mg_none_of X G z9, PySem.W.mg_none_of X G z10, PySem.W.mg_none_of X G z11, PySem.W.mg_none_of X G z12, PySem.W.mg_none_of X G z13, PySem.W.mg_none_of X G z14, PySem.W.mg_none_of X G z15, PySem.W.mg_none_of X G z16, PySem.W.mg_none_of X G z17, PySem.W.mg_none_of X G z18⟩
  refine ⟨PySem.W.fnOf "law" "law" (defArgs s_law) (defBody s_law) (defScope s_law) .none kV30 dc30 pm30 an30 cd30 ct30, fun s v => .of_eq rfl, fun base _ _ => ?_⟩
  have O1 := ok_turned (P := l.prog) (w := w) (base := base) (k := 0) F1 B 
  have C_turned : Cal l.prog w K mg base "turned" 1 ["hook"] (spD K 1 Ph_turned) := ⟨_, _, O1, m1, k1, b1⟩
  have O2 := ok_back (P := l.prog) (w := w) (base := base) (k := 1) F2 B (C_turned.mono (by decide))
  have C_back : Cal l.prog w K mg base "back" 2 ["row"] (spD K 1 Ph_back) := ⟨_, _, O2, m2, k2, b2⟩
  have O3 := ok_ropes_in (P := l.prog) (w := w) (base := base) (k := 0) F3 B 
  have C_ropes_in : Cal l.prog w K mg base "ropes_in" 1 ["row"] (spD K 1 Ph_ropes_in) := ⟨_, _, O3, m3, k3, b3⟩
  have O4 := ok_settled (P := l.prog) (w := w) (base := base) (k := 1) F4 B (C_turned.mono (by decide))
  have C_settled : Cal l.prog w K mg base "settled" 2 ["row"] (spD K 1 Ph_settled) := ⟨_, _, O4, m4, k4, b4⟩
  have O5 := ok_lines_of (P := l.prog) (w := w) (base := base) (k := 0) F5 B 
  have C_lines_of : Cal l.prog w K mg base "lines_of" 1 ["row"] (spD K 1 Ph_lines_of) := ⟨_, _, O5, m5, k5, b5⟩
  have O6 := ok_first_of (P := l.prog) (w := w) (base := base) (k := 1) F6 B (C_lines_of.mono (by decide))
  have C_first_of : Cal l.prog w K mg base "first_of" 2 ["row"] (spD K 1 Ph_first_of) := ⟨_, _, O6, m6, k6, b6⟩
  have O7 := ok_least (P := l.prog) (w := w) (base := base) (k := 2) F7 B (C_settled.mono (by decide)) (C_first_of.mono (by decide))
  have C_least : Cal l.prog w K mg base "least" 3 ["row"] (spD K 1 Ph_least) := ⟨_, _, O7, m7, k7, b7⟩
  have O8 := ok_put (P := l.prog) (w := w) (base := base) (k := 3) F8 B (C_least.mono (by decide))
  have C_put : Cal l.prog w K mg base "put" 4 ["row", "other"] (spD K 2 Ph_put) := ⟨_, _, O8, m8, k8, b8⟩
  have O9 := ok_size (P := l.prog) (w := w) (base := base) (k := 3) F9 B (C_least.mono (by decide))
  have C_size : Cal l.prog w K mg base "size" 4 ["row"] (spD K 1 Ph_size) := ⟨_, _, O9, m9, k9, b9⟩
  have O10 := ok_held (P := l.prog) (w := w) (base := base) (k := 2) F10 B (C_settled.mono (by decide)) (C_ropes_in.mono (by decide))
  have C_held : Cal l.prog w K mg base "held" 3 ["row"] (spD K 1 Ph_held) := ⟨_, _, O10, m10, k10, b10⟩
  have O11 := ok_law_box (P := l.prog) (w := w) (base := base) (k := 0) F11 B 
  have C_law_box : Cal l.prog w K mg base "_law_box" 1 ["_law_script", "_law_k"] (spD K 2 Ph_law_box) := ⟨_, _, O11, m11, k11, b11⟩
  have O12 := ok_law_take (P := l.prog) (w := w) (base := base) (k := 0) F12 B 
  have C_law_take : Cal l.prog w K mg base "_law_take" 1 ["_law_box_here", "_law_bound"] (spL K 2 Ph_law_take) := ⟨_, _, O12, m12, k12, b12⟩
  have R13 := ok_law_same (P := l.prog) (w := w) (base := base) (k := 0) F13 B m13 k13 b13
  have C_law_same : Cal l.prog w K mg base "_law_same" 8 ["_law_found", "_law_due"] (spD K 2 Ph_law_same) := ⟨_, _, (R13 8).mono (by decide), m13, k13, b13⟩
  have O14 := ok_law_names (P := l.prog) (w := w) (base := base) (k := 1) F14 B (C_law_take.mono (by decide))
  have C_law_names : Cal l.prog w K mg base "_law_names" 2 ["_law_box_here", "_law_many"] (spL K 2 Ph_law_names) := ⟨_, _, O14, m14, k14, b14⟩
  have O15 := ok_law_hook (P := l.prog) (w := w) (base := base) (k := 1) F15 B (C_law_take.mono (by decide))
  have C_law_hook : Cal l.prog w K mg base "_law_hook" 2 ["_law_box_here", "_law_names_here"] (spL K 2 Ph_law_hook) := ⟨_, _, O15, m15, k15, b15⟩
  have O16 := ok_law_back (P := l.prog) (w := w) (base := base) (k := 0) F16 B 
  have C_law_back : Cal l.prog w K mg base "_law_back" 1 ["_law_row_here"] (spD K 1 Ph_law_back) := ⟨_, _, O16, m16, k16, b16⟩
  have O17 := ok_law_knot (P := l.prog) (w := w) (base := base) (k := 1) F17 B (C_law_back.mono (by decide))
  have C_law_knot : Cal l.prog w K mg base "_law_knot" 2 ["_law_names_here"] (spD K 1 Ph_law_knot) := ⟨_, _, O17, m17, k17, b17⟩
  have O18 := ok_law_some (P := l.prog) (w := w) (base := base) (k := 1) F18 B (C_law_take.mono (by decide))
  have C_law_some : Cal l.prog w K mg base "_law_some" 2 ["_law_box_here", "_law_names_here", "_law_few"] (spL K 3 Ph_law_some) := ⟨_, _, O18, m18, k18, b18⟩
  have O19 := ok_law_piece (P := l.prog) (w := w) (base := base) (k := 2) F19 B (C_law_hook.mono (by decide)) (C_law_take.mono (by decide)) (C_law_back.mono (by decide)) (C_law_some.mono (by decide)) (C_law_knot.mono (by decide))
  have C_law_piece : Cal l.prog w K mg base "_law_piece" 3 ["_law_box_here", "_law_names_here"] (spL K 2 Ph_law_piece) := ⟨_, _, O19, m19, k19, b19⟩
  have O20 := ok_law_row (P := l.prog) (w := w) (base := base) (k := 3) F20 B (C_law_take.mono (by decide)) (C_law_piece.mono (by decide)) (C_law_back.mono (by decide))
  have C_law_row : Cal l.prog w K mg base "_law_row" 4 ["_law_box_here", "_law_names_here", "_law_room"] (spL K 3 Ph_law_row) := ⟨_, _, O20, m20, k20, b20⟩
  have O21 := ok_law_settled (P := l.prog) (w := w) (base := base) (k := 0) F21 B 
  have C_law_settled : Cal l.prog w K mg base "_law_settled" 1 ["_law_row_here"] (spD K 1 Ph_law_settled) := ⟨_, _, O21, m21, k21, b21⟩
  have O22 := ok_law_first (P := l.prog) (w := w) (base := base) (k := 0) F22 B 
  have C_law_first : Cal l.prog w K mg base "_law_first" 1 ["_law_row_here"] (spD K 1 Ph_law_first) := ⟨_, _, O22, m22, k22, b22⟩
  have O23 := ok_law_least (P := l.prog) (w := w) (base := base) (k := 1) F23 B (C_law_settled.mono (by decide)) (C_law_first.mono (by decide))
  have C_law_least : Cal l.prog w K mg base "_law_least" 2 ["_law_row_here"] (spD K 1 Ph_law_least) := ⟨_, _, O23, m23, k23, b23⟩
  have O24 := ok_law_ropes (P := l.prog) (w := w) (base := base) (k := 0) F24 B 
  have C_law_ropes : Cal l.prog w K mg base "_law_ropes" 1 ["_law_row_here"] (spD K 1 Ph_law_ropes) := ⟨_, _, O24, m24, k24, b24⟩
  have O25 := ok_law_can (P := l.prog) (w := w) (base := base) (k := 0) F25 B 
  have C_law_can : Cal l.prog w K mg base "_law_can" 1 ["_law_row_here", "_law_step"] (spD K 2 Ph_law_can) := ⟨_, _, O25, m25, k25, b25⟩
  have O26 := ok_law_gone (P := l.prog) (w := w) (base := base) (k := 0) F26 B 
  have C_law_gone : Cal l.prog w K mg base "_law_gone" 1 ["_law_row_here", "_law_step"] (spD K 2 Ph_law_gone) := ⟨_, _, O26, m26, k26, b26⟩
  have O27 := ok_law_some_step (P := l.prog) (w := w) (base := base) (k := 2) F27 B (C_law_take.mono (by decide)) (C_law_hook.mono (by decide))
  have C_law_some_step : Cal l.prog w K mg base "_law_some_step" 3 ["_law_box_here", "_law_names_here", "_law_row_here"] (spL K 3 Ph_law_some_step) := ⟨_, _, O27, m27, k27, b27⟩
  have O28 := ok_law_otherwise (P := l.prog) (w := w) (base := base) (k := 3) F28 B (C_law_some_step.mono (by decide)) (C_law_take.mono (by decide)) (C_law_can.mono (by decide)) (C_law_gone.mono (by decide))
  have C_law_otherwise : Cal l.prog w K mg base "_law_otherwise" 4 ["_law_box_here", "_law_names_here", "_law_row_here", "_law_many"] (spL K 4 Ph_law_otherwise) := ⟨_, _, O28, m28, k28, b28⟩
  have O29 := ok_law_right (P := l.prog) (w := w) (base := base) (k := 8) F29 B (C_law_take.mono (by decide)) (C_law_names.mono (by decide)) (C_law_row.mono (by decide)) (C_law_otherwise.mono (by decide)) (C_law_least.mono (by decide)) (C_put.mono (by decide)) (C_law_same.mono (by decide)) (C_back.mono (by decide)) (C_law_back.mono (by decide)) (C_size.mono (by decide)) (C_law_ropes.mono (by decide)) (C_ropes_in.mono (by decide)) (C_held.mono (by decide))
  have C_law_right : Cal l.prog w K mg base "_law_right" 9 ["_law_box_here"] (spL K 1 Ph_law_right) := ⟨_, _, O29, m29, k29, b29⟩
  exact ok_law (k := 9) F30 B (C_law_box.mono (by decide)) (C_law_right.mono (by decide))
end K64
open PySem PySem.W PyProof.Rows
set_option maxRecDepth 100000 in
set_option maxHeartbeats 0 in
theorem PySem.Challenge.cw_drawnropes_k64_whole_put_together_and_un_holds : PySem.Challenge.rw_drawnropes_k64_whole_put_together_and_un.Holds := by
  w_on; o_law; k_head; (case hw => w_witness2)
  k_fill
  refine DL.walkG (l := PySem.Challenge.rw_drawnropes_k64_whole_put_together_and_un) (n := 63) (k := 10) (x := "_law_script") (Φ := K64.Ph_law) rfl (by decide) rfl ⟨rfl, by decide, by decide⟩ (fun w h Y => PySem.W.kIn_of Y) ?F (fun ns hl => ⟨ns, rfl, rfl⟩)
  case F =>
    intro w mg fa h KX G hmg
    refine' K64.all_mk KX G hmg ?a1 ?l1 ?c1 ?k1 ?a2 ?l2 ?c2 ?k2 ?a3 ?l3 ?c3 ?k3 ?a4 ?l4 ?c4 ?k4 ?a5 ?l5 ?c5 ?k5 ?a6 ?l6 ?c6 ?k6 ?a7 ?l7 ?c7 ?k7 ?a8 ?l8 ?c8 ?k8 ?a9 ?l9 ?c9 ?k9 ?a10 ?l10 ?c10 ?k10 ?a11 ?l11 ?c11 ?k11 ?a12 ?l12 ?c12 ?k12 ?a13 ?l13 ?c13 ?k13 ?a14 ?l14 ?c14 ?k14 ?a15 ?l15 ?c15 ?k15 ?a16 ?l16 ?c16 ?k16 ?a17 ?l17 ?c17 ?k17 ?a18 ?l18 ?c18 ?k18 ?a19 ?l19 ?c19 ?k19 ?a20 ?l20 ?c20 ?k20 ?a21 ?l21 ?c21 ?k21 ?a22 ?l22 ?c22 ?k22 ?a23 ?l23 ?c23 ?k23 ?a24 ?l24 ?c24 ?k24 ?a25 ?l25 ?c25 ?k25 ?a26 ?l26 ?c26 ?k26 ?a27 ?l27 ?c27 ?k27 ?a28 ?l28 ?c28 ?k28 ?a29 ?l29 ?c29 ?k29 ?a30 ?l30 ?c30 ?k30 ?z1 ?z2 ?z3 ?z4 ?z5 ?z6 ?z7 ?z8 ?z9 ?z10 ?z11 ?z12 ?z13 ?z14 ?z15 ?z16 ?z17 ?z18
    (case a1 => k_is); (case l1 => k_is); (case c1 => k_is); (case k1 => k_is); (case a2 => k_is); (case l2 => k_is); (case c2 => k_is); (case k2 => k_is)
    (case a3 => k_is); (case l3 => k_is); (case c3 => k_is); (case k3 => k_is); (case a4 => k_is); (case l4 => k_is); (case c4 => k_is); (case k4 => k_is)
    (case a5 => k_is); (case l5 => k_is); (case c5 => k_is); (case k5 => k_is); (case a6 => k_is); (case l6 => k_is); (case c6 => k_is); (case k6 => k_is)
    (case a7 => k_is); (case l7 => k_is); (case c7 => k_is); (case k7 => k_is); (case a8 => k_is); (case l8 => k_is); (case c8 => k_is); (case k8 => k_is)
    (case a9 => k_is); (case l9 => k_is); (case c9 => k_is); (case k9 => k_is); (case a10 => k_is); (case l10 => k_is); (case c10 => k_is); (case k10 => k_is)
    (case a11 => k_is); (case l11 => k_is); (case c11 => k_is); (case k11 => k_is); (case a12 => k_is); (case l12 => k_is); (case c12 => k_is); (case k12 => k_is)
    (case a13 => k_is); (case l13 => k_is); (case c13 => k_is); (case k13 => k_is); (case a14 => k_is); (case l14 => k_is); (case c14 => k_is); (case k14 => k_is)
    (case a15 => k_is); (case l15 => k_is); (case c15 => k_is); (case k15 => k_is); (case a16 => k_is); (case l16 => k_is); (case c16 => k_is); (case k16 => k_is)
    (case a17 => k_is); (case l17 => k_is); (case c17 => k_is); (case k17 => k_is); (case a18 => k_is); (case l18 => k_is); (case c18 => k_is); (case k18 => k_is)
    (case a19 => k_is); (case l19 => k_is); (case c19 => k_is); (case k19 => k_is); (case a20 => k_is); (case l20 => k_is); (case c20 => k_is); (case k20 => k_is)
    (case a21 => k_is); (case l21 => k_is); (case c21 => k_is); (case k21 => k_is); (case a22 => k_is); (case l22 => k_is); (case c22 => k_is); (case k22 => k_is)
    (case a23 => k_is); (case l23 => k_is); (case c23 => k_is); (case k23 => k_is); (case a24 => k_is); (case l24 => k_is); (case c24 => k_is); (case k24 => k_is)
    (case a25 => k_is); (case l25 => k_is); (case c25 => k_is); (case k25 => k_is); (case a26 => k_is); (case l26 => k_is); (case c26 => k_is); (case k26 => k_is)
    (case a27 => k_is); (case l27 => k_is); (case c27 => k_is); (case k27 => k_is); (case a28 => k_is); (case l28 => k_is); (case c28 => k_is); (case k28 => k_is)
    (case a29 => k_is); (case l29 => k_is); (case c29 => k_is); (case k29 => k_is); (case a30 => k_is); (case l30 => k_is); (case c30 => k_is); (case k30 => k_is)
    (case z1 => k_is); (case z2 => k_is); (case z3 => k_is); (case z4 => k_is); (case z5 => k_is); (case z6 => k_is); (case z7 => k_is); (case z8 => k_is)
    (case z9 => k_is); (case z10 => k_is); (case z11 => k_is); (case z12 => k_is); (case z13 => k_is); (case z14 => k_is); (case z15 => k_is); (case z16 => k_is)
    (case z17 => k_is); (case z18 => k_is)
