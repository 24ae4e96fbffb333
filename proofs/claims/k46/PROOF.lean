import PyProof.Rows.All
import Wide.All
import OpenK.AllK
import Wide.FinOn
import HandS.ForMost
import HandS.Lambda
import HandS.Style
import HandS.Defaults
import HandS.NoneIn
import HandS.Zip
import HandS.TupLe
import HandS.TupAny
import HandS.Deep
import HandS.IsInst
import KE.SortData
import KE.KUnpackStar
import HandS.Iter
import KE.GoesMore
import KE.GoesEnum
import HandS.SetKeys
import HandS.Small
import HandS.DictComp
import PyProof.DictValues
import PyProof.DictIter
import KE.KDictList
import HandS.Dict
import HandS.List
import HandS.SetFor
import KE.DataMinMax
import HandS.Set
import HandS.Comp
import HandS.SetBool
import HandS.Strs
import HandS.More
import HandS.Words
import HandS.SortKw
import KE.SortKeyHeap
import KE.KSortKey
import PyProof.ReprRoads
import PyProof.ReprLen
import HandS.Conv
import PyProof.StrLawsIn
import HandS.DictEq
import PyProof.SliceList
import PyProof.SeqIndex
import KE.GoesEnumKw
import KE.KLam
import HandS.EndTab
import PySem.Challenge.RW_drawnropes_k46_clashes_shown
set_option Elab.async false
set_option linter.all false
set_option maxRecDepth 100000
set_option maxHeartbeats 4000000
namespace DL
open PySem PySem.Spec PyProof.Rows L2
def Ex (H H' : Hp) : Prop := ∀ a o, H a = some o → H' a = some o
theorem Ex.refl (H : Hp) : Ex H H := fun _ _ h => h
theorem Ex.trans {H H1 H2 : Hp} (a : Ex H H1) (b : Ex H1 H2) : Ex H H2 := fun x o h => b x o (a x o h)
theorem Ex.new {H : Hp} {p : Addr} {o : HO} (h : H p = none) : Ex H (upd H p o) := fun a u e => by
  rw [upd_ne (ne_of_none e h)]; exact e
theorem Ex.free {H H' : Hp} {p : Addr} (e : Ex H H') (h : H' p = none) : H p = none := by
  cases q : H p with
  | none => rfl
  | some o => rw [e p o q] at h; cases h
/-- both sides get the same new object -/
theorem Ex.upd2 {H H' : Hp} {p : Addr} {o : HO} (e : Ex H H') : Ex (upd H p o) (upd H' p o) := fun a u h => by
  by_cases q : a = p
  · subst q; rw [upd_same] at h ⊢; exact h
  · rw [upd_ne q] at h ⊢; exact e a u h
/-- what the lesser heap does not know may change -/
theorem Ex.mut {H H' : Hp} {p : Addr} {o : HO} (e : Ex H H') (h : H p = none) : Ex H (upd H' p o) := fun a u ha => by
  rw [upd_ne (ne_of_none ha h)]; exact e a u ha
/-- the lesser heap learns what stands in the greater one -/
theorem Ex.learn {H H' : Hp} {p : Addr} {o : HO} (e : Ex H H') (h : H' p = some o) : Ex (upd H p o) H' := fun a u ha => by
  by_cases q : a = p
  · subst q; rw [upd_same] at ha; rw [h]; exact ha
  · rw [upd_ne q] at ha; exact e a u ha
theorem ex_sl {K : PySem.W.Frag} {H H' : Hp} {a : Addr} {xs : List V} (e : Ex H H') (h : SqL K H a xs) : SqL K H' a xs := by
  rcases h with (h | ⟨o, h⟩) | h
  · exact .inl (.inl (e _ _ h))
  · exact .inl (.inr ⟨o, e _ _ h⟩)
  · exact .inr h
theorem sql_of {K : PySem.W.Frag} {H : Hp} {a : Addr} {xs : List V} (h : H a = some (.lst xs)) : SqL K H a xs := .inl (.inl h)
theorem sqt_of {K : PySem.W.Frag} {H : Hp} {a : Addr} {xs : List V} (h : H a = some (.tup xs)) : SqT K H a xs := .inl (.inl h)
mutual
inductive Rp (K : PySem.W.Frag) (H : Hp) : V → PyData → Prop
  | non : Rp K H .non .none
  | bl (b : Bool) : Rp K H (.bl b) (.bool b)
  | int (i : Int) : Rp K H (.int i) (.int i)
  | str (x : Str) : Rp K H (.str x) (.str x)
  | lst {a : Addr} {xs : List V} {ds : List PyData} : H a = some (.lst xs) → RpA K H xs ds → Rp K H (.ref a) (.list ds)
  | tup {a : Addr} {xs : List V} {ds : List PyData} : H a = some (.tup xs) → RpA K H xs ds → Rp K H (.ref a) (.tuple ds)
inductive RpA (K : PySem.W.Frag) (H : Hp) : List V → List PyData → Prop
  | nil : RpA K H [] []
  | cons {v : V} {vs : List V} {d : PyData} {ds : List PyData} : Rp K H v d → RpA K H vs ds → RpA K H (v :: vs) (d :: ds)
end
section
variable {K : PySem.W.Frag} {H H' : Hp}
mutual
theorem Rp.mono (e : Ex H H') : ∀ (d : PyData) (v : V), Rp K H v d → Rp K H' v d
  | .none, _, h => by cases h; exact .non
  | .bool b, _, h => by cases h; exact .bl b
  | .int i, _, h => by cases h; exact .int i
  | .str x, _, h => by cases h; exact .str x
  | .list ds, _, h => by
    cases h with
    | lst h1 h2 => exact .lst (e _ _ h1) (RpA.mono e ds _ h2)
  | .tuple ds, _, h => by
    cases h with
    | tup h1 h2 => exact .tup (e _ _ h1) (RpA.mono e ds _ h2)
  | .dict _, _, h => by cases h
theorem RpA.mono (e : Ex H H') : ∀ (ds : List PyData) (vs : List V), RpA K H vs ds → RpA K H' vs ds
  | [], _, h => by cases h; exact .nil
  | d :: ds, _, h => by
    cases h with
    | cons h1 h2 => exact .cons (Rp.mono e d _ h1) (RpA.mono e ds _ h2)
end
mutual
theorem Rp.dp : ∀ (d : PyData) (v : V), Rp K H v d → Dp K H v d
  | .none, _, h => by cases h; exact .non
  | .bool b, _, h => by cases h; exact .bl b
  | .int i, _, h => by cases h; exact .int i
  | .str x, _, h => by cases h; exact .str x
  | .list ds, _, h => by
    cases h with
    | lst h1 h2 => exact .lst (sql_of h1) (RpA.dp ds _ h2)
  | .tuple ds, _, h => by
    cases h with
    | tup h1 h2 => exact .tup (sqt_of h1) (RpA.dp ds _ h2)
  | .dict _, _, h => by cases h
theorem RpA.dp : ∀ (ds : List PyData) (vs : List V), RpA K H vs ds → DpAll K H vs ds
  | [], _, h => by cases h; exact .nil
  | d :: ds, _, h => by
    cases h with
    | cons h1 h2 => exact .cons (Rp.dp d _ h1) (RpA.dp ds _ h2)
end
theorem RpA.len : ∀ {vs : List V} {ds : List PyData}, RpA K H vs ds → vs.length = ds.length
  | _, _, .nil => rfl
  | _, _, .cons _ t => congrArg (· + 1) (RpA.len t)
theorem RpA.app : ∀ {vs ws : List V} {ds es : List PyData}, RpA K H vs ds → RpA K H ws es → RpA K H (vs ++ ws) (ds ++ es)
  | _, _, _, _, .nil, q => q
  | _, _, _, _, .cons r t, q => .cons r (RpA.app t q)
theorem RpA.take : ∀ (n : Nat) {vs : List V} {ds : List PyData}, RpA K H vs ds → RpA K H (vs.take n) (ds.take n)
  | 0, _, _, _ => .nil
  | _ + 1, _, _, .nil => .nil
  | n + 1, _, _, .cons r t => .cons r (RpA.take n t)
theorem RpA.drop : ∀ (n : Nat) {vs : List V} {ds : List PyData}, RpA K H vs ds → RpA K H (vs.drop n) (ds.drop n)
  | 0, _, _, r => r
  | _ + 1, _, _, .nil => .nil
  | n + 1, _, _, .cons _ t => RpA.drop n t
theorem RpA.get : ∀ {vs : List V} {ds : List PyData} {i : Nat} {d : PyData}, RpA K H vs ds → ds[i]? = some d → ∃ v, vs[i]? = some v ∧ Rp K H v d
  | _, _, _, _, .nil, e => by simp at e
  | _, _, 0, _, .cons r _, e => by simp at e; subst e; exact ⟨_, rfl, r⟩
  | _, _, i + 1, d, .cons _ t, e => by
    obtain ⟨v, h1, h2⟩ := RpA.get (i := i) (d := d) t (by simpa using e)
    exact ⟨v, by simpa using h1, h2⟩
theorem RpA.getV : ∀ {vs : List V} {ds : List PyData} {i : Nat} {v : V}, RpA K H vs ds → vs[i]? = some v → ∃ d, ds[i]? = some d ∧ Rp K H v d
  | _, _, _, _, .nil, e => by simp at e
  | _, _, 0, _, .cons r _, e => by simp at e; subst e; exact ⟨_, rfl, r⟩
  | _, _, i + 1, v, .cons _ t, e => by
    obtain ⟨d, h1, h2⟩ := RpA.getV (i := i) (v := v) t (by simpa using e)
    exact ⟨d, by simpa using h1, h2⟩
theorem RpA.set {v : V} {d : PyData} (r : Rp K H v d) : ∀ (i : Nat) {vs : List V} {ds : List PyData}, RpA K H vs ds → RpA K H (vs.set i v) (ds.set i d)
  | _, _, _, .nil => .nil
  | 0, _, _, .cons _ t => .cons r t
  | i + 1, _, _, .cons q t => .cons q (RpA.set r i t)
theorem RpA.rev : ∀ {vs : List V} {ds : List PyData}, RpA K H vs ds → RpA K H vs.reverse ds.reverse
  | _, _, .nil => .nil
  | _, _, .cons r t => by
    rw [List.reverse_cons, List.reverse_cons]
    exact (RpA.rev t).app (.cons r .nil)
end
def NT (o : HO) : Prop := ∀ ps, o ≠ .tbl ps
/-- neither a table nor a code object -/
def WO (o : HO) : Prop := NT o ∧ (∀ c q, o ≠ LamX.CodeO c q) ∧ ∀ xs, o ≠ .tup xs
def lamQ : Str := "all_sets.<locals>.<lambda>"
/-- the table of that code object, if it is the one of the def with the lambda -/
def tabOf (e : Addr × Obj) : Option Addr := match e.2.data with
  | .fields vs => match vs[1]?, vs[11]? with
    | some (Value.str n _), some (Value.ref P) => if n == ("all_sets" : Str) then some P else none
    | _, _ => none
  | _ => none
def tabsOf (K : PySem.W.Frag) : List Addr := K.filterMap tabOf
abbrev TabS := LamX.TabS
theorem tab_put {H : Hp} {a P : Addr} {o : HO} {q : Str} (hw : ∀ u, H a = some u → WO u) (t : TabS H P q) : TabS (upd H a o) P q := by
  obtain ⟨ps, h1, h2, h3⟩ := t
  have ne : P ≠ a := fun e => (hw _ (by rw [← e]; exact h1)).1 ps rfl
  refine ⟨ps, by rw [upd_ne ne]; exact h1, h2, fun pos cv hc => ?_⟩
  obtain ⟨c, e1, e2⟩ := h3 pos cv hc
  have nc : c ≠ a := fun e => (hw _ (by rw [← e]; exact e2)).2.1 _ _ rfl
  exact ⟨c, e1, by rw [upd_ne nc]; exact e2⟩
theorem wo_new {H : Hp} {a : Addr} (h : H a = none) : ∀ u, H a = some u → WO u := fun u e => by rw [h] at e; cases e
theorem wo_at {H : Hp} {a : Addr} {u : HO} (h : H a = some u) (w : WO u) : ∀ u, H a = some u → WO u := fun v e => by rw [h] at e; cases e; exact w
theorem wo_lst (xs : List V) : WO (.lst xs) := ⟨(fun _ z => nomatch z), (fun _ _ z => by unfold LamX.CodeO at z; cases z), fun _ z => nomatch z⟩
theorem wo_dK (kvs : List (Key × V)) : WO (.dK kvs) := ⟨(fun _ z => nomatch z), (fun _ _ z => by unfold LamX.CodeO at z; cases z), fun _ z => nomatch z⟩
theorem wo_frz (o : Obj) (u : HO) : WO (.frz o u) := ⟨(fun _ z => nomatch z), (fun _ _ z => by unfold LamX.CodeO at z; cases z), fun _ z => nomatch z⟩
def Tb (K : PySem.W.Frag) (G H : Hp) : Prop := ∀ P ∈ tabsOf K, G P = none ∧ TabS H P lamQ
theorem TabS.some {H : Hp} {P : Addr} {q : Str} (t : TabS H P q) : ∃ ps, H P = some (.tbl ps) := by
  obtain ⟨ps, h, _⟩ := t
  exact ⟨ps, h⟩
theorem Tb.laid {K : PySem.W.Frag} {G H : Hp} {p : Addr} {o : HO} (t : Tb K G H) (hp : H p = none) : Tb K (upd G p o) (upd H p o) := fun P hP => by
  obtain ⟨g, t1⟩ := t P hP
  obtain ⟨ps, e⟩ := TabS.some t1
  exact ⟨by rw [upd_ne (ne_of_none e hp)]; exact g, tab_put (wo_new hp) t1⟩
theorem Tb.put {K : PySem.W.Frag} {G H : Hp} {a : Addr} {o : HO} (t : Tb K G H) (hw : ∀ u, H a = some u → WO u) : Tb K G (upd H a o) := fun P hP => ⟨(t P hP).1, tab_put hw (t P hP).2⟩
theorem Tb.over {K : PySem.W.Frag} {G H : Hp} {a : Addr} {o u : HO} (t : Tb K G H) (hq : H a = some u) (w : WO u) : Tb K (upd G a o) (upd H a o) := fun P hP => by
  obtain ⟨g, t1⟩ := t P hP
  obtain ⟨ps, e⟩ := TabS.some t1
  exact ⟨by rw [upd_ne (fun z => w.1 ps (by rw [← z, e] at hq; exact (Option.some.inj hq).symm))]; exact g, tab_put (wo_at hq w) t1⟩
theorem Tb.learn {K : PySem.W.Frag} {G H : Hp} {q : Addr} {o : HO} (t : Tb K G H) (hq : H q = some o) (nt : NT o) : Tb K (upd G q o) H := fun P hP => by
  obtain ⟨g, t1⟩ := t P hP
  obtain ⟨ps, e⟩ := TabS.some t1
  exact ⟨by rw [upd_ne (fun z => nt ps (by rw [← z, e] at hq; exact (Option.some.inj hq).symm))]; exact g, t1⟩
inductive R where
  | d (x : PyData)
  | c (k : Nat)
  | f (xs : List PyData)
  | s (ns : List Int)
  | b (ks : List Nat)
  | p (ks : List Nat)
  | h (es : List (Key × PyData))
  | g (es : List (List Str × PyData))
  | q (ess : List (List (List Str × PyData)))
  | o (u : HO)
inductive Cell where
  | l (xs : List PyData)
  | z (x : PyData)
  | m (es : List (Key × R))
  | k (es : List (Key × PyData))
  | x (u : HO)
abbrev Rho := List (Option R)
abbrev Kap := List Cell
/-- a fresh list that is let go is plain data -/
def R.st : R → R
  | .f xs => .d (.list xs)
  | r => r
/-- what is read there now -/
def val (κ : Kap) : R → Option PyData
  | .d x => some x
  | .f xs => some (.list xs)
  | .c k => match κ[k]? with
    | some (.l xs) => some (.list xs)
    | some (.z x) => some x
    | some (.m _) => none
    | some (.k _) => none
    | some (.x _) => none
    | none => none
  | .s _ => none
  | .b _ => none
  | .p _ => none
  | .h _ => none
  | .g _ => none
  | .q _ => none
  | .o _ => none
/-- a key as a thing -/
def keyP : Key → PyData
  | .inl i => .int i
  | .inr z => .str z
/-- a dict that is known for good: nobody changes it -/
def ItH (K : PySem.W.Frag) (G : Hp) (v : V) (es : List (Key × PyData)) : Prop := ∃ a o kvs, v = .ref a ∧ G a = some (.frz o (.dK kvs)) ∧ Paired (fun (kv : Key × V) (e : Key × PyData) => kv.1 = e.1 ∧ Rp K G kv.2 e.2) kvs es
theorem ItH.mono {K : PySem.W.Frag} {G G' : Hp} {v : V} {es : List (Key × PyData)} (e : Ex G G') (h : ItH K G v es) : ItH K G' v es := by
  obtain ⟨a, o, kvs, h1, h2, h3⟩ := h
  exact ⟨a, o, kvs, h1, e _ _ h2, Paired.mapP h3 fun _ _ z => ⟨z.1, Rp.mono e _ _ z.2⟩⟩
/-- the same, its keys tuples of texts -/
def ItG (K : PySem.W.Frag) (G : Hp) (v : V) (es : List (List Str × PyData)) : Prop := ∃ a o kvs, v = .ref a ∧ G a = some (.frz o (.dT kvs)) ∧ Paired (fun (kv : List Key × V) (e : List Str × PyData) => kv.1 = e.1.map Sum.inr ∧ Rp K G kv.2 e.2) kvs es
theorem ItG.mono {K : PySem.W.Frag} {G G' : Hp} {v : V} {es : List (List Str × PyData)} (e : Ex G G') (h : ItG K G v es) : ItG K G' v es := by
  obtain ⟨a, o, kvs, h1, h2, h3⟩ := h
  exact ⟨a, o, kvs, h1, e _ _ h2, Paired.mapP h3 fun _ _ z => ⟨z.1, Rp.mono e _ _ z.2⟩⟩
def It (K : PySem.W.Frag) (G : Hp) (As : List Addr) (v : V) : R → Prop
  | .d x => Rp K G v x
  | .c k => ∃ a, As[k]? = some a ∧ v = .ref a
  | .f _ => False
  | .s ns => ∃ a, v = .ref a ∧ SqL K G a (ns.map V.int)
  | .b ks => ∃ a vs, v = .ref a ∧ G a = some (.lst vs) ∧ vs.length = ks.length ∧ ∀ (i k : Nat), ks[i]? = some k → ∃ c, As[k]? = some c ∧ vs[i]? = some (V.ref c)
  | .p ks => ∃ a vs, v = .ref a ∧ G a = some (.tup vs) ∧ vs.length = ks.length ∧ ∀ (i k : Nat), ks[i]? = some k → ∃ c, As[k]? = some c ∧ vs[i]? = some (V.ref c)
  | .h es => ItH K G v es
  | .g es => ItG K G v es
  | .q ess => ∃ a vs, v = .ref a ∧ G a = some (.lst vs) ∧ Paired (ItG K G) vs ess
  | .o u => ∃ a, v = .ref a ∧ G a = some u
/-- a dict's entries -/
def Mp (K : PySem.W.Frag) (G : Hp) (As : List Addr) (kvs : List (Key × V)) (es : List (Key × R)) : Prop := Paired (fun kv e => kv.1 = e.1 ∧ It K G As kv.2 e.2) kvs es
def CellOk (K : PySem.W.Frag) (G H : Hp) (As : List Addr) (a : Addr) : Cell → Prop
  | .l ds => G a = none ∧ ∃ vs, H a = some (.lst vs) ∧ RpA K G vs ds
  | .z x => Rp K G (.ref a) x
  | .m es => G a = none ∧ ∃ kvs, H a = some (.dK kvs) ∧ Mp K G As kvs es
  | .k es => ItH K G (.ref a) es
  | .x u => G a = none ∧ H a = some u ∧ WO u
/-- what stands: G what is known for good, the cells at As -/
structure Cells (K : PySem.W.Frag) (G H : Hp) (As : List Addr) (κ : Kap) : Prop where
  ext : Ex G H
  len : As.length = κ.length
  nd : As.Nodup
  al : ∀ a, a ∈ As → ∃ o, H a = some o
  ok : ∀ (k : Nat) (c : Cell) (a : Addr), κ[k]? = some c → As[k]? = some a → CellOk K G H As a c
  tab : Tb K G H
structure Places (K : PySem.W.Frag) (G : Hp) (As : List Addr) (σ : L2.St) (ρ : Rho) : Prop where
  len : σ.length = ρ.length
  ok : ∀ (i : Nat) (r : R), ρ[i]? = some (some r) → ∃ v, σ[i]? = some (some v) ∧ It K G As v r
structure Step (G H : Hp) (As : List Addr) (G' H' : Hp) (As' : List Addr) : Prop where
  ex : Ex G G'
  pre : ∃ bs, As' = As ++ bs
  new : ∀ a, a ∈ As' → a ∈ As ∨ H a = none
  fr : ∀ b o, b ∉ As → NT o → H b = some o → H' b = some o
  dom : ∀ b, H' b = none → H b = none
  gn : ∀ b, G b = none → G' b = none ∨ H b = none ∨ b ∈ As ∨ ∃ xs, H' b = some (.tup xs)
def Rv (K : PySem.W.Frag) (H0 G H : Hp) (As : List Addr) (v : V) : R → Prop
  | .f xs => ∃ p vs, v = .ref p ∧ H0 p = none ∧ G p = none ∧ p ∉ As ∧ H p = some (.lst vs) ∧ RpA K G vs xs
  | r => It K G As v r
section
variable {K : PySem.W.Frag} {G H G' H' G1 H1 H0 : Hp} {As As' As1 : List Addr} {σ : L2.St} {ρ : Rho} {κ κ' : Kap} {v : V} {r : R}
theorem Step.refl : Step G H As G H As := ⟨Ex.refl G, ⟨[], by simp⟩, fun _ h => .inl h, fun _ _ _ _ h => h, fun _ h => h, fun _ h => .inl h⟩
theorem Step.trans (a : Step G H As G1 H1 As1) (b : Step G1 H1 As1 G' H' As') : Step G H As G' H' As' where
  ex := a.ex.trans b.ex
  pre := by
    obtain ⟨x, ex⟩ := a.pre
    obtain ⟨y, ey⟩ := b.pre
    exact ⟨x ++ y, by rw [ey, ex, List.append_assoc]⟩
  new := fun c h => by
    rcases b.new c h with h | h
    · exact a.new c h
    · exact .inr (a.dom c h)
  fr := fun c o hc nt h => by
    refine b.fr c o (fun hm => ?_) nt (a.fr c o hc nt h)
    rcases a.new c hm with q | q
    · exact hc q
    · rw [h] at q; cases q
  dom := fun c h => a.dom c (b.dom c h)
  gn := fun c h => by
    rcases a.gn c h with q | q | q | ⟨ys, q⟩
    · rcases b.gn c q with z | z | z | z
      · exact .inl z
      · exact .inr (.inl (a.dom c z))
      · rcases a.new c z with y | y
        · exact .inr (.inr (.inl y))
        · exact .inr (.inl y)
      · exact .inr (.inr (.inr z))
    · exact .inr (.inl q)
    · exact .inr (.inr (.inl q))
    · by_cases m : c ∈ As1
      · rcases a.new c m with y | y
        · exact .inr (.inr (.inl y))
        · exact .inr (.inl y)
      · exact .inr (.inr (.inr ⟨ys, b.fr c _ m (fun _ z => nomatch z) q⟩))
theorem Step.gnU (s : Step G H As G' H' As') {D : Addr} {o u : HO} (h0 : H' D = some u) (hu : WO u) : ∀ b, G b = none → G' b = none ∨ H b = none ∨ b ∈ As ∨ ∃ xs, upd H' D o b = some (.tup xs) := fun b h => by
  rcases s.gn b h with z | z | z | ⟨ys, z⟩
  · exact .inl z
  · exact .inr (.inl z)
  · exact .inr (.inr (.inl z))
  · refine .inr (.inr (.inr ⟨ys, ?_⟩))
    rw [upd_ne (fun e => ?_)]
    · exact z
    · subst e
      rw [h0] at z
      exact hu.2.2 ys (Option.some.inj z)
theorem It.mono (e : Ex G G') (p : ∃ bs, As' = As ++ bs) (h : It K G As v r) : It K G' As' v r := by
  cases r with
  | d x => exact Rp.mono e x v h
  | c k =>
    obtain ⟨a, h1, h2⟩ := h
    obtain ⟨bs, rfl⟩ := p
    refine ⟨a, ?_, h2⟩
    rw [List.getElem?_append_left (List.getElem?_eq_some_iff.mp h1).1]
    exact h1
  | f xs => exact h
  | s ns =>
    obtain ⟨a, h1, h2⟩ := h
    exact ⟨a, h1, ex_sl e h2⟩
  | b ks =>
    obtain ⟨a, vs, h1, h2, h3, h4⟩ := h
    refine ⟨a, vs, h1, e _ _ h2, h3, fun i k hk => ?_⟩
    obtain ⟨c, e1, e2⟩ := h4 i k hk
    obtain ⟨bs, rfl⟩ := p
    exact ⟨c, by rw [List.getElem?_append_left (List.getElem?_eq_some_iff.mp e1).1]; exact e1, e2⟩
  | p ks =>
    obtain ⟨a, vs, h1, h2, h3, h4⟩ := h
    refine ⟨a, vs, h1, e _ _ h2, h3, fun i k hk => ?_⟩
    obtain ⟨c, e1, e2⟩ := h4 i k hk
    obtain ⟨bs, rfl⟩ := p
    exact ⟨c, by rw [List.getElem?_append_left (List.getElem?_eq_some_iff.mp e1).1]; exact e1, e2⟩
  | h es => exact ItH.mono e h
  | g es => exact ItG.mono e h
  | q ess =>
    obtain ⟨a, vs, h1, h2, h3⟩ := h
    exact ⟨a, vs, h1, e _ _ h2, Paired.mapP h3 fun _ _ z => ItG.mono e z⟩
  | o u =>
    obtain ⟨a, h1, h2⟩ := h
    exact ⟨a, h1, e _ _ h2⟩
theorem Mp.mono {kvs : List (Key × V)} {es : List (Key × R)} (e : Ex G G') (p : ∃ bs, As' = As ++ bs) (h : Mp K G As kvs es) : Mp K G' As' kvs es := by
  unfold Mp at h ⊢
  induction h with
  | nil => exact .nil
  | cons r _ ih => exact .cons ⟨r.1, r.2.mono e p⟩ ih
theorem Step.it (s : Step G H As G' H' As') (h : It K G As v r) : It K G' As' v r := h.mono s.ex s.pre
theorem Places.step (p : Places K G As σ ρ) (s : Step G H As G' H' As') : Places K G' As' σ ρ :=
  ⟨p.len, fun i r h => by
    obtain ⟨v, h1, h2⟩ := p.ok i r h
    exact ⟨v, h1, s.it h2⟩⟩
/-- the heap of what is known grows by a new object -/
theorem Cells.laid (c : Cells K G H As κ) {p : Addr} {o : HO} (hp : H p = none) : Cells K (upd G p o) (upd H p o) As κ where
  ext := c.ext.upd2
  len := c.len
  nd := c.nd
  tab := c.tab.laid hp
  al := fun a h => by
    obtain ⟨u, e⟩ := c.al a h
    exact ⟨u, by rw [upd_ne (ne_of_none e hp)]; exact e⟩
  ok := fun k x a h1 h2 => by
    have q := c.ok k x a h1 h2
    have eG : Ex G (upd G p o) := Ex.new (c.ext.free hp)
    cases x with
    | l ds =>
      obtain ⟨q1, vs, q2, q3⟩ := q
      have ne : a ≠ p := ne_of_none q2 hp
      exact ⟨by rw [upd_ne ne]; exact q1, vs, by rw [upd_ne ne]; exact q2, RpA.mono eG _ _ q3⟩
    | z x => exact Rp.mono eG _ _ q
    | k es => exact ItH.mono eG q
    | x u =>
      obtain ⟨q1, q2, q3⟩ := q
      have ne : a ≠ p := ne_of_none q2 hp
      exact ⟨by rw [upd_ne ne]; exact q1, by rw [upd_ne ne]; exact q2, q3⟩
    | m es =>
      obtain ⟨q1, vs, q2, q3⟩ := q
      have ne : a ≠ p := ne_of_none q2 hp
      exact ⟨by rw [upd_ne ne]; exact q1, vs, by rw [upd_ne ne]; exact q2, q3.mono eG ⟨[], by simp⟩⟩
/-- a new object that is not known for good -/
theorem Cells.fresh (c : Cells K G H As κ) {p : Addr} {o : HO} (hp : H p = none) : Cells K G (upd H p o) As κ where
  ext := c.ext.trans (Ex.new hp)
  len := c.len
  nd := c.nd
  tab := c.tab.put (wo_new hp)
  al := fun a h => by
    obtain ⟨u, e⟩ := c.al a h
    exact ⟨u, by rw [upd_ne (ne_of_none e hp)]; exact e⟩
  ok := fun k x a h1 h2 => by
    have q := c.ok k x a h1 h2
    cases x with
    | l ds =>
      obtain ⟨q1, vs, q2, q3⟩ := q
      have ne : a ≠ p := ne_of_none q2 hp
      exact ⟨q1, vs, by rw [upd_ne ne]; exact q2, q3⟩
    | z x => exact q
    | k es => exact q
    | x u =>
      obtain ⟨q1, q2, q3⟩ := q
      have ne : a ≠ p := ne_of_none q2 hp
      exact ⟨q1, by rw [upd_ne ne]; exact q2, q3⟩
    | m es =>
      obtain ⟨q1, vs, q2, q3⟩ := q
      have ne : a ≠ p := ne_of_none q2 hp
      exact ⟨q1, vs, by rw [upd_ne ne]; exact q2, q3⟩
theorem Cells.notin (c : Cells K G H As κ) {p : Addr} (hp : H p = none) : p ∉ As := fun hm => by
  obtain ⟨o, e⟩ := c.al p hm
  rw [hp] at e; cases e
theorem Step.laid (ext : Ex G H) {p : Addr} {o : HO} (hp : H p = none) : Step G H As (upd G p o) (upd H p o) As :=
  ⟨Ex.new (ext.free hp), ⟨[], by simp⟩, fun _ h => .inl h, fun b u _ _ e => by rw [upd_ne (ne_of_none e hp)]; exact e, fun b e => by
    by_cases q : b = p
    · subst q; exact hp
    · rw [upd_ne q] at e; exact e, fun b e => by
    by_cases q : b = p
    · subst q; exact .inr (.inl hp)
    · exact .inl (by rw [upd_ne q]; exact e)⟩
theorem Step.fresh {p : Addr} {o : HO} (hp : H p = none) : Step G H As G (upd H p o) As :=
  ⟨Ex.refl G, ⟨[], by simp⟩, fun _ h => .inl h, fun b u _ _ e => by rw [upd_ne (ne_of_none e hp)]; exact e, fun b e => by
    by_cases q : b = p
    · subst q; exact hp
    · rw [upd_ne q] at e; exact e, fun _ e => .inl e⟩
/-- what is known for good grows by an object that stands -/
theorem Cells.learn (c : Cells K G H As κ) {q : Addr} {o : HO} (g0 : G q = none) (nin : q ∉ As) (hq : H q = some o) (nt : NT o := by exact fun _ z => nomatch z) : Cells K (upd G q o) H As κ :=
  ⟨c.ext.learn hq, c.len, c.nd, c.al, fun k x a h1 h2 => by
    have w := c.ok k x a h1 h2
    have eG : Ex G (upd G q o) := Ex.new g0
    cases x with
    | l ds =>
      obtain ⟨w1, ws, w2, w3⟩ := w
      have ne : a ≠ q := fun e => nin (by rw [← e]; exact List.mem_of_getElem? h2)
      exact ⟨by rw [upd_ne ne]; exact w1, ws, w2, RpA.mono eG _ _ w3⟩
    | m es =>
      obtain ⟨w1, ws, w2, w3⟩ := w
      have ne : a ≠ q := fun e => nin (by rw [← e]; exact List.mem_of_getElem? h2)
      exact ⟨by rw [upd_ne ne]; exact w1, ws, w2, w3.mono eG ⟨[], by simp⟩⟩
    | z x => exact Rp.mono eG _ _ w
    | k es => exact ItH.mono eG w
    | x u =>
      obtain ⟨w1, w2⟩ := w
      have ne : a ≠ q := fun e => nin (by rw [← e]; exact List.mem_of_getElem? h2)
      exact ⟨by rw [upd_ne ne]; exact w1, w2⟩, c.tab.learn hq nt⟩
/-- a fresh list is let go: it is known for good -/
theorem settle (s : Step G1 H1 As1 G H As) (c : Cells K G H As κ) (p : Places K G As σ ρ) (h : Rv K H1 G H As v r) : ∃ G', Step G1 H1 As1 G' H As ∧ Cells K G' H As κ ∧ Places K G' As σ ρ ∧ It K G' As v r.st ∧ Ex G G' := by
  cases r with
  | f xs =>
    obtain ⟨q, vs, rfl, h0, g0, nin, hq, rp⟩ := h
    have eG : Ex G (upd G q (.lst vs)) := Ex.new g0
    refine ⟨upd G q (.lst vs), ⟨s.ex.trans eG, s.pre, s.new, s.fr, s.dom, fun b hb => ?_⟩, c.learn g0 nin hq, ⟨p.len, fun i r h => ?_⟩, .lst upd_same (RpA.mono eG _ _ rp), eG⟩
    · by_cases e : b = q
      · subst e; exact .inr (.inl h0)
      · rw [upd_ne e]; exact s.gn b hb
    · obtain ⟨v, h1, h2⟩ := p.ok i r h
      exact ⟨v, h1, h2.mono eG ⟨[], by simp⟩⟩
  | d x => exact ⟨G, s, c, p, h, Ex.refl G⟩
  | c k => exact ⟨G, s, c, p, h, Ex.refl G⟩
  | s ns => exact ⟨G, s, c, p, h, Ex.refl G⟩
  | b ks => exact ⟨G, s, c, p, h, Ex.refl G⟩
  | p ks => exact ⟨G, s, c, p, h, Ex.refl G⟩
  | h ks => exact ⟨G, s, c, p, h, Ex.refl G⟩
  | g ks => exact ⟨G, s, c, p, h, Ex.refl G⟩
  | q ks => exact ⟨G, s, c, p, h, Ex.refl G⟩
  | o u => exact ⟨G, s, c, p, h, Ex.refl G⟩
/-- a cell is let go: what it holds is known for good -/
theorem freeze {k : Nat} {ds : List PyData} (c : Cells K G H As κ) (h : It K G As v (.c k)) (hk : κ[k]? = some (.l ds)) :
    ∃ G', Step G H As G' H As ∧ Cells K G' H As (κ.set k (.z (.list ds))) ∧ Rp K G' v (.list ds) := by
  obtain ⟨a, h1, rfl⟩ := h
  obtain ⟨g0, vs, hq, rp⟩ := c.ok k _ a hk h1
  have eG : Ex G (upd G a (.lst vs)) := Ex.new g0
  have hm : a ∈ As := List.mem_of_getElem? h1
  refine ⟨upd G a (.lst vs), ⟨eG, ⟨[], by simp⟩, fun _ h => .inl h, fun _ _ _ _ h => h, fun _ h => h, fun b hb => ?_⟩, ⟨c.ext.learn hq, by rw [List.length_set]; exact c.len, c.nd, c.al, fun j x b e1 e2 => ?_, c.tab.learn hq (wo_lst vs).1⟩, .lst upd_same (RpA.mono eG _ _ rp)⟩
  · by_cases e : b = a
    · subst e; exact .inr (.inr (.inl hm))
    · exact .inl (by rw [upd_ne e]; exact hb)
  · by_cases hj : j = k
    · subst hj
      rw [h1] at e2; cases e2
      rw [List.getElem?_set_self (List.getElem?_eq_some_iff.mp hk).1] at e1
      cases e1
      exact Rp.lst upd_same (RpA.mono eG _ _ rp)
    · rw [List.getElem?_set_ne (fun z => hj z.symm)] at e1
      have w := c.ok j x b e1 e2
      have ne : b ≠ a := fun z => hj (by
        subst z
        obtain ⟨l1, q1⟩ := List.getElem?_eq_some_iff.mp e2
        obtain ⟨l2, q2⟩ := List.getElem?_eq_some_iff.mp h1
        exact (List.getElem_inj c.nd).mp (q1.trans q2.symm))
      cases x with
      | l ds' =>
        obtain ⟨w1, ws, w2, w3⟩ := w
        exact ⟨by rw [upd_ne ne]; exact w1, ws, w2, RpA.mono eG _ _ w3⟩
      | m es =>
        obtain ⟨w1, ws, w2, w3⟩ := w
        exact ⟨by rw [upd_ne ne]; exact w1, ws, w2, w3.mono eG ⟨[], by simp⟩⟩
      | z x => exact Rp.mono eG _ _ w
      | k es => exact ItH.mono eG w
      | x u => exact ⟨by rw [upd_ne ne]; exact w.1, w.2⟩
/-- a cell holds another thing now -/
theorem Cells.put {k : Nat} {a : Addr} {c1 c2 : Cell} {o : HO} (c : Cells K G H As κ) (hk : κ[k]? = some c1) (h1 : As[k]? = some a) (g0 : G a = none) (hw : ∀ u, H a = some u → WO u) (new : CellOk K G (upd H a o) As a c2) : Cells K G (upd H a o) As (κ.set k c2) := by
  refine ⟨c.ext.mut g0, by rw [List.length_set]; exact c.len, c.nd, fun b hb => ?_, fun j x b e1 e2 => ?_, c.tab.put hw⟩
  · by_cases e : b = a
    · subst e; exact ⟨_, upd_same⟩
    · rw [upd_ne e]; exact c.al b hb
  · by_cases hj : j = k
    · subst hj
      rw [h1] at e2; cases e2
      rw [List.getElem?_set_self (List.getElem?_eq_some_iff.mp hk).1] at e1
      cases e1
      exact new
    · rw [List.getElem?_set_ne (fun z => hj z.symm)] at e1
      have w := c.ok j x b e1 e2
      have ne : b ≠ a := fun z => hj (by
        subst z
        obtain ⟨l1, q1⟩ := List.getElem?_eq_some_iff.mp e2
        obtain ⟨l2, q2⟩ := List.getElem?_eq_some_iff.mp h1
        exact (List.getElem_inj c.nd).mp (q1.trans q2.symm))
      cases x with
      | l ds' =>
        obtain ⟨w1, ws', w2, w3⟩ := w
        exact ⟨w1, ws', by rw [upd_ne ne]; exact w2, w3⟩
      | m es =>
        obtain ⟨w1, ws', w2, w3⟩ := w
        exact ⟨w1, ws', by rw [upd_ne ne]; exact w2, w3⟩
      | z x => exact w
      | k es => exact w
      | x u => exact ⟨w.1, by rw [upd_ne ne]; exact w.2.1, w.2.2⟩
/-- a cell's list is another one now -/
theorem Cells.write {k : Nat} {a : Addr} {ds es : List PyData} {vs : List V} (c : Cells K G H As κ) (hk : κ[k]? = some (.l ds)) (h1 : As[k]? = some a) (hv : RpA K G vs es) : Cells K G (upd H a (.lst vs)) As (κ.set k (.l es)) := by
  obtain ⟨g0, ws, hq, rp⟩ := c.ok k _ a hk h1
  exact c.put hk h1 g0 (wo_at hq (wo_lst ws)) ⟨g0, vs, upd_same, hv⟩
theorem Step.write {a : Addr} {o u : HO} (hm : a ∈ As) (hq : H a = some u) (hw : WO u := by first | exact wo_lst _ | exact wo_dK _ | exact wo_frz _ _) : Step G H As G (upd H a o) As :=
  ⟨Ex.refl G, ⟨[], by simp⟩, fun _ h => .inl h, fun b u hb _ e => by
    rw [upd_ne (fun z => hb (by rw [z]; exact hm))]; exact e, fun b e => by
    by_cases q : b = a
    · subst q; rw [upd_same] at e; cases e
    · rw [upd_ne q] at e; exact e, fun _ e => .inl e⟩
/-- a new cell -/
theorem Cells.moreC {q : Addr} {o : HO} {c2 : Cell} (c : Cells K G H As κ) (nin : q ∉ As) (hq : H q = some o) (new : CellOk K G H (As ++ [q]) q c2) : Cells K G H (As ++ [q]) (κ ++ [c2]) where
  ext := c.ext
  tab := c.tab
  len := by rw [List.length_append, List.length_append, c.len]; rfl
  nd := by
    rw [List.nodup_append]
    refine ⟨c.nd, by simp, fun x hx y hy e => nin ?_⟩
    rw [List.mem_singleton] at hy
    rw [← hy, ← e]; exact hx
  al := fun a h => by
    rcases List.mem_append.mp h with h | h
    · exact c.al a h
    · rw [List.mem_singleton] at h
      subst h; exact ⟨_, hq⟩
  ok := fun k x a e1 e2 => by
    by_cases hk : k < κ.length
    · rw [List.getElem?_append_left hk] at e1
      rw [List.getElem?_append_left (by rw [c.len]; exact hk)] at e2
      have w := c.ok k x a e1 e2
      cases x with
      | l ds => exact w
      | z y => exact w
      | k es => exact w
      | x u => exact w
      | m es =>
        obtain ⟨w1, ws, w2, w3⟩ := w
        exact ⟨w1, ws, w2, w3.mono (Ex.refl G) ⟨[q], rfl⟩⟩
    · have hk' : k = κ.length := by
        have := (List.getElem?_eq_some_iff.mp e1).1
        rw [List.length_append] at this
        have z : ([c2] : List Cell).length = 1 := rfl
        omega
      subst hk'
      rw [List.getElem?_append_right (Nat.le_refl _), Nat.sub_self] at e1
      rw [← c.len, List.getElem?_append_right (Nat.le_refl _), Nat.sub_self] at e2
      cases e1
      cases e2
      exact new
theorem Cells.more {q : Addr} {ds : List PyData} {vs : List V} (c : Cells K G H As κ) (g0 : G q = none) (nin : q ∉ As) (hq : H q = some (.lst vs)) (rp : RpA K G vs ds) : Cells K G H (As ++ [q]) (κ ++ [.l ds]) := c.moreC nin hq ⟨g0, vs, hq, rp⟩
/-- a value as it is seen: its items are known for good -/
def Vw (K : PySem.W.Frag) (G H : Hp) (v : V) : PyData → Prop
  | .list ds => ∃ a vs, v = .ref a ∧ H a = some (.lst vs) ∧ RpA K G vs ds
  | x => Rp K G v x
theorem Vw.of (e : Ex G H) {x : PyData} (h : Rp K G v x) : Vw K G H v x := by
  cases h with
  | non => exact .non
  | bl b => exact .bl b
  | int i => exact .int i
  | str z => exact .str z
  | lst h1 h2 => exact ⟨_, _, rfl, e _ _ h1, h2⟩
  | tup h1 h2 => exact .tup h1 h2
theorem Vw.rp (e : Ex G H) : ∀ {x : PyData}, Vw K G H v x → Rp K H v x
  | .none, h => Rp.mono e _ _ h
  | .bool _, h => Rp.mono e _ _ h
  | .int _, h => Rp.mono e _ _ h
  | .str _, h => Rp.mono e _ _ h
  | .list _, h => by
    obtain ⟨a, vs, rfl, h1, h2⟩ := h
    exact .lst h1 (RpA.mono e _ _ h2)
  | .tuple _, h => Rp.mono e _ _ h
  | .dict _, h => Rp.mono e _ _ h
theorem Vw.tup (e : Ex G H) {ds : List PyData} (h : Vw K G H v (.tuple ds)) : ∃ a vs, v = .ref a ∧ SqT K H a vs ∧ RpA K G vs ds := by
  have h : Rp K G v (.tuple ds) := h
  cases h with
  | tup h1 h2 => exact ⟨_, _, rfl, sqt_of (e _ _ h1), h2⟩
theorem It.vw (c : Cells K G H As κ) (h : It K G As v r) {x : PyData} (e : val κ r = some x) : Vw K G H v x := by
  cases r with
  | d y =>
    cases e
    exact Vw.of c.ext h
  | f xs => exact h.elim
  | s ns => cases e
  | b ks => cases e
  | p ks => cases e
  | h ks => cases e
  | g ks => cases e
  | q ks => cases e
  | o u => cases e
  | c k =>
    obtain ⟨a, h1, rfl⟩ := h
    unfold val at e
    simp only at e
    cases q : κ[k]? with
    | none => rw [q] at e; cases e
    | some cc =>
      rw [q] at e
      have w := c.ok k cc a q h1
      cases cc with
      | l ds =>
        cases e
        obtain ⟨_, vs, w2, w3⟩ := w
        exact ⟨a, vs, rfl, w2, w3⟩
      | m es => cases e
      | k es => cases e
      | x u => cases e
      | z y =>
        cases e
        exact Vw.of c.ext w
end
/-- a reading over plain data: an expression, a test, arguments, a statement, a target -/
abbrev DTE := Rho → Kap → (R → Kap → Prop) → Prop
abbrev DTT := Rho → Kap → (Bool → Kap → Prop) → Prop
abbrev DTA := Rho → Kap → (List R → Kap → Prop) → Prop
structure DEnds where
  nx : Rho → Kap → Prop
  rt : R → Kap → Prop
  bk : Rho → Kap → Prop := fun _ _ => False
  ct : Rho → Kap → Prop := fun _ _ => False
abbrev DTS := DEnds → Rho → Kap → Prop
abbrev DTG := R → Rho → Kap → (Rho → Kap → Prop) → Prop
def DE (X : Cx) (e : Expr) (w : DTE) : Prop := ∃ t, PE X e t ∧ ∀ (G H : Hp) (As : List Addr) (σ : L2.St) (ρ : Rho) (κ : Kap) (P : R → Kap → Prop) (Q : VK), Cells X.K G H As κ → Places X.K G As σ ρ → w ρ κ P →
  (∀ v r G' H' As' κ', Step G H As G' H' As' → Cells X.K G' H' As' κ' → Places X.K G' As' σ ρ → Rv X.K H G' H' As' v r → P r κ' → Q v H') → t σ H Q
def DT (X : Cx) (e : Expr) (w : DTT) : Prop := ∃ t, PT X e t ∧ ∀ (G H : Hp) (As : List Addr) (σ : L2.St) (ρ : Rho) (κ : Kap) (P : Bool → Kap → Prop) (Q : Bool → Hp → Prop), Cells X.K G H As κ → Places X.K G As σ ρ → w ρ κ P →
  (∀ b G' H' As' κ', Step G H As G' H' As' → Cells X.K G' H' As' κ' → Places X.K G' As' σ ρ → P b κ' → Q b H') → t σ H Q
def DW (X : Cx) (e : Expr) (w : DTT) : Prop := ∃ t, PW X e t ∧ ∀ (G H : Hp) (As : List Addr) (σ : L2.St) (ρ : Rho) (κ : Kap) (P : Bool → Kap → Prop) (Q : Bool → Hp → Prop), Cells X.K G H As κ → Places X.K G As σ ρ → w ρ κ P →
  (∀ b G' H' As' κ', Step G H As G' H' As' → Cells X.K G' H' As' κ' → Places X.K G' As' σ ρ → P b κ' → Q b H') → t σ H Q
def DA (X : Cx) (es : List Expr) (w : DTA) : Prop := ∃ t, PA X es t ∧ ∀ (G H : Hp) (As : List Addr) (σ : L2.St) (ρ : Rho) (κ : Kap) (P : List R → Kap → Prop) (Q : List V → Hp → Prop), Cells X.K G H As κ → Places X.K G As σ ρ → w ρ κ P →
  (∀ vs rs G' H' As' κ', Step G H As G' H' As' → Cells X.K G' H' As' κ' → Places X.K G' As' σ ρ → Paired (It X.K G' As') vs rs → rs.length = es.length → P rs κ' → Q vs H') → t σ H Q
/-- what a statement reaches -/
structure Reach (K : PySem.W.Frag) (G H : Hp) (As : List Addr) (E : DEnds) (D : Ends) : Prop where
  nx : ∀ σ' ρ' G' H' As' κ', Step G H As G' H' As' → Cells K G' H' As' κ' → Places K G' As' σ' ρ' → E.nx ρ' κ' → D.nx σ' H'
  bk : ∀ σ' ρ' G' H' As' κ', Step G H As G' H' As' → Cells K G' H' As' κ' → Places K G' As' σ' ρ' → E.bk ρ' κ' → D.bk σ' H'
  ct : ∀ σ' ρ' G' H' As' κ', Step G H As G' H' As' → Cells K G' H' As' κ' → Places K G' As' σ' ρ' → E.ct ρ' κ' → D.ct σ' H'
  rt : ∀ v r G' H' As' κ', Step G H As G' H' As' → Cells K G' H' As' κ' → Rv K H G' H' As' v r → E.rt r κ' → D.rt v H'
def DS (X : Cx) (st : Stmt) (w : DTS) : Prop := ∃ t, PS X st t ∧ ∀ (G H : Hp) (As : List Addr) (σ : L2.St) (ρ : Rho) (κ : Kap) (E : DEnds) (D : Ends), Cells X.K G H As κ → Places X.K G As σ ρ → w E ρ κ → Reach X.K G H As E D → t D σ H
def DSs (X : Cx) (sts : List Stmt) (w : DTS) : Prop := ∃ t, PSs X sts t ∧ ∀ (G H : Hp) (As : List Addr) (σ : L2.St) (ρ : Rho) (κ : Kap) (E : DEnds) (D : Ends), Cells X.K G H As κ → Places X.K G As σ ρ → w E ρ κ → Reach X.K G H As E D → t D σ H
section
variable {K : PySem.W.Frag} {G H G1 H1 : Hp} {As As1 : List Addr} {E : DEnds} {D : Ends}
theorem Rv.back {K : PySem.W.Frag} {G0 H0 G1 H1 G H : Hp} {As0 As1 As : List Addr} {v : V} {r : R} (s : Step G0 H0 As0 G1 H1 As1) (h : Rv K H1 G H As v r) : Rv K H0 G H As v r := by
  cases r with
  | f xs =>
    obtain ⟨p, vs, e, h0, q⟩ := h
    exact ⟨p, vs, e, s.dom p h0, q⟩
  | d x => exact h
  | c k => exact h
  | s ns => exact h
  | b ks => exact h
  | p ks => exact h
  | h ks => exact h
  | g ks => exact h
  | q ks => exact h
  | o u => exact h
theorem Reach.step (r : Reach K G H As E D) (s : Step G H As G1 H1 As1) : Reach K G1 H1 As1 E D :=
  ⟨fun a b c d e f x => r.nx a b c d e f (s.trans x), fun a b c d e f x => r.bk a b c d e f (s.trans x), fun a b c d e f x => r.ct a b c d e f (s.trans x), fun a b c d e f x y z => r.rt a b c d e f (s.trans x) y (z.back s)⟩
end
def wVar (i : Nat) : DTE := fun ρ κ P => match ρ[i]? with
  | some (some r) => P r κ
  | _ => False
def wC (x : PyData) : DTE := fun _ κ P => P (.d x) κ
section
variable {X : Cx}
theorem de_var (i : Nat) {x : Str} {pos : Pos} (hN : X.N[i]? = some x := by rfl) (hv : Vis X.env.scope x := by first | exact Or.inl rfl | exact Or.inr (Or.inl rfl) | exact Or.inr (Or.inr rfl)) (hd : (x == ("__debug__" : Str)) = false := by decide)
    (hcd : (x == ("__classdict__" : Str)) = false := by decide) : DE X (.Name x pos) (wVar i) := by
  refine ⟨_, pe_var hN hv hd hcd, fun G H As σ ρ κ P Q c p w k => ?_⟩
  unfold wVar at w
  split at w
  · rename_i r hr
    obtain ⟨v, h1, h2⟩ := p.ok i r hr
    refine ⟨v, h1, k v r G H As κ Step.refl c p ?_ w⟩
    cases r with
    | f xs => exact h2.elim
    | d x => exact h2
    | c k => exact h2
    | s ns => exact h2
    | b ks => exact h2
    | p ks => exact h2
    | h ks => exact h2
    | g ks => exact h2
    | q ks => exact h2
    | o u => exact h2
  · exact w.elim
theorem de_c {e : Expr} {v : V} {x : PyData} (h : PE X e (tC v)) (hx : ∀ G : Hp, Rp X.K G v x) : DE X e (wC x) :=
  ⟨_, h, fun G H As σ ρ κ P Q c p w k => k v (.d x) G H As κ Step.refl c p (hx G) w⟩
theorem de_int {i : Int} {j : Nat} {pos : Pos} : DE X (.Constant (.int i) j pos) (wC (.int i)) := de_c pe_int fun _ => .int i
theorem de_bl {b : Bool} {j : Nat} {pos : Pos} : DE X (.Constant (.bool b) j pos) (wC (.bool b)) := de_c pe_bl fun _ => .bl b
theorem de_non {j : Nat} {pos : Pos} : DE X (.Constant .none j pos) (wC .none) := de_c pe_non fun _ => .non
theorem de_str {x : Str} {j : Nat} {pos : Pos} : DE X (.Constant (.str x) j pos) (wC (.str x)) := de_c pe_str fun _ => .str x
end
/-- what an operation hands back: a value that is known, a new list, a new tuple -/
inductive Out where
  | v (x : PyData)
  | n (xs : List PyData)
  | t (xs : List PyData)
def Out.r : Out → R
  | .v x => .d x
  | .n xs => .f xs
  | .t xs => .d (.tuple xs)
def OutK (K : PySem.W.Frag) (G H : Hp) (Q : VK) : Out → Prop
  | .v x => ∀ w, Rp K G w x → Q w H
  | .n xs => ∀ p vs, H p = none → RpA K G vs xs → Q (.ref p) (upd H p (.lst vs))
  | .t xs => (∀ p vs, H p = none → RpA K G vs xs → Q (.ref p) (upd H p (.tup vs))) ∧ ∀ w, Rp K G w (.tuple xs) → Q w H
/-- an option that must be there -/
def Opt {α : Type} (o : Option α) (k : α → Prop) : Prop := match o with
  | some a => k a
  | none => False
theorem Opt.ex {α : Type} {o : Option α} {k : α → Prop} (h : Opt o k) : ∃ a, o = some a ∧ k a := by
  cases o with
  | none => exact h.elim
  | some a => exact ⟨a, rfl, h⟩
section
variable {K : PySem.W.Frag} {G H G0 H0 : Hp} {As As0 : List Addr} {σ : L2.St} {ρ : Rho} {κ : Kap} {Q : VK} {P : R → Kap → Prop}
theorem out_ok (s : Step G0 H0 As0 G H As) (c : Cells K G H As κ) (p : Places K G As σ ρ) (o : Out) (h : P o.r κ)
    (k : ∀ v r G' H' As' κ', Step G0 H0 As0 G' H' As' → Cells K G' H' As' κ' → Places K G' As' σ ρ → Rv K H0 G' H' As' v r → P r κ' → Q v H') : OutK K G H Q o := by
  cases o with
  | v x => exact fun w hw => k w (.d x) G H As κ s c p hw h
  | n xs => exact fun q vs hq hv => k _ (.f xs) G _ As κ (s.trans (Step.fresh hq)) (c.fresh hq) p ⟨q, vs, rfl, s.dom q hq, c.ext.free hq, c.notin hq, upd_same, hv⟩ h
  | t xs =>
    refine ⟨fun q vs hq hv => k _ (.d (.tuple xs)) _ _ As κ (s.trans (Step.laid c.ext hq)) (c.laid hq) (p.step (Step.laid c.ext hq)) ?_ h, fun w hw => k w (.d (.tuple xs)) G H As κ s c p hw h⟩
    exact Rp.tup upd_same (RpA.mono (Ex.new (c.ext.free hq)) _ _ hv)
end
def OpD (K : PySem.W.Frag) (r2 : R2) (g : PyData → PyData → Option Out) : Prop := ∀ (G H : Hp) (v u : V) (x y : PyData) (o : Out) (Q : VK), Ex G H → Vw K G H v x → Vw K G H u y → g x y = some o → OutK K G H Q o → r2 v u H Q
def UnD (K : PySem.W.Frag) (r1 : V → Hp → VK → Prop) (g : PyData → Option Out) : Prop := ∀ (G H : Hp) (v : V) (x : PyData) (o : Out) (Q : VK), Ex G H → Vw K G H v x → g x = some o → OutK K G H Q o → r1 v H Q
def CallD (K : PySem.W.Frag) (rc : List V → Hp → VK → Prop) (g : List PyData → Option Out) : Prop := ∀ (G H : Hp) (vs : List V) (xs : List PyData) (o : Out) (Q : VK), Ex G H → Paired (Vw K G H) vs xs → g xs = some o → OutK K G H Q o → rc vs H Q
def wBin (g : PyData → PyData → Option Out) (wa wb : DTE) : DTE := fun ρ κ P => wa ρ κ fun r1 κ1 => wb ρ κ1 fun r2 κ2 => Opt (val κ2 r1.st) fun x => Opt (val κ2 r2.st) fun y => Opt (g x y) fun o => P o.r κ2
def wUn (g : PyData → Option Out) (wa : DTE) : DTE := fun ρ κ P => wa ρ κ fun r1 κ1 => Opt (val κ1 r1.st) fun x => Opt (g x) fun o => P o.r κ1
def vals (κ : Kap) : List R → Option (List PyData)
  | [] => some []
  | r :: rs => match val κ r, vals κ rs with
    | some x, some xs => some (x :: xs)
    | _, _ => none
def wCB (g : List PyData → Option Out) (wa : DTA) : DTE := fun ρ κ P => wa ρ κ fun rs κ1 => Opt (vals κ1 rs) fun xs => Opt (g xs) fun o => P o.r κ1
section
variable {X : Cx} {a b : Expr} {wa wb : DTE} {pos : Pos}
theorem bin_reads {ta tb : TE} {r2 : R2} {g : PyData → PyData → Option Out} (hg : OpD X.K r2 g)
    (ha : ∀ (G H : Hp) (As : List Addr) (σ : L2.St) (ρ : Rho) (κ : Kap) (P : R → Kap → Prop) (Q : VK), Cells X.K G H As κ → Places X.K G As σ ρ → wa ρ κ P → (∀ v r G' H' As' κ', Step G H As G' H' As' → Cells X.K G' H' As' κ' → Places X.K G' As' σ ρ → Rv X.K H G' H' As' v r → P r κ' → Q v H') → ta σ H Q)
    (hb : ∀ (G H : Hp) (As : List Addr) (σ : L2.St) (ρ : Rho) (κ : Kap) (P : R → Kap → Prop) (Q : VK), Cells X.K G H As κ → Places X.K G As σ ρ → wb ρ κ P → (∀ v r G' H' As' κ', Step G H As G' H' As' → Cells X.K G' H' As' κ' → Places X.K G' As' σ ρ → Rv X.K H G' H' As' v r → P r κ' → Q v H') → tb σ H Q)
    (G H : Hp) (As : List Addr) (σ : L2.St) (ρ : Rho) (κ : Kap) (P : R → Kap → Prop) (Q : VK) (c : Cells X.K G H As κ) (p : Places X.K G As σ ρ) (w : wBin g wa wb ρ κ P)
    (k : ∀ v r G' H' As' κ', Step G H As G' H' As' → Cells X.K G' H' As' κ' → Places X.K G' As' σ ρ → Rv X.K H G' H' As' v r → P r κ' → Q v H') : tOp r2 ta tb σ H Q := by
  refine ha G H As σ ρ κ _ _ c p w fun v1 r1 G1 H1 As1 κ1 s1 c1 p1 i1 w1 => ?_
  obtain ⟨G1', s1', c1', p1', i1', _⟩ := settle s1 c1 p1 i1
  refine hb G1' H1 As1 σ ρ κ1 _ _ c1' p1' w1 fun v2 r2 G2 H2 As2 κ2 s2 c2 p2 i2 w2 => ?_
  obtain ⟨G2', s2', c2', p2', i2', _⟩ := settle s2 c2 p2 i2
  obtain ⟨x, ex, w2⟩ := w2.ex
  obtain ⟨y, ey, w2⟩ := w2.ex
  obtain ⟨o, eo, w2⟩ := w2.ex
  exact hg G2' H2 v1 v2 x y o Q c2'.ext ((s2'.it i1').vw c2' ex) (i2'.vw c2' ey) eo (out_ok (s1'.trans s2') c2' p2' o w2 k)
theorem de_op {op : Operator} {r2 : R2} {g : PyData → PyData → Option Out} (ho : OpR X (binaryOp op) r2) (hg : OpD X.K r2 g) (ha : DE X a wa) (hb : DE X b wb) : DE X (.BinOp a op b pos) (wBin g wa wb) := by
  obtain ⟨ta, pa, ha⟩ := ha
  obtain ⟨tb, pb, hb⟩ := hb
  exact ⟨_, pe_op ho pa pb, bin_reads hg ha hb⟩
theorem de_cmp {op : CmpOp} {r2 : R2} {g : PyData → PyData → Option Out} (ho : OpR X (compareOp op) r2) (hg : OpD X.K r2 g) (ha : DE X a wa) (hb : DE X b wb) (hm : behindInMarks op b = false) : DE X (.Compare a [op] [b] pos) (wBin g wa wb) := by
  obtain ⟨ta, pa, ha⟩ := ha
  obtain ⟨tb, pb, hb⟩ := hb
  exact ⟨_, pe_cmpR ho pa pb hm, bin_reads hg ha hb⟩
theorem de_ix {r2 : R2} {g : PyData → PyData → Option Out} (ho : IxR X r2) (hg : OpD X.K r2 g) (ha : DE X a wa) (hb : DE X b wb) (hs : PlainIx b) : DE X (.Subscript a b pos) (wBin g wa wb) := by
  obtain ⟨ta, pa, ha⟩ := ha
  obtain ⟨tb, pb, hb⟩ := hb
  exact ⟨_, pe_ix ho pa pb hs, bin_reads hg ha hb⟩
theorem de_un {op : UnaryOp} {r1 : V → Hp → VK → Prop} {g : PyData → Option Out} (ho : UnR X (unaryOp op) r1) (hg : UnD X.K r1 g) (ha : DE X a wa) : DE X (.UnaryOp op a pos) (wUn g wa) := by
  obtain ⟨ta, pa, ha⟩ := ha
  refine ⟨_, pe_un ho pa, fun G H As σ ρ κ P Q c p w k => ?_⟩
  refine ha G H As σ ρ κ _ _ c p w fun v1 r1 G1 H1 As1 κ1 s1 c1 p1 i1 w1 => ?_
  obtain ⟨G1', s1', c1', p1', i1', _⟩ := settle s1 c1 p1 i1
  obtain ⟨x, ex, w2⟩ := w1.ex
  obtain ⟨o, eo, w2⟩ := w2.ex
  exact hg G1' H1 v1 x o Q c1'.ext (i1'.vw c1' ex) eo (out_ok s1' c1' p1' o w2 k)
end
end DL
namespace DL
open PySem PySem.Spec PyProof.Rows L2
/-- room, and nobody around who makes a text -/
structure RoomG (k : Nat) (A : Around) : Prop extends Room k A where
  gu : A.guards = some []
theorem RoomG.monoG {j k : Nat} {A : Around} (r : RoomG k A) (h : j ≤ k) : RoomG j A := ⟨r.toRoom.mono h, r.gu⟩
theorem guards_deeper {A : Around} {env : Env} (h : A.guards = some []) : (A.deeper env).guards = some [] := by
  obtain ⟨hd, d, fr, gs, u⟩ := A
  first
    | exact h
    | simpa [Around.deeper] using h
theorem RoomG.deeperG {k : Nat} {A : Around} (r : RoomG (k + 1) A) (env : Env) : RoomG k (A.deeper env) := ⟨r.toRoom.deeper env, guards_deeper r.gu⟩
theorem room_callerG {k : Nat} (h : Room k callerA) : RoomG k callerA := ⟨h, rfl⟩
/-- a def's promise, called where nobody makes a text -/
structure FnG (P : Program) (w : World) (K : PySem.W.Frag) (mg : Str → Option Value) (base : Heap) (CX : CXT) (k : Nat) (f : Addr) (fd : FuncData) (ps : List Str) (sp : Sp) : Prop where
  len : ∀ vs H Q E, sp vs H Q E → vs.length = ps.length
  go : ∀ (A : Around) (outer : List Env) (s : Shared) (H : Hp) (args : Args) (us : List Value) (vs : List V) (Q : VK) (E : XK), RoomG k A → Env0 P w K mg base A outer s H → BindsTo s fd args (ps.zip us) → Vals vs us → sp vs H Q E → codeAny (model P w) A (.call (.ref f) args) (CR CX outer P w H s Q E) s
theorem FnG.mono {P : Program} {w : World} {K : PySem.W.Frag} {mg : Str → Option Value} {base : Heap} {CX : CXT} {j k : Nat} {f : Addr} {fd : FuncData} {ps : List Str} {sp : Sp} (F : FnG P w K mg base CX j f fd ps sp) (h : j ≤ k) : FnG P w K mg base CX k f fd ps sp :=
  ⟨F.len, fun A outer s H args us vs Q E r => F.go A outer s H args us vs Q E (r.monoG h)⟩
section
variable {X : Cx} {CX : CXT} {k n : Nat} {f : Addr} {fd : FuncData} {ps ks : List Str} {sp : Sp} {E : XK} {x : Str} {p pos : Pos} {e : Expr} {es : List Expr} {t tk : TA}
/-- what a call leaves in the body that called -/
theorem ends_of {pins : List (Addr × Obj)} {σ : L2.St} {H : Hp} {s s' : Shared} {Q : VK} {r : Result} (hx : Passes CX X E) (I : L2.Inv X pins σ H s) (h : CR CX X.stack X.prog X.w H s Q E r s') : match r with
  | .ok (.ret u) => EP X pins σ Q u s'
  | .ok _ => False
  | .error e => X.xe e s' := by
  cases r with
  | error e => exact hx pins σ H s e s' I h
  | ok fl =>
    cases fl with
    | ret u => exact I.after h
    | _ => exact h.elim
/-- f(e, ..) -/
theorem pe_callG {ds : List Value} {dvs : List V} (F : FnG X.prog X.w X.K X.mg X.base CX k f fd ps sp) (hr : RoomG k X.A) (hg : Gl X x) (hm : X.mg x = some (.ref f)) (hk : PySem.W.keepIn X.K (.ref f) = true) (hb : Binds X.K fd ps ds) (hd : Vals dvs ds) (hx : Passes CX X E) (ha : PA X (e :: es) t)
    (hdb : (x == ("__debug__" : Str)) = false) (he : starEach (e :: es) X.env = (false, eval e X.env) :: starEach es X.env) (hpl : (backTo pos (starEach es X.env)).any (·.1) = false) : PE X (.Call (.Name x p) (e :: es) [] pos) (tCall sp dvs E t) := by
  constructor
  intro pins s σ H Q I h
  apply wpAny_Call_Name_kw
  apply ld_glob I hg hm ?_ hdb
  apply PySem.W.callWith_K (h₀ := X.base) I.ok.mod.kin hk ?_ he hpl
  apply thn (ha.run pos pins s σ H _ I h)
  rintro us s1 ⟨vs, H1, I1, r, q⟩
  have rr : Vals (vs ++ dvs) (us ++ ds) := r.append hd
  have ln : (us ++ ds).length = ps.length := rr.length.symm.trans (F.len _ _ _ _ q)
  refine ⟨I1.kIn, wpAny_call (codeAny_mono (F.go X.A X.stack s1 H1 ⟨us, []⟩ _ _ Q E hr I1.env0 (hb s1 us I1.kIn ln) rr q) fun r s' z => ?_)⟩
  have w := ends_of hx I1 z
  cases r with
  | error _ => exact w
  | ok fl => cases fl <;> exact w
/-- by place and by name -/
theorem run_namesG {pins : List (Addr × Obj)} {σ : L2.St} {H : Hp} {s : Shared} {Q : VK} {us ws : List Value} {vs zs : List V} {g : List Value → List Value → List Value} {gV : List V → List V → List V} (F : FnG X.prog X.w X.K X.mg X.base CX k f fd ps sp) (hr : RoomG k X.A) (hb : KBn X.K fd ps n ks g gV) (hx : Passes CX X E)
    (I : L2.Inv X pins σ H s) (r : Vals vs us) (rz : Vals zs ws) (l1 : vs.length = n) (l2 : zs.length = ks.length) (h : sp (gV vs zs) H Q E) : wpAny (model X.prog X.w) X.A (call (.ref f) us (ks.zip ws)) (EP X pins σ Q) X.xe s := by
  apply wpAny_call
  apply codeAny_mono (F.go X.A X.stack s H ⟨us, ks.zip ws⟩ _ _ Q E hr I.env0 (hb.to s us ws I.kIn (r.length.symm.trans l1) (rz.length.symm.trans l2)) (hb.rel r rz) h)
  intro r s' z
  have w := ends_of hx I z
  cases r with
  | error _ => exact w
  | ok fl => cases fl <;> exact w
theorem pe_callN0G {kws : List Keyword} {g : List Value → List Value → List Value} {gV : List V → List V → List V} (F : FnG X.prog X.w X.K X.mg X.base CX k f fd ps sp) (hr : RoomG k X.A) (hg : Gl X x) (hm : X.mg x = some (.ref f)) (hk : PySem.W.keepIn X.K (.ref f) = true) (hb : KBn X.K fd ps 0 ks g gV) (hx : Passes CX X E)
    (hkw : PK X kws tk) (hall : (backToKw pos (keywordEach kws X.env)).all (·.1.isSome) = true) (hks : (backToKw pos (keywordEach kws X.env)).filterMap (·.1) = ks) (hdb : (x == ("__debug__" : Str)) = false)
    (hpl : ((backTo pos (starEach [] X.env)).any (·.1) || (backToKw pos (keywordEach kws X.env)).any (·.1.isNone)) = false) : PE X (.Call (.Name x p) [] kws pos) (tCallN 0 ks.length sp gV E tNil tk) := by
  constructor
  intro pins s σ H Q I h
  apply wpAny_Call_Name_kw
  apply ld_glob I hg hm ?_ hdb
  apply PySem.W.callWith_KW0 (h₀ := X.base) I.ok.mod.kin hk hall ?_ hpl
  apply thn (hkw.run pos pins s σ H _ I h)
  rintro ws s2 ⟨zs, H2, I2, rz, l1, l2, q2⟩
  rw [hks]
  exact ⟨I2.kIn, run_namesG (us := []) F hr hb hx I2 .nil rz l1 l2 q2⟩
end
section
variable {P : Program} {w : World} {K : PySem.W.Frag} {mg : Str → Option Value} {base : Heap} {x qual : Str} {st : Stmt} {f : Addr} {fd : FuncData} {N ps : List Str} {k : Nat} {sp : Sp}
/-- a def keeps its promise, from its body -/
theorem Fun.okG (F : Fun K x qual st f fd) (S : FnScope N ps (defScope st)) (len : ∀ vs H Q E, sp vs H Q E → vs.length = ps.length)
    (body : ∀ (cdv : Value) (A : Around) (outer : List Env) (s : Shared) (H : Hp) (vs : List V) (Q : VK) (E : XK), RoomG k (A.deeper (envOfC qual (defScope st) s.heap.objs.size f cdv)) → sp vs H Q E →
      ∃ t, PSs (cxOf CX0 P w K mg base N qual (defScope st) f cdv A outer s H E).nox (defBody st) t ∧ t { nx := fun _ H' => Q .non H', rt := Q } (L2.start N vs) H) : FnG P w K mg base CX0 (k + 1) f fd ps sp := by
  obtain ⟨oc, od, kV, doc, pm, an, cdv, ct, osl, rfl, lk, hcd⟩ := F.ex
  refine ⟨len, ?_⟩
  intro A outer s H args us vs Q E hr e0 bnd r hsp
  have inS : ∀ b o, base.get? b = some o → s.heap.get? b = some o := fun b o e => (e0.bs b o e).1
  have KX : K.In s.heap := e0.mod.kin.keeps inS
  apply codeAny_call_function hr.toRoom.depth (KX _ _ lk) rfl S.co S.gen rfl (PySem.W.codeRec_of KX hcd)
  apply bnd
  apply wpAny_newFunctionEnv_cells S.kind
  · rintro ⟨y, v⟩ hy
    exact (S.par y (List.of_mem_zip hy).1).imp id fun q => ⟨q, PySem.W.cellsFrom_some _ _ _ (.inl q)⟩
  · intro env he s1 xx
    subst he
    obtain ⟨t, pt, q⟩ := body cdv A outer s H vs Q E (hr.deeperG _) hsp
    have I : L2.Inv (cxOf CX0 P w K mg base N qual (defScope st) f cdv A outer s H E) [] (L2.start N vs) H s1 := inv_start S hr.toRoom.hd e0 (len _ _ _ _ hsp) r xx
    refine ⟨(e0.mod.nolimit.keeps inS).keeps xx.toInCall.keep, codeAny_func (wpAny_mono (pt.nox.run [] s1 _ H _ I q) (fun fl s' z => ?_) fun _ _ z => z)⟩
    cases fl with
    | ret u =>
      obtain ⟨v, σ', H', J, rv, q'⟩ := z
      exact ⟨v, H', J.os, J.bare, J.base, J.hok, rv, q'⟩
    | next =>
      obtain ⟨σ', H', J, q'⟩ := z
      exact ⟨.non, H', J.os, J.bare, J.base, J.hok, rfl, q'⟩
    | brk => exact z.elim fun _ z => z.elim fun _ z => z.2.elim
    | cont => exact z.elim fun _ z => z.elim fun _ z => z.2.elim
end
end DL
namespace DL
open PySem PySem.Spec PyProof.Rows L2
def dat (κ : Kap) : R → Option (PyData × Kap)
  | .d x => some (x, κ)
  | .f xs => some (.list xs, κ)
  | .c k => match κ[k]? with
    | some (.l xs) => some (.list xs, κ.set k (.z (.list xs)))
    | some (.z x) => some (x, κ)
    | some (.m _) => none
    | some (.k _) => none
    | some (.x _) => none
    | none => none
  | .s _ => none
  | .b _ => none
  | .p _ => none
  | .h _ => none
  | .g _ => none
  | .q _ => none
  | .o _ => none
def dats (κ : Kap) : List R → Option (List PyData × Kap)
  | [] => some ([], κ)
  | r :: rs => match dat κ r with
    | some (x, κ1) => match dats κ1 rs with
      | some (xs, κ2) => some (x :: xs, κ2)
      | none => none
    | none => none
/-- what a thing is as a dict that is known for good -/
def kd (κ : Kap) : R → Option (List (Key × PyData))
  | .h es => some es
  | .c k => match κ[k]? with
    | some (.k es) => some es
    | _ => none
  | _ => none
/-- what a def is handed: plain data, or the script, or a dict that is known for good -/
def arg (κ : Kap) : R → Option (R × Kap)
  | .s ns => some (.s ns, κ)
  | .h es => some (.h es, κ)
  | .o u => some (.o u, κ)
  | r => match dat κ r with
    | some (x, κ1) => some (.d x, κ1)
    | none => match kd κ r with
      | some es => some (.h es, κ)
      | none => none
def args (κ : Kap) : List R → Option (List R × Kap)
  | [] => some ([], κ)
  | r :: rs => match arg κ r with
    | some (x, κ1) => match args κ1 rs with
      | some (xs, κ2) => some (x :: xs, κ2)
      | none => none
    | none => none
section
variable {K : PySem.W.Frag} {G H G' H' G1 H1 H0 : Hp} {As As' As1 : List Addr} {σ : L2.St} {ρ : Rho} {κ κ' : Kap} {v : V} {r : R}
theorem dat_ok {x : PyData} (c : Cells K G H As κ) (h : It K G As v r) (e : dat κ r = some (x, κ')) : ∃ G', Step G H As G' H As ∧ Cells K G' H As κ' ∧ Rp K G' v x := by
  cases r with
  | d y =>
    cases e
    exact ⟨G, Step.refl, c, h⟩
  | f xs => exact h.elim
  | s ns => cases e
  | b ks => cases e
  | p ks => cases e
  | h ks => cases e
  | g ks => cases e
  | q ks => cases e
  | o u => cases e
  | c k =>
    unfold dat at e
    simp only at e
    cases q : κ[k]? with
    | none => rw [q] at e; cases e
    | some cc =>
      rw [q] at e
      cases cc with
      | l ds =>
        cases e
        exact freeze c h q
      | m es => cases e
      | k es => cases e
      | x u => cases e
      | z y =>
        cases e
        obtain ⟨a, h1, rfl⟩ := h
        exact ⟨G, Step.refl, c, c.ok k _ a q h1⟩
theorem dats_ok : ∀ {rs : List R} {vs : List V} {G : Hp} {κ : Kap} {xs : List PyData}, Cells K G H As κ → Paired (It K G As) vs rs → dats κ rs = some (xs, κ') → ∃ G', Step G H As G' H As ∧ Cells K G' H As κ' ∧ RpA K G' vs xs
  | [], _, G, κ, xs, c, h, e => by
    cases h
    cases e
    exact ⟨G, Step.refl, c, .nil⟩
  | r :: rs, _, G, κ, xs, c, h, e => by
    cases h with
    | cons h1 h2 =>
      unfold dats at e
      cases q : dat κ r with
      | none => rw [q] at e; cases e
      | some p =>
        obtain ⟨x, κ1⟩ := p
        rw [q] at e
        simp only at e
        cases q2 : dats κ1 rs with
        | none => rw [q2] at e; cases e
        | some p2 =>
          obtain ⟨ys, κ2⟩ := p2
          rw [q2] at e
          cases e
          obtain ⟨G1, s1, c1, r1⟩ := dat_ok c h1 q
          obtain ⟨G2, s2, c2, r2⟩ := dats_ok c1 (Paired.mapP h2 fun _ _ z => s1.it z) q2
          exact ⟨G2, s1.trans s2, c2, .cons (Rp.mono s2.ex _ _ r1) r2⟩
theorem kd_ok {es : List (Key × PyData)} (c : Cells K G H As κ) (h : It K G As v r) (e : kd κ r = some es) : ItH K G v es := by
  cases r with
  | h xs => cases e; exact h
  | g y => cases e
  | q y => cases e
  | c k =>
    obtain ⟨a, h1, rfl⟩ := h
    unfold kd at e
    simp only at e
    split at e
    · rename_i xs q
      cases e
      exact c.ok k _ a q h1
    · cases e
  | d y => cases e
  | f xs => cases e
  | s ns => cases e
  | b ks => cases e
  | p ks => cases e
  | o u => cases e
theorem arg_ok {x : R} (c : Cells K G H As κ) (h : It K G As v r) (e : arg κ r = some (x, κ')) : ∃ G', Step G H As G' H As ∧ Cells K G' H As κ' ∧ It K G' [] v x := by
  cases r with
  | s ns =>
    cases e
    exact ⟨G, Step.refl, c, h⟩
  | f xs => exact h.elim
  | d y =>
    cases e
    exact ⟨G, Step.refl, c, h⟩
  | b ks => cases e
  | p ks => cases e
  | h ks =>
    cases e
    exact ⟨G, Step.refl, c, h⟩
  | g ks => exact nomatch (show (none : Option (R × Kap)) = some (x, κ') from e)
  | q ks => exact nomatch (show (none : Option (R × Kap)) = some (x, κ') from e)
  | o u =>
    cases e
    exact ⟨G, Step.refl, c, h⟩
  | c k =>
    unfold arg at e
    cases q : dat κ (.c k) with
    | none =>
      simp only [q] at e
      cases q2 : kd κ (.c k) with
      | none => simp only [q2] at e; cases e
      | some es =>
        simp only [q2] at e
        cases e
        exact ⟨G, Step.refl, c, kd_ok c h q2⟩
    | some p =>
      obtain ⟨y, κ1⟩ := p
      simp only [q] at e
      cases e
      exact dat_ok c h q
theorem It.none (e : Ex G G') (h : It K G [] v r) : It K G' [] v r := h.mono e ⟨[], rfl⟩
theorem args_ok : ∀ {rs : List R} {vs : List V} {G : Hp} {κ : Kap} {xs : List R}, Cells K G H As κ → Paired (It K G As) vs rs → args κ rs = some (xs, κ') → ∃ G', Step G H As G' H As ∧ Cells K G' H As κ' ∧ Paired (It K G' []) vs xs
  | [], _, G, κ, xs, c, h, e => by
    cases h
    cases e
    exact ⟨G, Step.refl, c, .nil⟩
  | r :: rs, _, G, κ, xs, c, h, e => by
    cases h with
    | cons h1 h2 =>
      unfold args at e
      cases q : arg κ r with
      | none => rw [q] at e; cases e
      | some p =>
        obtain ⟨x, κ1⟩ := p
        rw [q] at e
        simp only at e
        cases q2 : args κ1 rs with
        | none => rw [q2] at e; cases e
        | some p2 =>
          obtain ⟨ys, κ2⟩ := p2
          rw [q2] at e
          cases e
          obtain ⟨G1, s1, c1, r1⟩ := arg_ok c h1 q
          obtain ⟨G2, s2, c2, r2⟩ := args_ok c1 (Paired.mapP h2 fun _ _ z => s1.it z) q2
          exact ⟨G2, s1.trans s2, c2, .cons (r1.none s2.ex) r2⟩
theorem vals_ok : ∀ {rs : List R} {vs : List V} {xs : List PyData}, Cells K G H As κ → Paired (It K G As) vs rs → vals κ rs = some xs → Paired (Vw K G H) vs xs
  | [], _, xs, c, h, e => by
    cases h
    cases e
    exact .nil
  | r :: rs, _, xs, c, h, e => by
    cases h with
    | cons h1 h2 =>
      unfold vals at e
      cases q : val κ r with
      | none => rw [q] at e; cases e
      | some x =>
        rw [q] at e
        cases q2 : vals κ rs with
        | none => rw [q2] at e; cases e
        | some ys =>
          rw [q2] at e
          cases e
          exact .cons (h1.vw c q) (vals_ok c h2 q2)
end
def wNil : DTA := fun _ κ P => P [] κ
def wCons (wa : DTE) (wr : DTA) : DTA := fun ρ κ P => wa ρ κ fun r κ1 => wr ρ κ1 fun rs κ2 => P (r.st :: rs) κ2
section
variable {X : Cx} {e : Expr} {es : List Expr} {wa : DTE} {wr : DTA} {pos : Pos}
theorem da_nil : DA X [] wNil := ⟨_, pa_nil, fun G H As σ ρ κ P Q c p w k => k [] [] G H As κ Step.refl c p .nil rfl w⟩
theorem da_cons (ha : DE X e wa) (hr : DA X es wr) (hs : starEach (e :: es) X.env = (false, eval e X.env) :: starEach es X.env := by rfl) : DA X (e :: es) (wCons wa wr) := by
  obtain ⟨ta, pa, ha⟩ := ha
  obtain ⟨tr, pr, hr⟩ := hr
  refine ⟨_, pa_cons pa pr hs, fun G H As σ ρ κ P Q c p w k => ?_⟩
  refine ha G H As σ ρ κ _ _ c p w fun v1 r1 G1 H1 As1 κ1 s1 c1 p1 i1 w1 => ?_
  obtain ⟨G1', s1', c1', p1', i1', _⟩ := settle s1 c1 p1 i1
  refine hr G1' H1 As1 σ ρ κ1 _ _ c1' p1' w1 fun vs rs G2 H2 As2 κ2 s2 c2 p2 i2 l2 w2 => ?_
  exact k _ _ G2 H2 As2 κ2 (s1'.trans s2) c2 p2 (.cons (s2.it i1') i2) (congrArg (· + 1) l2) w2
def wTup (wa : DTA) : DTE := fun ρ κ P => wa ρ κ fun rs κ1 => Opt (dats κ1 rs) fun q => q.1.length ≤ sizeLine ∧ P (.d (.tuple q.1)) q.2
def wLst (wa : DTA) : DTE := fun ρ κ P => wa ρ κ fun rs κ1 => Opt (dats κ1 rs) fun q => q.1.length ≤ sizeLine ∧ P (.f q.1) q.2
theorem de_tup {x1 : Nat} (h : DA X es wr) : DE X (.Tuple es x1 pos) (wTup wr) := by
  obtain ⟨t, pt, h⟩ := h
  refine ⟨_, pe_tup pt, fun G H As σ ρ κ P Q c p w k => ?_⟩
  refine h G H As σ ρ κ _ _ c p w fun vs rs G1 H1 As1 κ1 s1 c1 p1 i1 el w1 => ?_
  obtain ⟨⟨xs, κ2⟩, e, hl, w2⟩ := w1.ex
  obtain ⟨G2, s2, c2, rp⟩ := dats_ok c1 i1 e
  exact ⟨by rw [rp.len]; exact hl, fun q hq => (out_ok (P := P) (s1.trans s2) c2 (p1.step s2) (.t xs) w2 k).1 q _ hq rp⟩
theorem de_lst (h : DA X es wr) : DE X (.List es pos) (wLst wr) := by
  obtain ⟨t, pt, h⟩ := h
  refine ⟨_, pe_lst pt, fun G H As σ ρ κ P Q c p w k => ?_⟩
  refine h G H As σ ρ κ _ _ c p w fun vs rs G1 H1 As1 κ1 s1 c1 p1 i1 el w1 => ?_
  obtain ⟨⟨xs, κ2⟩, e, hl, w2⟩ := w1.ex
  obtain ⟨G2, s2, c2, rp⟩ := dats_ok c1 i1 e
  exact ⟨by rw [rp.len]; exact hl, fun q hq => out_ok (P := P) (s1.trans s2) c2 (p1.step s2) (.n xs) w2 k q _ hq rp⟩
theorem cb_reads {t : TA} {rc : List V → Hp → VK → Prop} {g : List PyData → Option Out} (hg : CallD X.K rc g)
    (h : ∀ (G H : Hp) (As : List Addr) (σ : L2.St) (ρ : Rho) (κ : Kap) (P : List R → Kap → Prop) (Q : List V → Hp → Prop), Cells X.K G H As κ → Places X.K G As σ ρ → wr ρ κ P → (∀ vs rs G' H' As' κ', Step G H As G' H' As' → Cells X.K G' H' As' κ' → Places X.K G' As' σ ρ → Paired (It X.K G' As') vs rs → rs.length = es.length → P rs κ' → Q vs H') → t σ H Q)
    (G H : Hp) (As : List Addr) (σ : L2.St) (ρ : Rho) (κ : Kap) (P : R → Kap → Prop) (Q : VK) (c : Cells X.K G H As κ) (p : Places X.K G As σ ρ) (w : wCB g wr ρ κ P)
    (k : ∀ v r G' H' As' κ', Step G H As G' H' As' → Cells X.K G' H' As' κ' → Places X.K G' As' σ ρ → Rv X.K H G' H' As' v r → P r κ' → Q v H') : tCB rc t σ H Q := by
  refine h G H As σ ρ κ _ _ c p w fun vs rs G1 H1 As1 κ1 s1 c1 p1 i1 el w1 => ?_
  obtain ⟨xs, e, w2⟩ := w1.ex
  obtain ⟨o, eo, w3⟩ := w2.ex
  exact hg G1 H1 vs xs o Q c1.ext (vals_ok c1 i1 e) eo (out_ok s1 c1 p1 o w3 k)
theorem de_callB {id : String} {x : Str} {p : Pos} {rc : List V → Hp → VK → Prop} {g : List PyData → Option Out} (hc : CallR X (.builtin id) rc) (hgd : CallD X.K rc g) (hm : X.mg x = none) (ha : DA X (e :: es) wr) (hg : Gl X x := by rfl) (hv : bootBuiltins x = some (.builtin id) := by decide +kernel) (hn : x ≠ "__name__" := by decide) (hdb : (x == ("__debug__" : Str)) = false := by decide)
    (he : starEach (e :: es) X.env = (false, eval e X.env) :: starEach es X.env := by rfl) (hpl : (backTo pos (starEach es X.env)).any (·.1) = false := by rfl) : DE X (.Call (.Name x p) (e :: es) [] pos) (wCB g wr) := by
  obtain ⟨t, pt, h⟩ := ha
  exact ⟨_, pe_callB hc hg hm hv pt hn hdb he hpl, cb_reads hgd h⟩
theorem de_callTy {T : String} {x : Str} {p : Pos} {rc : List V → Hp → VK → Prop} {g : List PyData → Option Out} (hc : CallR X (.type T) rc) (hgd : CallD X.K rc g) (hm : X.mg x = none) (ha : DA X (e :: es) wr) (hg : Gl X x := by rfl) (hv : bootBuiltins x = some (.type T) := by decide +kernel) (hn : x ≠ "__name__" := by decide) (hdb : (x == ("__debug__" : Str)) = false := by decide)
    (he : starEach (e :: es) X.env = (false, eval e X.env) :: starEach es X.env := by rfl) (hpl : (backTo pos (starEach es X.env)).any (·.1) = false := by rfl) : DE X (.Call (.Name x p) (e :: es) [] pos) (wCB g wr) := by
  obtain ⟨t, pt, h⟩ := ha
  exact ⟨_, pe_callTy hc hg hm hv pt hn hdb he hpl, cb_reads hgd h⟩
end
/-- what stands, the tables too -/
def ExT (K : PySem.W.Frag) (G H : Hp) : Prop := Ex G H ∧ Tb K G H
theorem Cells.xt {K : PySem.W.Frag} {G H : Hp} {As : List Addr} {κ : Kap} (c : Cells K G H As κ) : ExT K G H := ⟨c.ext, c.tab⟩
def spD (K : PySem.W.Frag) (n : Nat) (Φ : List R → (R → Prop) → Prop) : Sp := fun vs H Q _ => vs.length = n ∧ ∃ (G : Hp) (rs : List R) (P : R → Prop), ExT K G H ∧ Paired (It K G []) vs rs ∧ Φ rs P ∧
  ∀ v r G' H', P r → ExT K G' H' → Step G H [] G' H' [] → Rv K H G' H' [] v r → Q v H'
/-- the first argument is a list that may be changed -/
def spL (K : PySem.W.Frag) (n : Nat) (Φ : List PyData → List R → (R → List PyData → Prop) → Prop) : Sp := fun vs H Q _ => vs.length = n ∧ ∃ (G : Hp) (a : Addr) (ws : List V) (bs : List PyData) (rs : List R) (P : R → List PyData → Prop),
  vs = .ref a :: ws ∧ Cells K G H [a] [.l bs] ∧ Paired (It K G []) ws rs ∧ Φ bs rs P ∧
  ∀ v r bs' G' H', P r bs' → Cells K G' H' [a] [.l bs'] → Step G H [a] G' H' [a] → Rv K H G' H' [a] v r → Q v H'
def wCall (Φ : List R → (R → Prop) → Prop) (wa : DTA) : DTE := fun ρ κ P => wa ρ κ fun rs κ1 => Opt (args κ1 rs) fun q => Φ q.1 fun r => P r q.2
def lend (κ : Kap) : List R → Option (Nat × List PyData × List R × Kap)
  | .c k :: rs => match args κ rs with
    | some (xs, κ1) => match κ1[k]? with
      | some (.l bs) => some (k, bs, xs, κ1)
      | _ => none
    | none => none
  | _ => none
/-- the def's own cell is the caller's k-th -/
def R.lab (k : Nat) : R → R
  | .c _ => .c k
  | .b ks => .b (ks.map fun _ => k)
  | .p ks => .p (ks.map fun _ => k)
  | r => r
def wCallL (Φ : List PyData → List R → (R → List PyData → Prop) → Prop) (wa : DTA) : DTE := fun ρ κ P => wa ρ κ fun rs κ1 => Opt (lend κ1 rs) fun q => Φ q.2.1 q.2.2.1 fun r bs => P (r.lab q.1) (q.2.2.2.set q.1 (.l bs))
section
variable {K : PySem.W.Frag} {G H G' H' G1 H1 H0 : Hp} {As As' As1 : List Addr} {σ : L2.St} {ρ : Rho} {κ κ' : Kap} {v : V} {r : R}
/-- behind a call that changes none of the cells -/
theorem Cells.call (c : Cells K G H As κ) (s : Step G H [] G' H' []) (e : ExT K G' H') : Cells K G' H' As κ where
  ext := e.1
  tab := e.2
  len := c.len
  nd := c.nd
  al := fun b h => by
    obtain ⟨o, q⟩ := c.al b h
    cases z : H' b with
    | none => rw [s.dom b z] at q; cases q
    | some u => exact ⟨u, rfl⟩
  ok := fun k x a e1 e2 => by
    have w := c.ok k x a e1 e2
    cases x with
    | l ds =>
      obtain ⟨w1, ws, w2, w3⟩ := w
      refine ⟨?_, ws, s.fr a _ (by simp) (wo_lst ws).1 w2, RpA.mono s.ex _ _ w3⟩
      rcases s.gn a w1 with z | z | z | ⟨ys, z⟩
      · exact z
      · rw [w2] at z; cases z
      · cases z
      · have q := s.fr a _ (by simp) (wo_lst ws).1 w2
        rw [z] at q
        cases q
    | m es =>
      obtain ⟨w1, ws, w2, w3⟩ := w
      refine ⟨?_, ws, s.fr a _ (by simp) (wo_dK ws).1 w2, w3.mono s.ex ⟨[], by simp⟩⟩
      rcases s.gn a w1 with z | z | z | ⟨ys, z⟩
      · exact z
      · rw [w2] at z; cases z
      · cases z
      · have q := s.fr a _ (by simp) (wo_dK ws).1 w2
        rw [z] at q
        cases q
    | z x => exact Rp.mono s.ex _ _ w
    | k es => exact ItH.mono s.ex w
    | x u =>
      obtain ⟨w1, w2, w3⟩ := w
      refine ⟨?_, s.fr a _ (by simp) w3.1 w2, w3⟩
      rcases s.gn a w1 with z | z | z | ⟨ys, z⟩
      · exact z
      · rw [w2] at z; cases z
      · cases z
      · have q := s.fr a _ (by simp) w3.1 w2
        rw [z] at q
        exact (w3.2.2 ys (Option.some.inj q).symm).elim
theorem Step.wide (s : Step G H [] G' H' []) : Step G H As G' H' As :=
  ⟨s.ex, ⟨[], by simp⟩, fun _ h => .inl h, fun b o _ nt h => s.fr b o (by simp) nt h, s.dom, (fun b h => by
    rcases s.gn b h with z | z | z | z
    · exact .inl z
    · exact .inr (.inl z)
    · cases z
    · exact .inr (.inr (.inr z)))⟩
theorem Rv.wide (c : Cells K G H As κ) (h : Rv K H G' H' [] v r) : Rv K H G' H' As v r := by
  cases r with
  | f xs =>
    obtain ⟨p, vs, e, h0, g0, _, q⟩ := h
    exact ⟨p, vs, e, h0, g0, c.notin h0, q⟩
  | d x => exact h
  | h es => exact h
  | g es => exact h
  | q es => exact h
  | o u => exact h
  | s ns => exact h
  | b ks =>
    obtain ⟨a, vs, h1, h2, h3, h4⟩ := h
    exact ⟨a, vs, h1, h2, h3, fun i k hk => by
      obtain ⟨c, z, _⟩ := h4 i k hk
      simp at z⟩
  | p ks =>
    obtain ⟨a, vs, h1, h2, h3, h4⟩ := h
    exact ⟨a, vs, h1, h2, h3, fun i k hk => by
      obtain ⟨c, z, _⟩ := h4 i k hk
      simp at z⟩
  | c k =>
    obtain ⟨a, z, _⟩ := h
    simp at z
/-- the cell that is lent -/
theorem Cells.one {k : Nat} {a : Addr} {ds : List PyData} (c : Cells K G H As κ) (hk : κ[k]? = some (.l ds)) (ha : As[k]? = some a) : Cells K G H [a] [.l ds] where
  ext := c.ext
  tab := c.tab
  len := rfl
  nd := by simp
  al := fun b h => by
    rw [List.mem_singleton] at h
    subst h
    exact c.al b (List.mem_of_getElem? ha)
  ok := fun j x b e1 e2 => by
    cases j with
    | zero =>
      cases e1
      cases e2
      exact c.ok k _ _ hk ha
    | succ j => simp at e1
theorem Cells.lent {k : Nat} {a : Addr} {ds es : List PyData} (c : Cells K G H As κ) (hk : κ[k]? = some (.l ds)) (ha : As[k]? = some a) (s : Step G H [a] G' H' [a]) (c1 : Cells K G' H' [a] [.l es]) : Cells K G' H' As (κ.set k (.l es)) where
  ext := c1.ext
  tab := c1.tab
  len := by rw [List.length_set]; exact c.len
  nd := c.nd
  al := fun b h => by
    obtain ⟨o, q⟩ := c.al b h
    cases z : H' b with
    | none => rw [s.dom b z] at q; cases q
    | some u => exact ⟨u, rfl⟩
  ok := fun j x b e1 e2 => by
    by_cases hj : j = k
    · subst hj
      rw [ha] at e2; cases e2
      rw [List.getElem?_set_self (List.getElem?_eq_some_iff.mp hk).1] at e1
      cases e1
      exact c1.ok 0 _ _ rfl rfl
    · rw [List.getElem?_set_ne (fun z => hj z.symm)] at e1
      have w := c.ok j x b e1 e2
      have ne : b ≠ a := fun z => hj (by
        subst z
        obtain ⟨l1, q1⟩ := List.getElem?_eq_some_iff.mp e2
        obtain ⟨l2, q2⟩ := List.getElem?_eq_some_iff.mp ha
        exact (List.getElem_inj c.nd).mp (q1.trans q2.symm))
      have ni : b ∉ [a] := by rw [List.mem_singleton]; exact ne
      cases x with
      | l ds' =>
        obtain ⟨w1, ws, w2, w3⟩ := w
        refine ⟨?_, ws, s.fr b _ ni (wo_lst ws).1 w2, RpA.mono s.ex _ _ w3⟩
        rcases s.gn b w1 with z | z | z | ⟨ys, z⟩
        · exact z
        · rw [w2] at z; cases z
        · exact absurd z ni
        · have q := s.fr b _ ni (wo_lst ws).1 w2
          rw [z] at q
          cases q
      | m es' =>
        obtain ⟨w1, ws, w2, w3⟩ := w
        refine ⟨?_, ws, s.fr b _ ni (wo_dK ws).1 w2, w3.mono s.ex ⟨[], by simp⟩⟩
        rcases s.gn b w1 with z | z | z | ⟨ys, z⟩
        · exact z
        · rw [w2] at z; cases z
        · exact absurd z ni
        · have q := s.fr b _ ni (wo_dK ws).1 w2
          rw [z] at q
          cases q
      | z x => exact Rp.mono s.ex _ _ w
      | k es => exact ItH.mono s.ex w
      | x u =>
        obtain ⟨w1, w2, w3⟩ := w
        refine ⟨?_, s.fr b _ ni w3.1 w2, w3⟩
        rcases s.gn b w1 with z | z | z | ⟨ys, z⟩
        · exact z
        · rw [w2] at z; cases z
        · exact absurd z ni
        · have q := s.fr b _ ni w3.1 w2
          rw [z] at q
          exact (w3.2.2 ys (Option.some.inj q).symm).elim
theorem Step.lent {a : Addr} (hm : a ∈ As) (s : Step G H [a] G' H' [a]) : Step G H As G' H' As :=
  ⟨s.ex, ⟨[], by simp⟩, fun _ h => .inl h, fun b o hb nt h => s.fr b o (fun z => hb (by rw [List.mem_singleton] at z; rw [z]; exact hm)) nt h, s.dom, (fun b h => by
    rcases s.gn b h with z | z | z | z
    · exact .inl z
    · exact .inr (.inl z)
    · exact .inr (.inr (.inl (by rw [List.mem_singleton] at z; rw [z]; exact hm)))
    · exact .inr (.inr (.inr z)))⟩
theorem Rv.lent {k : Nat} {a : Addr} (c : Cells K G H As κ) (ha : As[k]? = some a) (h : Rv K H G' H' [a] v r) : Rv K H G' H' As v (r.lab k) := by
  cases r with
  | f xs =>
    obtain ⟨p, vs, e, h0, g0, _, q⟩ := h
    exact ⟨p, vs, e, h0, g0, c.notin h0, q⟩
  | d x => exact h
  | h es => exact h
  | g es => exact h
  | q es => exact h
  | o u => exact h
  | s ns => exact h
  | b ks =>
    obtain ⟨p, vs, h1, h2, h3, h4⟩ := h
    refine ⟨p, vs, h1, h2, by rw [h3, List.length_map], fun i j hk => ?_⟩
    rw [List.getElem?_map] at hk
    cases q : ks[i]? with
    | none => rw [q] at hk; cases hk
    | some j' =>
      rw [q] at hk
      cases hk
      obtain ⟨b, e1, e2⟩ := h4 i j' q
      cases j' with
      | zero => cases e1; exact ⟨a, ha, e2⟩
      | succ j' => simp at e1
  | p ks =>
    obtain ⟨p, vs, h1, h2, h3, h4⟩ := h
    refine ⟨p, vs, h1, h2, by rw [h3, List.length_map], fun i j hk => ?_⟩
    rw [List.getElem?_map] at hk
    cases q : ks[i]? with
    | none => rw [q] at hk; cases hk
    | some j' =>
      rw [q] at hk
      cases hk
      obtain ⟨b, e1, e2⟩ := h4 i j' q
      cases j' with
      | zero => cases e1; exact ⟨a, ha, e2⟩
      | succ j' => simp at e1
  | c j =>
    obtain ⟨b, e1, e2⟩ := h
    cases j with
    | zero => cases e1; exact ⟨a, ha, e2⟩
    | succ j => simp at e1
end
section
variable {X : Cx} {CX : CXT} {k : Nat} {f : Addr} {fd : FuncData} {ps : List Str} {n : Nat} {E : XK} {x : Str} {p pos : Pos} {e : Expr} {es : List Expr} {wr : DTA}
theorem de_call {Φ : List R → (R → Prop) → Prop} (F : FnG X.prog X.w X.K X.mg X.base CX k f fd ps (spD X.K n Φ)) (hr : RoomG k X.A) (hm : X.mg x = some (.ref f)) (hk : PySem.W.keepIn X.K (.ref f) = true) (hb : Binds X.K fd ps []) (hx : Passes CX X E)
    (hn : n = (e :: es).length) (ha : DA X (e :: es) wr) (hg : Gl X x := by rfl) (hdb : (x == ("__debug__" : Str)) = false := by decide) (he : starEach (e :: es) X.env = (false, eval e X.env) :: starEach es X.env := by rfl) (hpl : (backTo pos (starEach es X.env)).any (·.1) = false := by rfl) :
    DE X (.Call (.Name x p) (e :: es) [] pos) (wCall Φ wr) := by
  obtain ⟨t, pt, h⟩ := ha
  refine ⟨_, pe_callG F hr hg hm hk hb .nil hx pt hdb he hpl, fun G H As σ ρ κ P Q c pl w kk => ?_⟩
  refine h G H As σ ρ κ _ _ c pl w fun vs rs G1 H1 As1 κ1 s1 c1 p1 i1 el w1 => ?_
  obtain ⟨⟨xs, κ2⟩, ea, w2⟩ := w1.ex
  obtain ⟨G2, s2, c2, i2⟩ := args_ok c1 i1 ea
  rw [List.append_nil]
  refine ⟨by rw [Paired.length i1, hn]; exact el, G2, xs, _, c2.xt, i2, w2, fun v r G' H' hP hE s3 rv => ?_⟩
  have st : Step G H As G' H' As1 := (s1.trans s2).trans s3.wide
  exact kk v r G' H' As1 κ2 st (c2.call s3 hE) (pl.step st) ((rv.wide c2).back (s1.trans s2)) hP
theorem de_callL {Φ : List PyData → List R → (R → List PyData → Prop) → Prop} (F : FnG X.prog X.w X.K X.mg X.base CX k f fd ps (spL X.K n Φ)) (hr : RoomG k X.A) (hm : X.mg x = some (.ref f)) (hk : PySem.W.keepIn X.K (.ref f) = true) (hb : Binds X.K fd ps []) (hx : Passes CX X E)
    (hn : n = (e :: es).length) (ha : DA X (e :: es) wr) (hg : Gl X x := by rfl) (hdb : (x == ("__debug__" : Str)) = false := by decide) (he : starEach (e :: es) X.env = (false, eval e X.env) :: starEach es X.env := by rfl) (hpl : (backTo pos (starEach es X.env)).any (·.1) = false := by rfl) :
    DE X (.Call (.Name x p) (e :: es) [] pos) (wCallL Φ wr) := by
  obtain ⟨t, pt, h⟩ := ha
  refine ⟨_, pe_callG F hr hg hm hk hb .nil hx pt hdb he hpl, fun G H As σ ρ κ P Q c pl w kk => ?_⟩
  refine h G H As σ ρ κ _ _ c pl w fun vs rs G1 H1 As1 κ1 s1 c1 p1 i1 el w1 => ?_
  obtain ⟨⟨kc, bs, xs, κ2⟩, ea, w2⟩ := w1.ex
  cases rs with
  | nil => cases ea
  | cons r rs =>
    cases r with
    | d y => cases ea
    | f y => cases ea
    | s y => cases ea
    | b y => cases ea
    | p y => cases ea
    | h y => cases ea
    | g y => cases ea
    | q y => cases ea
    | o y => cases ea
    | c kk' =>
      cases i1 with
      | cons i1 i1r =>
        unfold lend at ea
        simp only at ea
        cases q2 : args κ1 rs with
        | none => rw [q2] at ea; cases ea
        | some pp =>
          obtain ⟨ys, κ3⟩ := pp
          rw [q2] at ea
          simp only at ea
          cases q3 : κ3[kk']? with
          | none => rw [q3] at ea; cases ea
          | some c3 =>
            cases c3 with
            | z y => rw [q3] at ea; cases ea
            | m y => rw [q3] at ea; cases ea
            | k y => rw [q3] at ea; cases ea
            | x y => rw [q3] at ea; cases ea
            | l ds =>
              rw [q3] at ea
              cases ea
              obtain ⟨G2, s2, c2, i2⟩ := args_ok c1 i1r q2
              obtain ⟨a, ha1, rfl⟩ := i1
              rw [List.append_nil]
              refine ⟨by rw [List.length_cons, Paired.length i1r, hn]; exact el, G2, a, _, _, _, _, rfl, c2.one q3 ha1, i2, w2, fun v r bs' G' H' hP hE s3 rv => ?_⟩
              have st : Step G H As G' H' As1 := (s1.trans s2).trans (s3.lent (List.mem_of_getElem? ha1))
              exact kk v _ G' H' As1 _ st (c2.lent q3 ha1 s3 hE) (pl.step st) ((rv.lent c2 ha1).back (s1.trans s2)) hP
end
end DL
namespace DL
open PySem PySem.Spec PyProof.Rows L2
def sto (m : Bool) (r : R) (κ : Kap) : R × Kap := match m, r with
  | true, .f xs => (.c κ.length, κ ++ [.l xs])
  | _, r => (r.st, κ)
section
variable {K : PySem.W.Frag} {G H G' H' G1 H1 H0 : Hp} {As As' As1 : List Addr} {σ : L2.St} {ρ : Rho} {κ κ' : Kap} {v : V} {r : R}
theorem sto_ok (m : Bool) (s : Step G1 H1 As1 G H As) (c : Cells K G H As κ) (h : Rv K H1 G H As v r) : ∃ G' As', Step G1 H1 As1 G' H As' ∧ Cells K G' H As' (sto m r κ).2 ∧ It K G' As' v (sto m r κ).1 ∧ Ex G G' ∧ ∃ bs, As' = As ++ bs := by
  have dflt : (sto m r κ) = (r.st, κ) → ∃ G' As', Step G1 H1 As1 G' H As' ∧ Cells K G' H As' (sto m r κ).2 ∧ It K G' As' v (sto m r κ).1 ∧ Ex G G' ∧ ∃ bs, As' = As ++ bs := fun e => by
    obtain ⟨G', s', c', _, i', e'⟩ := settle (σ := []) (ρ := []) s c ⟨rfl, fun i r h => by simp at h⟩ h
    rw [e]
    exact ⟨G', As, s', c', i', e', [], by simp⟩
  cases m with
  | false => exact dflt (by cases r <;> rfl)
  | true =>
    cases r with
    | d x => exact dflt rfl
    | c k => exact dflt rfl
    | s ns => exact dflt rfl
    | b ks => exact dflt rfl
    | p ks => exact dflt rfl
    | h ks => exact dflt rfl
    | g ks => exact dflt rfl
    | q ks => exact dflt rfl
    | o u => exact dflt rfl
    | f xs =>
      obtain ⟨q, vs, rfl, h0, g0, nin, hq, rp⟩ := h
      refine ⟨G, As ++ [q], ?_, c.more g0 nin hq rp, ⟨q, ?_, rfl⟩, Ex.refl G, [q], rfl⟩
      · obtain ⟨bs, e⟩ := s.pre
        refine ⟨s.ex, ⟨bs ++ [q], by rw [e, List.append_assoc]⟩, fun a ha => ?_, s.fr, s.dom, s.gn⟩
        rcases List.mem_append.mp ha with z | z
        · exact s.new a z
        · rw [List.mem_singleton] at z
          subst z; exact .inr h0
      · show (As ++ [q])[κ.length]? = some q
        rw [← c.len, List.getElem?_append_right (Nat.le_refl _), Nat.sub_self]
        rfl
theorem Places.mono (p : Places K G As σ ρ) (e : Ex G G') (hp : ∃ bs, As' = As ++ bs) : Places K G' As' σ ρ :=
  ⟨p.len, fun i r h => by
    obtain ⟨v, h1, h2⟩ := p.ok i r h
    exact ⟨v, h1, h2.mono e hp⟩⟩
theorem Places.put (p : Places K G As σ ρ) (i : Nat) (h : It K G As v r) : Places K G As (σ.set i (some v)) (ρ.set i (some r)) :=
  ⟨by rw [List.length_set, List.length_set]; exact p.len, fun j q e => by
    by_cases hj : i = j
    · subst hj
      by_cases hi : i < ρ.length
      · rw [List.getElem?_set_self hi] at e
        cases e
        exact ⟨v, List.getElem?_set_self (by rw [p.len]; exact hi), h⟩
      · rw [List.getElem?_eq_none (by rw [List.length_set]; omega)] at e; cases e
    · rw [List.getElem?_set_ne hj] at e ⊢
      exact p.ok j q e⟩
end
def wConsM (m : Bool) (wa : DTE) (wr : DTA) : DTA := fun ρ κ P => wa ρ κ fun r κ1 => wr ρ (sto m r κ1).2 fun rs κ2 => P ((sto m r κ1).1 :: rs) κ2
section
variable {X : Cx} {e a b : Expr} {es : List Expr} {wa wb : DTE} {wr : DTA} {pos : Pos} {wt wu : DTT}
theorem da_consM (m : Bool) (ha : DE X e wa) (hr : DA X es wr) (hs : starEach (e :: es) X.env = (false, eval e X.env) :: starEach es X.env := by rfl) : DA X (e :: es) (wConsM m wa wr) := by
  obtain ⟨ta, pa, ha⟩ := ha
  obtain ⟨tr, pr, hr⟩ := hr
  refine ⟨_, pa_cons pa pr hs, fun G H As σ ρ κ P Q c p w k => ?_⟩
  refine ha G H As σ ρ κ _ _ c p w fun v1 r1 G1 H1 As1 κ1 s1 c1 p1 i1 w1 => ?_
  obtain ⟨G1', As1', s1', c1', i1', e1, e2⟩ := sto_ok m s1 c1 i1
  refine hr G1' H1 As1' σ ρ _ _ _ c1' (p1.mono e1 e2) w1 fun vs rs G2 H2 As2 κ2 s2 c2 p2 i2 l2 w2 => ?_
  exact k _ _ G2 H2 As2 κ2 (s1'.trans s2) c2 p2 (.cons (s2.it i1') i2) (congrArg (· + 1) l2) w2
def truth : PyData → Option Bool
  | .none => some false
  | .bool b => some b
  | .int i => some (i != 0)
  | .str z => if z.length ≤ sizeLine then some ((z.length : Int) != 0) else none
  | .list xs => some (!xs.isEmpty)
  | .tuple xs => some (!xs.isEmpty)
  | .dict _ => none
def wTru (wa : DTE) : DTT := fun ρ κ P => wa ρ κ fun r κ1 => Opt (val κ1 r.st) fun x => Opt (truth x) fun b => P b κ1
def wB (wa : DTE) : DTT := fun ρ κ P => wa ρ κ fun r κ1 => match r with
  | .d (.bool b) => P b κ1
  | _ => False
theorem tru_of {K : PySem.W.Frag} {G H : Hp} {v : V} {x : PyData} {b : Bool} (ext : Ex G H) (h : Vw K G H v x) (e : truth x = some b) : TruV K v H b := by
  have emp : ∀ {vs : List V} {ds : List PyData}, RpA K G vs ds → (!vs.isEmpty) = !ds.isEmpty := fun r => by cases r <;> rfl
  cases x with
  | none => cases e; cases h; rfl
  | bool c => cases e; cases h; rfl
  | int i => cases e; cases h; rfl
  | str z =>
    cases h
    unfold truth at e
    simp only at e
    split at e
    · cases e; exact ⟨by assumption, rfl⟩
    · cases e
  | list xs =>
    cases e
    obtain ⟨a, vs, rfl, h1, h2⟩ := h
    exact .inl ⟨vs, sql_of h1, (emp h2).symm⟩
  | tuple xs =>
    cases e
    obtain ⟨a, vs, rfl, h1, h2⟩ := h.tup ext
    exact .inr (.inl ⟨vs, h1, (emp h2).symm⟩)
  | dict _ => cases e
theorem dt_tru (ha : DE X a wa) (he : ∀ whole, isTrue a X.env whole = (do let v ← whole; standAt a.pos; holding [v] (truthy v)) := by intro _; rfl) : DT X a (wTru wa) := by
  obtain ⟨ta, pa, ha⟩ := ha
  refine ⟨_, pt_truth pa he, fun G H As σ ρ κ P Q c p w k => ?_⟩
  refine ha G H As σ ρ κ _ _ c p w fun v1 r1 G1 H1 As1 κ1 s1 c1 p1 i1 w1 => ?_
  obtain ⟨G1', s1', c1', p1', i1', _⟩ := settle s1 c1 p1 i1
  obtain ⟨x, ex, w2⟩ := w1.ex
  obtain ⟨b, eb, w3⟩ := w2.ex
  exact ⟨b, tru_of c1'.ext (i1'.vw c1' ex) eb, k b G1' H1 As1 κ1 s1' c1' p1' w3⟩
theorem dt_cmp {op : CmpOp} {r2 : R2} {g : PyData → PyData → Option Out} (ho : OpR X (compareOp op) r2) (hg : OpD X.K r2 g) (ha : DE X a wa) (hb : DE X b wb) (hm : behindInMarks op b = false) : DT X (.Compare a [op] [b] pos) (wB (wBin g wa wb)) := by
  obtain ⟨ta, pa, ha⟩ := ha
  obtain ⟨tb, pb, hb⟩ := hb
  refine ⟨_, pt_cmpR ho pa pb hm, fun G H As σ ρ κ P Q c p w k => ?_⟩
  refine bin_reads hg ha hb G H As σ ρ κ _ _ c p w fun v r G1 H1 As1 κ1 s1 c1 p1 i1 w1 => ?_
  cases r with
  | d x =>
    cases x with
    | bool z =>
      have i1 : Rp X.K G1 v (.bool z) := i1
      cases i1
      exact ⟨z, rfl, k z G1 H1 As1 κ1 s1 c1 p1 w1⟩
    | _ => exact w1.elim
  | _ => exact w1.elim
def wNot (wt : DTT) : DTT := fun ρ κ P => wt ρ κ fun b κ1 => P (!b) κ1
def wAnd (wt wu : DTT) : DTT := fun ρ κ P => wt ρ κ fun b κ1 => if b = true then wu ρ κ1 P else P false κ1
def wOr (wt wu : DTT) : DTT := fun ρ κ P => wt ρ κ fun b κ1 => if b = true then P true κ1 else wu ρ κ1 P
theorem dt_not (h : DT X a wt) : DT X (.UnaryOp .Not a pos) (wNot wt) := by
  obtain ⟨t, pt, h⟩ := h
  exact ⟨_, pt_not pt, fun G H As σ ρ κ P Q c p w k => h G H As σ ρ κ _ _ c p w fun b => k (!b)⟩
theorem dw_pt (h : DW X a wt) : DT X a wt := by
  obtain ⟨t, pt, h⟩ := h
  exact ⟨_, pt.pt, h⟩
theorem dw_and1 (h : DT X a wt) : DW X (.BoolOp .And [a] pos) wt := by
  obtain ⟨t, pt, h⟩ := h
  exact ⟨_, pw_and1 pt, h⟩
theorem dw_or1 (h : DT X a wt) : DW X (.BoolOp .Or [a] pos) wt := by
  obtain ⟨t, pt, h⟩ := h
  exact ⟨_, pw_or1 pt, h⟩
theorem dw_and (h : DT X a wt) (hb : DW X (.BoolOp .And (b :: es) pos) wu) : DW X (.BoolOp .And (a :: b :: es) pos) (wAnd wt wu) := by
  obtain ⟨t, pt, h⟩ := h
  obtain ⟨u, pu, hb⟩ := hb
  refine ⟨_, pw_and pt pu, fun G H As σ ρ κ P Q c p w k => ?_⟩
  refine h G H As σ ρ κ _ _ c p w fun z G1 H1 As1 κ1 s1 c1 p1 w1 => ?_
  cases z with
  | true =>
    rw [if_pos rfl] at w1 ⊢
    exact hb G1 H1 As1 σ ρ κ1 _ _ c1 p1 w1 fun y G2 H2 As2 κ2 s2 c2 p2 w2 => k y G2 H2 As2 κ2 (s1.trans s2) c2 p2 w2
  | false =>
    rw [if_neg (by decide)] at w1 ⊢
    exact k false G1 H1 As1 κ1 s1 c1 p1 w1
theorem dw_or (h : DT X a wt) (hb : DW X (.BoolOp .Or (b :: es) pos) wu) : DW X (.BoolOp .Or (a :: b :: es) pos) (wOr wt wu) := by
  obtain ⟨t, pt, h⟩ := h
  obtain ⟨u, pu, hb⟩ := hb
  refine ⟨_, pw_or pt pu, fun G H As σ ρ κ P Q c p w k => ?_⟩
  refine h G H As σ ρ κ _ _ c p w fun z G1 H1 As1 κ1 s1 c1 p1 w1 => ?_
  cases z with
  | false =>
    rw [if_neg (by decide)] at w1 ⊢
    exact hb G1 H1 As1 σ ρ κ1 _ _ c1 p1 w1 fun y G2 H2 As2 κ2 s2 c2 p2 w2 => k y G2 H2 As2 κ2 (s1.trans s2) c2 p2 w2
  | true =>
    rw [if_pos rfl] at w1 ⊢
    exact k true G1 H1 As1 κ1 s1 c1 p1 w1
def wAndV (wa wb : DTE) : DTE := fun ρ κ P => wa ρ κ fun r κ1 => match r with
  | .d (.bool z) => if z = true then wb ρ κ1 P else P (.d (.bool false)) κ1
  | _ => False
def wOrV (wa wb : DTE) : DTE := fun ρ κ P => wa ρ κ fun r κ1 => match r with
  | .d (.bool z) => if z = true then P (.d (.bool true)) κ1 else wb ρ κ1 P
  | _ => False
def wNotV (wa : DTE) : DTE := fun ρ κ P => wa ρ κ fun r κ1 => match r with
  | .d (.bool z) => P (.d (.bool (!z))) κ1
  | _ => False
def wIf (wt : DTT) (wa wb : DTE) : DTE := fun ρ κ P => wt ρ κ fun z κ1 => if z = true then wa ρ κ1 P else wb ρ κ1 P
theorem de_one {op : BoolOp} (h : DE X a wa) : DE X (.BoolOp op [a] pos) wa := by
  obtain ⟨t, pt, h⟩ := h
  exact ⟨_, pe_one pt, h⟩
theorem de_and (ha : DE X a wa) (hb : DE X (.BoolOp .And (b :: es) pos) wb) : DE X (.BoolOp .And (a :: b :: es) pos) (wAndV wa wb) := by
  obtain ⟨t, pt, ha⟩ := ha
  obtain ⟨u, pu, hb⟩ := hb
  refine ⟨_, pe_and pt pu, fun G H As σ ρ κ P Q c p w k => ?_⟩
  refine ha G H As σ ρ κ _ _ c p w fun v r G1 H1 As1 κ1 s1 c1 p1 i1 w1 => ?_
  cases r with
  | d x =>
    cases x with
    | bool z =>
      have i1 : Rp X.K G1 v (.bool z) := i1
      cases i1
      refine ⟨z, rfl, ?_⟩
      cases z with
      | true =>
        simp only [if_pos] at w1
        rw [if_pos rfl]
        exact hb G1 H1 As1 σ ρ κ1 _ _ c1 p1 w1 fun y r2 G2 H2 As2 κ2 s2 c2 p2 i2 w2 => k y r2 G2 H2 As2 κ2 (s1.trans s2) c2 p2 (i2.back s1) w2
      | false =>
        simp only [if_neg (show ¬ false = true by decide)] at w1
        rw [if_neg (by decide)]
        exact k _ (.d (.bool false)) G1 H1 As1 κ1 s1 c1 p1 (.bl false) w1
    | _ => exact w1.elim
  | _ => exact w1.elim
theorem de_not (ha : DE X a wa) : DE X (.UnaryOp .Not a pos) (wNotV wa) := by
  obtain ⟨t, pt, ha⟩ := ha
  refine ⟨_, pe_not pt, fun G H As σ ρ κ P Q c p w k => ?_⟩
  refine ha G H As σ ρ κ _ _ c p w fun v r G1 H1 As1 κ1 s1 c1 p1 i1 w1 => ?_
  cases r with
  | d x =>
    cases x with
    | bool z =>
      have i1 : Rp X.K G1 v (.bool z) := i1
      cases i1
      exact ⟨z, rfl, k _ (.d (.bool (!z))) G1 H1 As1 κ1 s1 c1 p1 (.bl (!z)) w1⟩
    | _ => exact w1.elim
  | _ => exact w1.elim
theorem de_ifx {t : Expr} (ht : DT X t wt) (ha : DE X a wa) (hb : DE X b wb) : DE X (.IfExp t a b pos) (wIf wt wa wb) := by
  obtain ⟨tt, pt, ht⟩ := ht
  obtain ⟨ta, pa, ha⟩ := ha
  obtain ⟨tb, pb, hb⟩ := hb
  refine ⟨_, pe_ifExp pt pa pb, fun G H As σ ρ κ P Q c p w k => ?_⟩
  refine ht G H As σ ρ κ _ _ c p w fun z G1 H1 As1 κ1 s1 c1 p1 w1 => ?_
  cases z with
  | true =>
    rw [if_pos rfl] at w1 ⊢
    exact ha G1 H1 As1 σ ρ κ1 _ _ c1 p1 w1 fun y r2 G2 H2 As2 κ2 s2 c2 p2 i2 w2 => k y r2 G2 H2 As2 κ2 (s1.trans s2) c2 p2 (i2.back s1) w2
  | false =>
    rw [if_neg (by decide)] at w1 ⊢
    exact hb G1 H1 As1 σ ρ κ1 _ _ c1 p1 w1 fun y r2 G2 H2 As2 κ2 s2 c2 p2 i2 w2 => k y r2 G2 H2 As2 κ2 (s1.trans s2) c2 p2 (i2.back s1) w2
end
def Wr (js : List Nat) (σ σ' : L2.St) : Prop := σ'.length = σ.length ∧ ∀ i, i ∉ js → σ'[i]? = σ[i]?
def DG (X : Cx) (e : Expr) (js : List Nat) (w : DTG) : Prop := ∃ g, PG X e g ∧ ∀ (G H : Hp) (As : List Addr) (σ : L2.St) (ρ : Rho) (κ : Kap) (v : V) (r : R) (P : Rho → Kap → Prop) (Q : L2.St → Hp → Prop), Cells X.K G H As κ → Places X.K G As σ ρ → It X.K G As v r → w r ρ κ P →
  (∀ σ' ρ' G' H' As' κ', Wr js σ σ' → Step G H As G' H' As' → Cells X.K G' H' As' κ' → Places X.K G' As' σ' ρ' → P ρ' κ' → Q σ' H') → g v σ H Q
def DGs (X : Cx) (es : List Expr) (js : List Nat) (w : List PyData → Rho → Kap → (Rho → Kap → Prop) → Prop) : Prop := ∃ g, PGs X es g ∧ ∀ (G H : Hp) (As : List Addr) (σ : L2.St) (ρ : Rho) (κ : Kap) (vs : List V) (xs : List PyData) (P : Rho → Kap → Prop) (Q : L2.St → Hp → Prop), Cells X.K G H As κ → Places X.K G As σ ρ → RpA X.K G vs xs → w xs ρ κ P →
  (∀ σ' ρ' G' H' As' κ', Wr js σ σ' → Step G H As G' H' As' → Cells X.K G' H' As' κ' → Places X.K G' As' σ' ρ' → P ρ' κ' → Q σ' H') → g vs σ H Q
theorem Wr.refl {js : List Nat} {σ : L2.St} : Wr js σ σ := ⟨rfl, fun _ _ => rfl⟩
theorem Wr.trans {js is : List Nat} {σ σ1 σ2 : L2.St} (a : Wr js σ σ1) (b : Wr is σ1 σ2) : Wr (js ++ is) σ σ2 :=
  ⟨b.1.trans a.1, fun i h => (b.2 i fun z => h (List.mem_append_right _ z)).trans (a.2 i fun z => h (List.mem_append_left _ z))⟩
theorem wipe_in {σ : L2.St} {i : Nat} : ∀ {vs : List Nat}, i ∈ vs → (wipe σ vs)[i]? = if i < σ.length then some none else none
  | [], h => by cases h
  | v :: vs, h => by
    unfold wipe
    by_cases e : v = i
    · subst e
      by_cases hl : v < σ.length
      · rw [if_pos hl, List.getElem?_set_self (by rw [wipe_length]; exact hl)]
      · rw [if_neg hl, List.getElem?_eq_none (by rw [List.length_set, wipe_length]; omega)]
    · rw [List.getElem?_set_ne e]
      rcases List.mem_cons.mp h with z | z
      · exact absurd z.symm e
      · exact wipe_in z
theorem Wr.wipe {js vs : List Nat} {σ σ' : L2.St} (w : Wr js σ σ') (h : ∀ j, j ∈ js → j ∈ vs) : wipe σ' vs = wipe σ vs := by
  refine List.ext_getElem? fun i => ?_
  by_cases hi : i ∈ vs
  · rw [wipe_in hi, wipe_in hi, w.1]
  · rw [wipe_out hi, wipe_out hi]
    exact w.2 i fun z => hi (h i z)
def wName (i : Nat) : DTG := fun r ρ κ P => P (ρ.set i (some r)) κ
def wgNil : List PyData → Rho → Kap → (Rho → Kap → Prop) → Prop := fun xs ρ κ P => match xs with
  | [] => P ρ κ
  | _ => False
def wgCons (g : DTG) (gs : List PyData → Rho → Kap → (Rho → Kap → Prop) → Prop) : List PyData → Rho → Kap → (Rho → Kap → Prop) → Prop := fun xs ρ κ P => match xs with
  | x :: xs => g (.d x) ρ κ fun ρ1 κ1 => gs xs ρ1 κ1 P
  | [] => False
def wTupG (n : Nat) (gs : List PyData → Rho → Kap → (Rho → Kap → Prop) → Prop) : DTG := fun r ρ κ P => match r with
  | .d (.tuple xs) => xs.length = n ∧ gs xs ρ κ P
  | _ => False
section
variable {X : Cx} {pos : Pos} {e : Expr} {es : List Expr} {js is : List Nat} {wg : DTG} {gs : List PyData → Rho → Kap → (Rho → Kap → Prop) → Prop}
theorem dg_name (i : Nat) {x : Str} (hN : X.N.Nodup) (hi : X.N[i]? = some x := by rfl) (hx : Loc X.env.scope x := by first | exact Or.inl rfl | exact Or.inr rfl) (hf : X.fn x = true ∨ X.env.scope.names.lookup x = some .local := by first | exact .inl rfl | exact .inr rfl) : DG X (.Name x pos) [i] (wName i) := by
  refine ⟨_, pg_name hN hi hx hf, fun G H As σ ρ κ v r P Q c p h w k => ?_⟩
  refine k _ _ G H As κ ⟨by rw [List.length_set], fun j hj => List.getElem?_set_ne fun z => hj (by rw [z]; exact List.mem_singleton.mpr rfl)⟩ Step.refl c (p.put i h) w
theorem dgs_nil : DGs X [] [] wgNil := by
  refine ⟨_, pgs_nil, fun G H As σ ρ κ vs xs P Q c p h w k => ?_⟩
  cases h with
  | nil => exact ⟨rfl, k σ ρ G H As κ Wr.refl Step.refl c p w⟩
  | cons _ _ => exact w.elim
theorem dgs_cons (h1 : DG X e js wg) (h2 : DGs X es is gs) (hs : (assignEach (e :: es) X.env).map (·.2) = assign e X.env :: (assignEach es X.env).map (·.2) := by rfl) : DGs X (e :: es) (js ++ is) (wgCons wg gs) := by
  obtain ⟨g, pg, h1⟩ := h1
  obtain ⟨u, pu, h2⟩ := h2
  refine ⟨_, pgs_cons pg pu hs, fun G H As σ ρ κ vs xs P Q c p h w k => ?_⟩
  cases h with
  | nil => exact w.elim
  | cons r1 r2 =>
    refine ⟨_, _, rfl, ?_⟩
    refine h1 G H As σ ρ κ _ (.d _) _ _ c p r1 w fun σ1 ρ1 G1 H1 As1 κ1 a1 s1 c1 p1 w1 => ?_
    refine h2 G1 H1 As1 σ1 ρ1 κ1 _ _ _ _ c1 p1 (RpA.mono s1.ex _ _ r2) w1 fun σ2 ρ2 G2 H2 As2 κ2 a2 s2 c2 p2 w2 => ?_
    exact k σ2 ρ2 G2 H2 As2 κ2 (a1.trans a2) (s1.trans s2) c2 p2 w2
theorem dg_tup {k n : Nat} (hc : X.calm = true) (h : DGs X es js gs) (hn : (assignEach es X.env).length = n := by rfl) (hst : (assignEach es X.env).findIdx? (·.1) = none := by rfl) : DG X (.Tuple es k pos) js (wTupG n gs) := by
  obtain ⟨g, pg, h⟩ := h
  refine ⟨_, pg_tup hc pg hn hst, fun G H As σ ρ κ v r P Q c p i w k => ?_⟩
  unfold wTupG at w
  split at w
  · rename_i xs
    obtain ⟨hl, w⟩ := w
    have i : Rp X.K G v (.tuple xs) := i
    cases i with
    | tup h1 h2 => exact ⟨_, _, rfl, sqt_of (c.ext _ _ h1), h2.len.trans hl, h G H As σ ρ κ _ _ P Q c p h2 w k⟩
  · exact w.elim
end
def wNext : DTS := fun E ρ κ => E.nx ρ κ
def wSeq (a b : DTS) : DTS := fun E ρ κ => a { E with nx := b E } ρ κ
def wAsg (we : DTE) (wg : DTG) : DTS := fun E ρ κ => we ρ κ fun r κ1 => wg r.st ρ κ1 E.nx
def wSet (m : Bool) (i : Nat) (we : DTE) : DTS := fun E ρ κ => we ρ κ fun r κ1 => E.nx (ρ.set i (some (sto m r κ1).1)) (sto m r κ1).2
def wPar (i j : Nat) (wa : DTA) : DTS := fun E ρ κ => wa ρ κ fun rs κ1 => match rs with
  | [r, q] => E.nx ((ρ.set i (some r)).set j (some q)) κ1
  | _ => False
def wDrop (we : DTE) : DTS := fun E ρ κ => we ρ κ fun _ κ1 => E.nx ρ κ1
def wRet (we : DTE) : DTS := fun E ρ κ => we ρ κ E.rt
def wRetN : DTS := fun E _ κ => E.rt (.d .none) κ
def wIfS (wt : DTT) (a b : DTS) : DTS := fun E ρ κ => wt ρ κ fun z κ1 => if z = true then a E ρ κ1 else b E ρ κ1
def wBrk : DTS := fun E ρ κ => E.bk ρ κ
def wCnt : DTS := fun E ρ κ => E.ct ρ κ
section
variable {X : Cx} {pos : Pos} {e a b tg : Expr} {es : List Expr} {st : Stmt} {sts sts2 : List Stmt} {w u : DTS} {we wa : DTE} {wr : DTA} {wt : DTT} {wg : DTG} {js : List Nat}
theorem dss_nil : DSs X [] wNext := ⟨_, pss_nil, fun G H As σ ρ κ E D c p w r => r.nx σ ρ G H As κ Step.refl c p w⟩
theorem dss_cons (h1 : DS X st w) (h2 : DSs X sts u) : DSs X (st :: sts) (wSeq w u) := by
  obtain ⟨t1, p1, h1⟩ := h1
  obtain ⟨t2, p2, h2⟩ := h2
  refine ⟨_, pss_cons p1 p2, fun G H As σ ρ κ E D c p w r => ?_⟩
  refine h1 G H As σ ρ κ { E with nx := u E } _ c p w ⟨fun σ1 ρ1 G1 H1 As1 κ1 s1 c1 pl1 w1 => ?_, r.bk, r.ct, r.rt⟩
  exact h2 G1 H1 As1 σ1 ρ1 κ1 E D c1 pl1 w1 (r.step s1)
theorem dss_one (h1 : DS X st w) : DSs X [st] w := by
  obtain ⟨t1, p1, h1⟩ := h1
  exact ⟨_, pss_one p1, h1⟩
theorem ds_asg (he : DE X e we) (hg : DG X tg js wg) (hs : swapsWithSole [tg] e pos.line X.env = pure false := by rfl) (hw : swappedStores [tg] e X.env = pure none := by rfl) (h1 : (assignEach [tg] X.env).map (·.2) = [assign tg X.env] := by rfl) : DS X (.Assign [tg] e pos) (wAsg we wg) := by
  obtain ⟨t, pt, he⟩ := he
  obtain ⟨g, pg, hg⟩ := hg
  refine ⟨_, ps_asg pt pg hs hw h1, fun G H As σ ρ κ E D c p w r => ?_⟩
  refine he G H As σ ρ κ _ _ c p w fun v q G1 H1 As1 κ1 s1 c1 p1 i1 w1 => ?_
  obtain ⟨G1', s1', c1', p1', i1', _⟩ := settle s1 c1 p1 i1
  refine hg G1' H1 As1 σ ρ κ1 _ _ _ _ c1' p1' i1' w1 fun σ2 ρ2 G2 H2 As2 κ2 _ s2 c2 p2 w2 => ?_
  exact r.nx σ2 ρ2 G2 H2 As2 κ2 (s1'.trans s2) c2 p2 w2
theorem ds_set (m : Bool) (i : Nat) {x : Str} {pos' : Pos} (hN : X.N.Nodup) (he : DE X e we) (hi : X.N[i]? = some x := by rfl) (hx : Loc X.env.scope x := by first | exact Or.inl rfl | exact Or.inr rfl) (hs : swapsWith e (some (.Name x pos')) pos.line X.env = pure false := by rfl)
    (hf : X.fn x = true ∨ X.env.scope.names.lookup x = some .local := by first | exact .inl rfl | exact .inr rfl) : DS X (.Assign [.Name x pos'] e pos) (wSet m i we) := by
  obtain ⟨t, pt, he⟩ := he
  refine ⟨_, ps_set hN hi hx pt hs hf, fun G H As σ ρ κ E D c p w r => ?_⟩
  refine he G H As σ ρ κ _ _ c p w fun v q G1 H1 As1 κ1 s1 c1 p1 i1 w1 => ?_
  obtain ⟨G1', As1', s1', c1', i1', e1, e2⟩ := sto_ok m s1 c1 i1
  exact r.nx _ _ G1' H1 As1' _ s1' c1' ((p1.mono e1 e2).put i i1') w1
theorem ds_par (i j : Nat) {x y : Str} {px py pt : Pos} {kt k2 : Nat} {pt2 : Pos} (hc : X.calm = true) (hN : X.N.Nodup) (ha : DA X [a, b] wr) (hi : X.N[i]? = some x := by rfl) (hj : X.N[j]? = some y := by rfl) (hij : i ≠ j := by decide)
    (hx : X.env.scope.names.lookup x = some .local := by rfl) (hy : X.env.scope.names.lookup y = some .local := by rfl)
    (hw : swappedStores [.Tuple [.Name x px, .Name y py] kt pt] (.Tuple [a, b] k2 pt2) X.env = pure (some [x, y]) := by rfl)
    (hs : swapsWithSole [.Tuple [.Name x px, .Name y py] kt pt] (.Tuple [a, b] k2 pt2) pos.line X.env = pure false := by rfl) :
    DS X (.Assign [.Tuple [.Name x px, .Name y py] kt pt] (.Tuple [a, b] k2 pt2) pos) (wPar i j wr) := by
  obtain ⟨t, ptt, ha⟩ := ha
  refine ⟨_, ps_par hc hN hi hj hij hx hy ptt hw hs, fun G H As σ ρ κ E D c p w r => ?_⟩
  refine ha G H As σ ρ κ _ _ c p w fun vs rs G1 H1 As1 κ1 s1 c1 p1 i1 l1 w1 => ?_
  match rs, vs, i1, w1 with
  | [q1, q2], _, .cons h1 (.cons h2 .nil), w1 => exact ⟨_, _, rfl, r.nx _ _ G1 H1 As1 κ1 s1 c1 ((p1.put i h1).put j h2) w1⟩
  | [], _, _, w1 => exact w1.elim
  | [_], _, _, w1 => exact w1.elim
  | _ :: _ :: _ :: _, _, _, w1 => exact w1.elim
theorem ds_expr (he : DE X e we) (hs : swapsWith e none pos.line X.env = pure false := by rfl) : DS X (.Expr e pos) (wDrop we) := by
  obtain ⟨t, pt, he⟩ := he
  refine ⟨_, ps_expr pt hs, fun G H As σ ρ κ E D c p w r => ?_⟩
  exact he G H As σ ρ κ _ _ c p w fun v q G1 H1 As1 κ1 s1 c1 p1 i1 w1 => r.nx σ ρ G1 H1 As1 κ1 s1 c1 p1 w1
theorem ds_ret (he : DE X e we) : DS X (.Return (some e) pos) (wRet we) := by
  obtain ⟨t, pt, he⟩ := he
  refine ⟨_, ps_ret pt, fun G H As σ ρ κ E D c p w r => ?_⟩
  exact he G H As σ ρ κ _ _ c p w fun v q G1 H1 As1 κ1 s1 c1 p1 i1 w1 => r.rt v q G1 H1 As1 κ1 s1 c1 i1 w1
theorem ds_if {t : Expr} (ht : DT X t wt) (ha : DSs X sts w) (hb : DSs X sts2 u) : DS X (.If t sts sts2 pos) (wIfS wt w u) := by
  obtain ⟨tt, pt, ht⟩ := ht
  obtain ⟨ta, pa, ha⟩ := ha
  obtain ⟨tb, pb, hb⟩ := hb
  refine ⟨_, ps_if pt pa pb, fun G H As σ ρ κ E D c p w r => ?_⟩
  refine ht G H As σ ρ κ _ _ c p w fun z G1 H1 As1 κ1 s1 c1 p1 w1 => ?_
  cases z with
  | true =>
    rw [if_pos rfl] at w1 ⊢
    exact ha G1 H1 As1 σ ρ κ1 E D c1 p1 w1 (r.step s1)
  | false =>
    rw [if_neg (by decide)] at w1 ⊢
    exact hb G1 H1 As1 σ ρ κ1 E D c1 p1 w1 (r.step s1)
end
end DL
namespace DL
open PySem PySem.Spec PyProof.Rows L2
def WalkOk (K : PySem.W.Frag) (G : Hp) (As : List Addr) (J : L2.It) (xs : List PyData) (ok : Kap → Prop) : Prop := ∀ (G' H' : Hp) (As' : List Addr) (κ' : Kap), Ex G G' → (∃ bs, As' = As ++ bs) → Cells K G' H' As' κ' → ok κ' →
  (∀ i, i < xs.length → J.go i H') ∧ J.stop xs.length H' ∧ ∀ i v H'' x, J.yld i H' v H'' → xs[i]? = some x → ∃ G'', Step G' H' As' G'' H'' As' ∧ Cells K G'' H'' As' κ' ∧ Rp K G'' v x
abbrev DTI := Rho → Kap → (List PyData → (Kap → Prop) → Kap → Prop) → Prop
def DI (X : Cx) (tg it : Expr) (w : DTI) : Prop := ∃ t, PI X tg it t ∧ ∀ (G H : Hp) (As : List Addr) (σ : L2.St) (ρ : Rho) (κ : Kap) (P : List PyData → (Kap → Prop) → Kap → Prop) (R : L2.It → Hp → Prop), Cells X.K G H As κ → Places X.K G As σ ρ → w ρ κ P →
  (∀ J xs ok G' H' As' κ', Step G H As G' H' As' → Cells X.K G' H' As' κ' → Places X.K G' As' σ ρ → WalkOk X.K G' As' J xs ok → ok κ' → P xs ok κ' → R J H') → t σ H R
/-- a list, a tuple, a text -/
def iSeq (K : PySem.W.Frag) (tl : TE) : TI := fun σ H R => tl σ H fun x H1 => (∃ a xs, x = .ref a ∧ SqL K H1 a xs ∧ R (Itl K a) H1) ∨ (∃ a xs, x = .ref a ∧ SqT K H1 a xs ∧ R (Itt K a) H1) ∨ ∃ z, x = .str z ∧ R (Its z) H1
section
variable {X : Cx} {tg l : Expr}
theorem pi_seq {tl : TE} (hl : PE X l tl) : PI X tg l (iSeq X.K tl) := by
  refine ⟨fun pins s σ H R I h => ?_⟩
  refine thn (hl.run pins s σ H _ I h) fun v s1 ⟨x, H1, I1, r1, q1⟩ => ?_
  rcases q1 with ⟨a, xs, ex, hq, q⟩ | ⟨a, xs, ex, hq, q⟩ | ⟨z, ex, q⟩
  · subst ex
    cases r1
    obtain ⟨its, rv, pl, hz⟩ := I1.list hq
    refine wpAny_pyIter_list pl.isList ⟨s1.heap.objs.size, [s1.heap.objs.size], _, _, H1, rfl, I1.kept (t' := s1.toks) fun b o e => Heap.get?_push_of_some _ e, turn_list a _, ⟨_, Heap.get?_push_size _ rfl, rfl, rfl⟩, fun b hb => ?_, q⟩
    have e : b = s1.heap.objs.size := by simpa using hb
    subst e
    exact I1.fpOk (Nat.le_refl _) (I1.hok.fresh (Nat.le_refl _))
  · subst ex
    cases r1
    obtain ⟨its, rv, pl, hz⟩ := I1.tuple hq
    refine wpAny_pyIter_tuple (show s1.heap.IsTuple a its.toArray from pl) ⟨s1.heap.objs.size, [s1.heap.objs.size], _, _, H1, rfl, I1.kept (t' := s1.toks) fun b o e => Heap.get?_push_of_some _ e, turn_tuple a _, ⟨_, Heap.get?_push_size _ rfl, rfl, rfl⟩, fun b hb => ?_, q⟩
    have e : b = s1.heap.objs.size := by simpa using hb
    subst e
    exact I1.fpOk (Nat.le_refl _) (I1.hok.fresh (Nat.le_refl _))
  · subst ex
    obtain ⟨t, rfl⟩ := r1
    cases ha : z.cps.all (· < 128)
    · exact wpAny_pyIter_wide ha (pi_one (tk := s1.toks) I1 _ (turn_str _ z t "str_iterator" (.inr rfl)) ⟨_, Heap.get?_push_size _ rfl, rfl, rfl⟩ q)
    · exact wpAny_pyIter_ascii ha (pi_one (tk := s1.toks) I1 _ (turn_str _ z t "str_ascii_iterator" (.inl rfl)) ⟨_, Heap.get?_push_size _ rfl, rfl, rfl⟩ q)
end
def wSq (we : DTE) : DTI := fun ρ κ P => we ρ κ fun r κ1 => Opt (val κ1 r.st) fun x => match x with
  | .list xs => P xs (fun κ' => val κ' r.st = some (.list xs)) κ1
  | .tuple xs => P xs (fun κ' => val κ' r.st = some (.tuple xs)) κ1
  | .str z => P (z.cps.toList.map fun c => .str ⟨#[c]⟩) (fun _ => True) κ1
  | _ => False
section
variable {K : PySem.W.Frag} {G H G' H' : Hp} {As As' : List Addr} {κ : Kap} {v : V} {r : R}
theorem walk_list {a : Addr} {xs : List PyData} (i0 : It K G As (.ref a) r) : WalkOk K G As (Itl K a) xs fun κ' => val κ' r = some (.list xs) := by
  intro G' H' As' κ' e p c h
  obtain ⟨b, vs, ev, h1, h2⟩ := (i0.mono e p).vw c h
  cases ev
  refine ⟨fun i hi => ?_, ⟨vs, sql_of h1, by rw [h2.len]; exact Nat.le_refl _⟩, fun i v H'' x y hx => ?_⟩
  · obtain ⟨v, e1, _⟩ := h2.get (List.getElem?_eq_getElem hi)
    exact ⟨vs, v, sql_of h1, e1⟩
  · obtain ⟨rfl, y⟩ := y
    obtain ⟨d, e1, e2⟩ := h2.getV (y vs (sql_of h1))
    rw [e1] at hx
    cases hx
    exact ⟨G', Step.refl, c, e2⟩
theorem walk_tuple {a : Addr} {xs : List PyData} (i0 : It K G As (.ref a) r) : WalkOk K G As (Itt K a) xs fun κ' => val κ' r = some (.tuple xs) := by
  intro G' H' As' κ' e p c h
  obtain ⟨b, vs, ev, h1, h2⟩ := (i0.mono e p).vw c h |>.tup c.ext
  cases ev
  refine ⟨fun i hi => ?_, ⟨vs, h1, by rw [h2.len]; exact Nat.le_refl _⟩, fun i v H'' x y hx => ?_⟩
  · obtain ⟨v, e1, _⟩ := h2.get (List.getElem?_eq_getElem hi)
    exact ⟨vs, v, h1, e1⟩
  · obtain ⟨rfl, y⟩ := y
    obtain ⟨d, e1, e2⟩ := h2.getV (y vs h1)
    rw [e1] at hx
    cases hx
    exact ⟨G', Step.refl, c, e2⟩
theorem walk_str {z : Str} : WalkOk K G As (Its z) (z.cps.toList.map fun c => .str ⟨#[c]⟩) fun _ => True := by
  intro G' H' As' κ' e p c _
  refine ⟨fun i hi => by simpa [Its] using hi, by simp [Its], fun i v H'' x y hx => ?_⟩
  obtain ⟨rfl, c0, e1, rfl⟩ := y
  rw [List.getElem?_map, Array.getElem?_toList, e1] at hx
  cases hx
  exact ⟨G', Step.refl, c, .str _⟩
theorem walk_range {lo : Int} {n : Nat} : WalkOk K G As (Itr lo n) ((List.range n).map fun (i : Nat) => .int (lo + (i : Int))) fun _ => True := by
  intro G' H' As' κ' e p c _
  refine ⟨fun i hi => by simpa [Itr] using hi, by simp [Itr], fun i v H'' x y hx => ?_⟩
  obtain ⟨rfl, rfl⟩ := y
  rw [List.getElem?_map] at hx
  cases q : (List.range n)[i]? with
  | none => rw [q] at hx; cases hx
  | some j =>
    rw [q] at hx
    have : j = i := by
      obtain ⟨h1, h2⟩ := List.getElem?_eq_some_iff.mp q
      rw [List.getElem_range] at h2
      exact h2.symm
    subst this
    cases hx
    exact ⟨G', Step.refl, c, .int _⟩
def zipD : List PyData → List PyData → List PyData
  | x :: xs, y :: ys => .tuple [x, y] :: zipD xs ys
  | _, _ => []
theorem zipD_get : ∀ {xs ys : List PyData} {i : Nat} {d : PyData}, (zipD xs ys)[i]? = some d → ∃ x y, xs[i]? = some x ∧ ys[i]? = some y ∧ d = .tuple [x, y]
  | [], _, _, _, h => by simp [zipD] at h
  | _ :: _, [], _, _, h => by simp [zipD] at h
  | x :: xs, y :: ys, 0, d, h => by
    simp [zipD] at h
    exact ⟨x, y, rfl, rfl, h.symm⟩
  | x :: xs, y :: ys, i + 1, d, h => by
    obtain ⟨a, b, h1, h2, h3⟩ := zipD_get (xs := xs) (ys := ys) (i := i) (by simpa [zipD] using h)
    exact ⟨a, b, by simpa using h1, by simpa using h2, h3⟩
theorem zipD_len : ∀ (xs ys : List PyData), (zipD xs ys).length = min xs.length ys.length
  | [], _ => by simp [zipD]
  | _ :: _, [] => by simp [zipD]
  | x :: xs, y :: ys => by
    show (zipD xs ys).length + 1 = min (xs.length + 1) (ys.length + 1)
    rw [zipD_len xs ys]; omega
/-- a new pair that a walk hands over -/
theorem pair_new {T : Addr} {u w : V} {x y : PyData} {H' : Hp} (c : Cells K G H As κ) (hT : H T = none) (hu : Rp K G u x) (hw : Rp K G w y) : ∃ G'', Step G H As G'' (upd H T (.tup [u, w])) As ∧ Cells K G'' (upd H T (.tup [u, w])) As κ ∧ Rp K G'' (.ref T) (.tuple [x, y]) := by
  have eG : Ex G (upd G T (.tup [u, w])) := Ex.new (c.ext.free hT)
  exact ⟨upd G T (.tup [u, w]), Step.laid c.ext hT, c.laid hT, .tup upd_same (.cons (Rp.mono eG _ _ hu) (.cons (Rp.mono eG _ _ hw) .nil))⟩
theorem walk_zipL {r2 : R} {a b : Addr} {xs ys : List PyData} (i1 : It K G As (.ref a) r) (i2 : It K G As (.ref b) r2) : WalkOk K G As (Itz K a b) (zipD xs ys) fun κ' => val κ' r = some (.list xs) ∧ val κ' r2 = some (.list ys) := by
  intro G' H' As' κ' e p c ⟨h, h'⟩
  obtain ⟨_, vs, ev, h1, h2⟩ := (i1.mono e p).vw c h
  cases ev
  obtain ⟨_, ws, ev, h3, h4⟩ := (i2.mono e p).vw c h'
  cases ev
  have l1 := h2.len
  have l2 := h4.len
  refine ⟨fun i hi => ?_, ⟨vs, ws, sql_of h1, sql_of h3, ?_⟩, fun i v H'' x y hx => ?_⟩
  · rw [zipD_len] at hi
    have q1 : i < vs.length := by omega
    have q2 : i < ws.length := by omega
    exact ⟨vs, ws, _, _, sql_of h1, sql_of h3, List.getElem?_eq_getElem q1, List.getElem?_eq_getElem q2⟩
  · rw [zipD_len]; omega
  · obtain ⟨T, u, w, rfl, hT, rfl, f1, f2⟩ := y
    obtain ⟨d1, e1, r1⟩ := h2.getV (f1 vs (sql_of h1))
    obtain ⟨d2, e2, r2⟩ := h4.getV (f2 ws (sql_of h3))
    obtain ⟨x1, x2, g1, g2, rfl⟩ := zipD_get hx
    rw [e1] at g1; cases g1
    rw [e2] at g2; cases g2
    exact pair_new (H' := H') c hT r1 r2
theorem walk_zipT {r2 : R} {a b : Addr} {xs ys : List PyData} (i1 : It K G As (.ref a) r) (i2 : It K G As (.ref b) r2) : WalkOk K G As (RZ.ItzT K a b) (zipD xs ys) fun κ' => val κ' r = some (.tuple xs) ∧ val κ' r2 = some (.tuple ys) := by
  intro G' H' As' κ' e p c ⟨h, h'⟩
  obtain ⟨_, vs, ev, h1, h2⟩ := (i1.mono e p).vw c h |>.tup c.ext
  cases ev
  obtain ⟨_, ws, ev, h3, h4⟩ := (i2.mono e p).vw c h' |>.tup c.ext
  cases ev
  have l1 := h2.len
  have l2 := h4.len
  refine ⟨fun i hi => ?_, ⟨vs, ws, h1, h3, ?_⟩, fun i v H'' x y hx => ?_⟩
  · rw [zipD_len] at hi
    have q1 : i < vs.length := by omega
    have q2 : i < ws.length := by omega
    exact ⟨vs, ws, _, _, h1, h3, List.getElem?_eq_getElem q1, List.getElem?_eq_getElem q2⟩
  · rw [zipD_len]; omega
  · obtain ⟨T, u, w, rfl, hT, rfl, f1, f2⟩ := y
    obtain ⟨d1, e1, r1⟩ := h2.getV (f1 vs h1)
    obtain ⟨d2, e2, r2⟩ := h4.getV (f2 ws h3)
    obtain ⟨x1, x2, g1, g2, rfl⟩ := zipD_get hx
    rw [e1] at g1; cases g1
    rw [e2] at g2; cases g2
    exact pair_new (H' := H') c hT r1 r2
def enumD : Nat → List PyData → List PyData
  | _, [] => []
  | i, x :: xs => .tuple [.int i, x] :: enumD (i + 1) xs
end
section
variable {X : Cx} {tg l : Expr} {we : DTE} {pos p : Pos}
theorem di_seq (he : DE X l we) : DI X tg l (wSq we) := by
  obtain ⟨t, pt, he⟩ := he
  refine ⟨_, pi_seq pt, fun G H As σ ρ κ P R c p w k => ?_⟩
  refine he G H As σ ρ κ _ _ c p w fun v r G1 H1 As1 κ1 s1 c1 p1 i1 w1 => ?_
  obtain ⟨G1', s1', c1', p1', i1', _⟩ := settle s1 c1 p1 i1
  obtain ⟨x, ex, w2⟩ := w1.ex
  cases x with
  | list xs =>
    obtain ⟨a, vs, rfl, h1, h2⟩ := i1'.vw c1' ex
    exact .inl ⟨a, vs, rfl, sql_of h1, k _ xs _ G1' H1 As1 κ1 s1' c1' p1' (walk_list i1') ex w2⟩
  | tuple xs =>
    obtain ⟨a, vs, rfl, h1, h2⟩ := i1'.vw c1' ex |>.tup c1'.ext
    exact .inr (.inl ⟨a, vs, rfl, h1, k _ xs _ G1' H1 As1 κ1 s1' c1' p1' (walk_tuple i1') ex w2⟩)
  | str z =>
    have h := i1'.vw c1' ex
    cases h
    exact .inr (.inr ⟨z, rfl, k _ _ _ G1' H1 As1 κ1 s1' c1' p1' walk_str trivial w2⟩)
  | none => exact w2.elim
  | bool _ => exact w2.elim
  | int _ => exact w2.elim
  | dict _ => exact w2.elim
def wRng1 (wa : DTA) : DTI := fun ρ κ P => wa ρ κ fun rs κ1 => match rs with
  | [.d (.int n)] => -(2 ^ 62) ≤ n ∧ n < 2 ^ 62 ∧ P ((List.range n.toNat).map fun (i : Nat) => .int (0 + (i : Int))) (fun _ => True) κ1
  | _ => False
def wRev (wa : DTA) : DTI := fun ρ κ P => wa ρ κ fun rs κ1 => match rs with
  | [r] => Opt (val κ1 r) fun x => match x with
    | .list xs => P xs.reverse (fun κ' => val κ' r = some (.list xs)) κ1
    | _ => False
  | _ => False
def wEnum (wa : DTA) : DTI := fun ρ κ P => wa ρ κ fun rs κ1 => match rs with
  | [r] => Opt (val κ1 r) fun x => match x with
    | .list xs => P (enumD 0 xs) (fun κ' => val κ' r = some (.list xs)) κ1
    | .tuple xs => P (enumD 0 xs) (fun κ' => val κ' r = some (.tuple xs)) κ1
    | _ => False
  | _ => False
def wZip (wa : DTA) : DTI := fun ρ κ P => wa ρ κ fun rs κ1 => match rs with
  | [r, q] => Opt (val κ1 r) fun x => Opt (val κ1 q) fun y => match x, y with
    | .list xs, .list ys => P (zipD xs ys) (fun κ' => val κ' r = some (.list xs) ∧ val κ' q = some (.list ys)) κ1
    | .tuple xs, .tuple ys => P (zipD xs ys) (fun κ' => val κ' r = some (.tuple xs) ∧ val κ' q = some (.tuple ys)) κ1
    | _, _ => False
  | _ => False
variable {wr : DTA} {a b : Expr}
theorem di_range1 (hm : X.mg "range" = none) (ha : DA X [a] wr) (hg : Gl X "range" := by rfl) (hs : starEach [a] X.env = [(false, eval a X.env)] := by rfl) : DI X tg (.Call (.Name "range" p) [a] [] pos) (wRng1 wr) := by
  obtain ⟨t, pt, ha⟩ := ha
  refine ⟨_, pi_range1 hg hm pt hs, fun G H As σ ρ κ P R c p w k => ?_⟩
  refine ha G H As σ ρ κ _ _ c p w fun vs rs G1 H1 As1 κ1 s1 c1 p1 i1 l1 w1 => ?_
  split at w1
  · rename_i n
    obtain ⟨h1, h2, w1⟩ := w1
    match vs, i1 with
    | [_], .cons z .nil =>
      have z : Rp X.K G1 _ (.int n) := z
      cases z
      exact ⟨n, rfl, h1, h2, k _ _ _ G1 H1 As1 κ1 s1 c1 p1 walk_range trivial w1⟩
  · exact w1.elim
theorem di_zip {elts : List Expr} {kk : Nat} {tpos : Pos} (hm : X.mg "zip" = none) (ha : DA X [a, b] wr) (hg : Gl X "zip" := by rfl) (hs : starEach [a, b] X.env = (false, eval a X.env) :: starEach [b] X.env := by rfl) (hpl : (backTo pos (starEach [b] X.env)).any (·.1) = false := by rfl) :
    DI X (.Tuple elts kk tpos) (.Call (.Name "zip" p) [a, b] [] pos) (wZip wr) := by
  obtain ⟨t, pt, ha⟩ := ha
  refine ⟨_, RZ.pi_zipA hg hm pt hs hpl, fun G H As σ ρ κ P R c p w k => ?_⟩
  refine ha G H As σ ρ κ _ _ c p w fun vs rs G1 H1 As1 κ1 s1 c1 p1 i1 l1 w1 => ?_
  split at w1
  · rename_i r q
    obtain ⟨x, ex, w2⟩ := w1.ex
    obtain ⟨y, ey, w2⟩ := w2.ex
    match vs, i1 with
    | [_, _], .cons z1 (.cons z2 .nil) =>
      split at w2
      · obtain ⟨a, ws, rfl, h1, h2⟩ := z1.vw c1 ex
        obtain ⟨b, us, rfl, h3, h4⟩ := z2.vw c1 ey
        exact ⟨a, b, ws, us, rfl, .inl ⟨sql_of h1, sql_of h3, k _ _ _ G1 H1 As1 κ1 s1 c1 p1 (walk_zipL z1 z2) ⟨ex, ey⟩ w2⟩⟩
      · obtain ⟨a, ws, rfl, h1, h2⟩ := z1.vw c1 ex |>.tup c1.ext
        obtain ⟨b, us, rfl, h3, h4⟩ := z2.vw c1 ey |>.tup c1.ext
        exact ⟨a, b, ws, us, rfl, .inr ⟨h1, h3, k _ _ _ G1 H1 As1 κ1 s1 c1 p1 (walk_zipT z1 z2) ⟨ex, ey⟩ w2⟩⟩
      · exact w2.elim
  · exact w1.elim
end
def forL (ok : Kap → Prop) (g : DTG) (b : DTS) (E : DEnds) : List PyData → Rho → Kap → Prop
  | [], ρ, κ => E.nx ρ κ
  | x :: xs, ρ, κ => g (.d x) ρ κ fun ρ1 κ1 => b { nx := fun ρ2 κ2 => ok κ2 ∧ forL ok g b E xs ρ2 κ2, rt := E.rt, bk := E.nx, ct := fun ρ2 κ2 => ok κ2 ∧ forL ok g b E xs ρ2 κ2 } ρ1 κ1
def wFor (wi : DTI) (g : DTG) (b : DTS) : DTS := fun E ρ κ => wi ρ κ fun xs ok κ1 => forL ok g b E xs ρ κ1
def whileN (t : DTT) (b : DTS) (E : DEnds) : Nat → Rho → Kap → Prop
  | 0, _, _ => False
  | n + 1, ρ, κ => t ρ κ fun z κ1 => if z = true then b { nx := whileN t b E n, rt := E.rt, bk := E.nx, ct := whileN t b E n } ρ κ1 else E.nx ρ κ1
def wWhile (t : DTT) (b : DTS) : DTS := fun E ρ κ => ∃ n, whileN t b E n ρ κ
section
variable {X : Cx} {tg it c : Expr} {body : List Stmt} {wi : DTI} {g : DTG} {b : DTS} {js : List Nat} {pos : Pos} {wt : DTT}
theorem ds_for (hp : PassesOwn (model X.prog X.w) X.A X.env X.xe) (hc : X.calm = true) (hi : DI X tg it wi) (hg : DG X tg js g) (hb : DSs X body b) (hs : ∀ x, foldedSetIterable it X.env x = pure x := by intro _; rfl) : DS X (.For tg it body [] pos) (wFor wi g b) := by
  obtain ⟨ti, pi, hi⟩ := hi
  obtain ⟨tg', pg, hg⟩ := hg
  obtain ⟨tb, pb, hb⟩ := hb
  refine ⟨_, ps_for hp hc pi pg pb hs, fun G H As σ ρ κ E D cc p w r => ?_⟩
  refine hi G H As σ ρ κ _ _ cc p w fun J xs ok G1 H1 As1 κ1 s1 c1 p1 wk o1 w1 => ?_
  refine ⟨fun i m σ' H' => i + m = xs.length ∧ ∃ G' As' ρ' κ', Step G1 H1 As1 G' H' As' ∧ Cells X.K G' H' As' κ' ∧ Places X.K G' As' σ' ρ' ∧ ok κ' ∧ forL ok g b E (xs.drop i) ρ' κ',
    ⟨xs.length, by omega, G1, As1, ρ, κ1, Step.refl, c1, p1, o1, w1⟩, fun i m σ' H' hW => ?_⟩
  obtain ⟨em, G', As', ρ', κ', s', c', p', o', f⟩ := hW
  obtain ⟨wgo, wst, wyl⟩ := wk G' H' As' κ' s'.ex s'.pre c' o'
  cases m with
  | zero =>
    have ei : i = xs.length := by omega
    subst ei
    rw [List.drop_length] at f
    exact .inl ⟨wst, r.nx _ _ G' H' As' κ' (s1.trans s') c' p' f⟩
  | succ m =>
    have hi' : i < xs.length := by omega
    rw [List.drop_eq_getElem_cons hi'] at f
    refine .inr ⟨wgo i hi', fun σ2 H2 => ∃ G2 As2 ρ2 κ2, Step G1 H1 As1 G2 H2 As2 ∧ Cells X.K G2 H2 As2 κ2 ∧ Places X.K G2 As2 σ2 ρ2 ∧ ok κ2 ∧ forL ok g b E (xs.drop (i + 1)) ρ2 κ2,
      fun σ2 H2 ⟨G2, As2, ρ2, κ2, q⟩ => ⟨m, by omega, by omega, G2, As2, ρ2, κ2, q⟩, fun v H2 hy => ?_⟩
    obtain ⟨G2, s2, c2, r2⟩ := wyl i v H2 _ hy (List.getElem?_eq_getElem hi')
    refine hg G2 H2 As' σ' ρ' κ' v (.d xs[i]) _ _ c2 (p'.step s2) r2 f fun σ3 ρ3 G3 H3 As3 κ3 _ s3 c3 p3 w3 => ?_
    have st : Step G1 H1 As1 G3 H3 As3 := (s'.trans s2).trans s3
    refine hb G3 H3 As3 σ3 ρ3 κ3 _ _ c3 p3 w3 ⟨fun a b' c d e f' x y z q => ⟨c, e, b', f', st.trans x, y, z, q.1, q.2⟩, fun a b' c d e f' x y z q => r.nx a b' c d e f' ((s1.trans st).trans x) y z q, fun a b' c d e f' x y z q => ⟨c, e, b', f', st.trans x, y, z, q.1, q.2⟩, fun a b' c d e f' x y z q => r.rt a b' c d e f' ((s1.trans st).trans x) y (z.back (s1.trans st)) q⟩
theorem ds_while (hp : PassesOwn (model X.prog X.w) X.A X.env X.xe) (ht : DT X c wt) (hb : DSs X body b) : DS X (.While c body [] pos) (wWhile wt b) := by
  obtain ⟨tt, pt, ht⟩ := ht
  obtain ⟨tb, pb, hb⟩ := hb
  refine ⟨_, ps_while hp pt pb, fun G H As σ ρ κ E D cc p w r => ?_⟩
  obtain ⟨n, w⟩ := w
  refine ⟨fun m σ' H' => ∃ G' As' ρ' κ', Step G H As G' H' As' ∧ Cells X.K G' H' As' κ' ∧ Places X.K G' As' σ' ρ' ∧ whileN wt b E m ρ' κ', ⟨n, G, As, ρ, κ, Step.refl, cc, p, w⟩, fun m σ' H' hW => ?_⟩
  obtain ⟨G', As', ρ', κ', s', c', p', f⟩ := hW
  cases m with
  | zero => exact f.elim
  | succ m =>
    refine ht G' H' As' σ' ρ' κ' _ _ c' p' f fun z G1 H1 As1 κ1 s1 c1 p1 w1 => ?_
    cases z with
    | false =>
      rw [if_neg (by decide)] at w1 ⊢
      exact r.nx _ _ G1 H1 As1 κ1 (s'.trans s1) c1 p1 w1
    | true =>
      rw [if_pos rfl] at w1 ⊢
      have st : Step G H As G1 H1 As1 := s'.trans s1
      refine ⟨fun σ2 H2 => ∃ G2 As2 ρ2 κ2, Step G H As G2 H2 As2 ∧ Cells X.K G2 H2 As2 κ2 ∧ Places X.K G2 As2 σ2 ρ2 ∧ whileN wt b E m ρ2 κ2, fun σ2 H2 q => ⟨m, Nat.lt_succ_self m, q⟩, ?_⟩
      exact hb G1 H1 As1 σ' ρ' κ1 _ _ c1 p1 w1 ⟨fun a b' c d e f' x y z q => ⟨c, e, b', f', st.trans x, y, z, q⟩, fun a b' c d e f' x y z q => r.nx a b' c d e f' (st.trans x) y z q, fun a b' c d e f' x y z q => ⟨c, e, b', f', st.trans x, y, z, q⟩, fun a b' c d e f' x y z q => r.rt a b' c d e f' (st.trans x) y (z.back st) q⟩
end
def wipeR (ρ : Rho) : List Nat → Rho
  | [] => ρ
  | v :: vs => (wipeR ρ vs).set v none
theorem wipeR_some {ρ : Rho} {i : Nat} {x : R} : ∀ {vs : List Nat}, (wipeR ρ vs)[i]? = some (some x) → ρ[i]? = some (some x) ∧ i ∉ vs
  | [], h => ⟨h, by simp⟩
  | v :: vs, h => by
    unfold wipeR at h
    by_cases hi : v = i
    · subst hi
      by_cases hv : v < (wipeR ρ vs).length
      · rw [List.getElem?_set_self hv] at h; cases h
      · rw [List.getElem?_eq_none (by rw [List.length_set]; omega)] at h; cases h
    · rw [List.getElem?_set_ne hi] at h
      obtain ⟨h1, h2⟩ := wipeR_some h
      exact ⟨h1, by simp only [List.mem_cons, not_or]; exact ⟨fun e => hi e.symm, h2⟩⟩
theorem wipeR_len (ρ : Rho) : ∀ vs : List Nat, (wipeR ρ vs).length = ρ.length
  | [] => rfl
  | v :: vs => by unfold wipeR; rw [List.length_set, wipeR_len ρ vs]
theorem Places.wipe {K : PySem.W.Frag} {G : Hp} {As : List Addr} {σ : L2.St} {ρ : Rho} (p : Places K G As σ ρ) (vs : List Nat) : Places K G As (wipe σ vs) (wipeR ρ vs) :=
  ⟨by rw [wipe_length, wipeR_len]; exact p.len, fun i r h => by
    obtain ⟨h1, h2⟩ := wipeR_some h
    obtain ⟨v, e, q⟩ := p.ok i r h1
    exact ⟨v, by rw [wipe_out h2]; exact e, q⟩⟩
def lcL (ok : Kap → Prop) (g : DTG) (t : DTT) (e : DTE) (ρw : Rho) (P : R → Kap → Prop) : List PyData → List PyData → Kap → Prop
  | [], acc, κ => P (.f acc) κ
  | x :: xs, acc, κ => g (.d x) ρw κ fun ρ1 κ1 => t ρ1 κ1 fun b κ2 => if b = true then e ρ1 κ2 fun r κ3 => Opt (dat κ3 r.st) fun q => acc.length < sizeLine ∧ ok q.2 ∧ lcL ok g t e ρw P xs (acc ++ [q.1]) q.2 else ok κ2 ∧ lcL ok g t e ρw P xs acc κ2
def wLc (wi : DTI) (g : DTG) (t : DTT) (e : DTE) (vs : List Nat) : DTE := fun ρ κ P => wi ρ κ fun xs ok κ1 => lcL ok g t e (wipeR ρ vs) P xs [] κ1
def wYes : DTT := fun _ κ P => P true κ
def DTs (X : Cx) (ifs : List Expr) (w : DTT) : Prop := ∃ t, PTs X ifs t ∧ ∀ (G H : Hp) (As : List Addr) (σ : L2.St) (ρ : Rho) (κ : Kap) (P : Bool → Kap → Prop) (Q : Bool → Hp → Prop), Cells X.K G H As κ → Places X.K G As σ ρ → w ρ κ P →
  (∀ b G' H' As' κ', Step G H As G' H' As' → Cells X.K G' H' As' κ' → Places X.K G' As' σ ρ → P b κ' → Q b H') → t σ H Q
section
variable {X : Cx}
theorem dts_nil : DTs X [] wYes := ⟨_, pts_nil, fun G H As σ ρ κ P Q c p w k => k true G H As κ Step.refl c p w⟩
theorem dts_one {c : Expr} {wt : DTT} (h : DT X c wt) : DTs X [c] wt := by
  obtain ⟨t, pt, h⟩ := h
  exact ⟨_, pts_one pt, h⟩
/-- where a block's parts are read: its context, whatever it is -/
structure BI where
  s : Shared
  H : Hp
  C : Addr
  cl : List (Str × Addr)
  fp : List Addr
abbrev BI.cx (i : BI) (X : Cx) (scope : Scope) : Cx := X.blk i.s i.H scope (compEnvC scope i.cl i.C X.env) i.fp
/-- one reading for all contexts -/
theorem uni_G {scope : Scope} {tg : Expr} {js : List Nat} {w : DTG} (h : ∀ i : BI, DG (i.cx X scope) tg js w) : ∃ g, (∀ i : BI, PG (i.cx X scope) tg g) ∧ ∀ (G H : Hp) (As : List Addr) (σ : L2.St) (ρ : Rho) (κ : Kap) (v : V) (r : R) (P : Rho → Kap → Prop) (Q : L2.St → Hp → Prop), Cells X.K G H As κ → Places X.K G As σ ρ → It X.K G As v r → w r ρ κ P →
    (∀ σ' ρ' G' H' As' κ', Wr js σ σ' → Step G H As G' H' As' → Cells X.K G' H' As' κ' → Places X.K G' As' σ' ρ' → P ρ' κ' → Q σ' H') → g v σ H Q := by
  obtain ⟨f, hf⟩ := Classical.skolem.mp h
  exact ⟨fun v σ H Q => ∀ i, f i v σ H Q, fun i => ⟨fun pins s σ H v u Q I r q => (hf i).1.run pins s σ H v u Q I r (q i)⟩, fun G H As σ ρ κ v r P Q c p i0 w k i => (hf i).2 G H As σ ρ κ v r P Q c p i0 w k⟩
theorem uni_T {scope : Scope} {ifs : List Expr} {w : DTT} (h : ∀ i : BI, DTs (i.cx X scope) ifs w) : ∃ t, (∀ i : BI, PTs (i.cx X scope) ifs t) ∧ ∀ (G H : Hp) (As : List Addr) (σ : L2.St) (ρ : Rho) (κ : Kap) (P : Bool → Kap → Prop) (Q : Bool → Hp → Prop), Cells X.K G H As κ → Places X.K G As σ ρ → w ρ κ P →
    (∀ b G' H' As' κ', Step G H As G' H' As' → Cells X.K G' H' As' κ' → Places X.K G' As' σ ρ → P b κ' → Q b H') → t σ H Q := by
  obtain ⟨f, hf⟩ := Classical.skolem.mp h
  exact ⟨fun σ H Q => ∀ i, f i σ H Q, fun i => ⟨fun pins s σ H Q I q => (hf i).1.run pins s σ H Q I (q i)⟩, fun G H As σ ρ κ P Q c p w k i => (hf i).2 G H As σ ρ κ P Q c p w k⟩
theorem uni_E {scope : Scope} {e : Expr} {w : DTE} (h : ∀ i : BI, DE (i.cx X scope) e w) : ∃ t, (∀ i : BI, PE (i.cx X scope) e t) ∧ ∀ (G H : Hp) (As : List Addr) (σ : L2.St) (ρ : Rho) (κ : Kap) (P : R → Kap → Prop) (Q : VK), Cells X.K G H As κ → Places X.K G As σ ρ → w ρ κ P →
    (∀ v r G' H' As' κ', Step G H As G' H' As' → Cells X.K G' H' As' κ' → Places X.K G' As' σ ρ → Rv X.K H G' H' As' v r → P r κ' → Q v H') → t σ H Q := by
  obtain ⟨f, hf⟩ := Classical.skolem.mp h
  exact ⟨fun σ H Q => ∀ i, f i σ H Q, fun i => ⟨fun pins s σ H Q I q => (hf i).1.run pins s σ H Q I (q i)⟩, fun G H As σ ρ κ P Q c p w k i => (hf i).2 G H As σ ρ κ P Q c p w k⟩
variable {elt tg iter : Expr} {ifs : List Expr} {scope : Scope} {own : List (Str × Nat)} {pos : Pos} {wi : DTI} {g : DTG} {wt : DTT} {we : DTE} {js : List Nat}
theorem lc_reads {ti : TI} {gg : TG} {tt : TT} {te : TE} {vs : List Nat} (hj : ∀ j, j ∈ js → j ∈ vs)
    (hi : ∀ (G H : Hp) (As : List Addr) (σ : L2.St) (ρ : Rho) (κ : Kap) (P : List PyData → (Kap → Prop) → Kap → Prop) (R : L2.It → Hp → Prop), Cells X.K G H As κ → Places X.K G As σ ρ → wi ρ κ P → (∀ J xs ok G' H' As' κ', Step G H As G' H' As' → Cells X.K G' H' As' κ' → Places X.K G' As' σ ρ → WalkOk X.K G' As' J xs ok → ok κ' → P xs ok κ' → R J H') → ti σ H R)
    (hg : ∀ (G H : Hp) (As : List Addr) (σ : L2.St) (ρ : Rho) (κ : Kap) (v : V) (r : R) (P : Rho → Kap → Prop) (Q : L2.St → Hp → Prop), Cells X.K G H As κ → Places X.K G As σ ρ → It X.K G As v r → g r ρ κ P → (∀ σ' ρ' G' H' As' κ', Wr js σ σ' → Step G H As G' H' As' → Cells X.K G' H' As' κ' → Places X.K G' As' σ' ρ' → P ρ' κ' → Q σ' H') → gg v σ H Q)
    (ht : ∀ (G H : Hp) (As : List Addr) (σ : L2.St) (ρ : Rho) (κ : Kap) (P : Bool → Kap → Prop) (Q : Bool → Hp → Prop), Cells X.K G H As κ → Places X.K G As σ ρ → wt ρ κ P → (∀ b G' H' As' κ', Step G H As G' H' As' → Cells X.K G' H' As' κ' → Places X.K G' As' σ ρ → P b κ' → Q b H') → tt σ H Q)
    (he : ∀ (G H : Hp) (As : List Addr) (σ : L2.St) (ρ : Rho) (κ : Kap) (P : R → Kap → Prop) (Q : VK), Cells X.K G H As κ → Places X.K G As σ ρ → we ρ κ P → (∀ v r G' H' As' κ', Step G H As G' H' As' → Cells X.K G' H' As' κ' → Places X.K G' As' σ ρ → Rv X.K H G' H' As' v r → P r κ' → Q v H') → te σ H Q)
    (G H : Hp) (As : List Addr) (σ : L2.St) (ρ : Rho) (κ : Kap) (P : R → Kap → Prop) (Q : VK) (c : Cells X.K G H As κ) (p : Places X.K G As σ ρ) (w : wLc wi g wt we vs ρ κ P)
    (k : ∀ v r G' H' As' κ', Step G H As G' H' As' → Cells X.K G' H' As' κ' → Places X.K G' As' σ ρ → Rv X.K H G' H' As' v r → P r κ' → Q v H') : tLc ti gg tt te vs σ H Q := by
  refine hi G H As σ ρ κ _ _ c p w fun J xs ok G1 H1 As1 κ1 s1 c1 p1 wk o1 w1 => fun D hD => ?_
  have gD1 : G1 D = none := c1.ext.free hD
  have nD1 : D ∉ As1 := c1.notin hD
  -- the list that is made stands at D, is known to nobody, and only the turns change it
  let W : Nat → Hp → Prop := fun i H' => ∃ G' As' κ' acc vs', Step G1 H1 As1 G' H' As' ∧ Cells X.K G' H' As' κ' ∧ G' D = none ∧ D ∉ As' ∧ H' D = some (.lst vs') ∧ RpA X.K G' vs' acc ∧ ok κ' ∧ lcL ok g wt we (wipeR ρ vs) P (xs.drop i) acc κ'
  -- a step keeps the list at D as it is
  have keep : ∀ {Ga Ha Asa Gb Hb Asb} {vs' : List V}, Step Ga Ha Asa Gb Hb Asb → Ga D = none → D ∉ Asa → Ha D = some (.lst vs') → Gb D = none ∧ D ∉ Asb ∧ Hb D = some (.lst vs') := fun s g0 n0 h0 => by
    refine ⟨?_, fun hm => ?_, s.fr D _ n0 (wo_lst _).1 h0⟩
    · rcases s.gn D g0 with z | z | z | ⟨ys, z⟩
      · exact z
      · rw [h0] at z; cases z
      · exact absurd z n0
      · have q := s.fr D _ n0 (wo_lst _).1 h0
        rw [z] at q
        cases q
    · rcases s.new D hm with z | z
      · exact n0 z
      · rw [h0] at z; cases z
  -- a turn's end: the item goes onto the list
  have grow : ∀ {G' H' As' κ' acc vs' v y i}, Step G1 H1 As1 G' H' As' → Cells X.K G' H' As' κ' → G' D = none → D ∉ As' → H' D = some (.lst vs') → RpA X.K G' vs' acc → Rp X.K G' v y → ok κ' → lcL ok g wt we (wipeR ρ vs) P (xs.drop i) (acc ++ [y]) κ' → W i (upd H' D (.lst (vs' ++ [v]))) := fun {G' H' As' κ' acc vs' v y i} s c g0 n0 h0 rp rv o f => by
    refine ⟨G', As', κ', acc ++ [y], vs' ++ [v], ⟨s.ex, s.pre, s.new, fun b u hb nt e => ?_, fun b e => ?_, s.gnU h0 (wo_lst _)⟩, ⟨c.ext.mut g0, c.len, c.nd, fun a ha => ?_, fun j x a e1 e2 => ?_, c.tab.put (wo_at h0 (wo_lst _))⟩, g0, n0, upd_same, rp.app (.cons rv .nil), o, f⟩
    · by_cases q : b = D
      · subst q; rw [hD] at e; cases e
      · rw [upd_ne q]; exact s.fr b u hb nt e
    · by_cases q : b = D
      · subst q; rw [upd_same] at e; cases e
      · rw [upd_ne q] at e; exact s.dom b e
    · by_cases q : a = D
      · subst q; exact ⟨_, upd_same⟩
      · rw [upd_ne q]; exact c.al a ha
    · have z := c.ok j x a e1 e2
      cases x with
      | l ds =>
        obtain ⟨z1, ws, z2, z3⟩ := z
        have ne : a ≠ D := fun q => n0 (by rw [← q]; exact List.mem_of_getElem? e2)
        exact ⟨z1, ws, by rw [upd_ne ne]; exact z2, z3⟩
      | m ds =>
        obtain ⟨z1, ws, z2, z3⟩ := z
        have ne : a ≠ D := fun q => n0 (by rw [← q]; exact List.mem_of_getElem? e2)
        exact ⟨z1, ws, by rw [upd_ne ne]; exact z2, z3⟩
      | z x => exact z
      | k es => exact z
      | x u =>
        obtain ⟨z1, z2, z3⟩ := z
        have ne : a ≠ D := fun q => n0 (by rw [← q]; exact List.mem_of_getElem? e2)
        exact ⟨z1, by rw [upd_ne ne]; exact z2, z3⟩
  refine ⟨fun i m H' => i + m = xs.length ∧ W i H', ⟨xs.length, by omega, G1, As1, κ1, [], [], Step.fresh hD, c1.fresh hD, gD1, nD1, upd_same, .nil, o1, w1⟩, fun i m H' hW => ?_⟩
  obtain ⟨em, G', As', κ', acc, vs', s', c', g', n', h', rp, o', f⟩ := hW
  obtain ⟨wgo, wst, wyl⟩ := wk G' H' As' κ' s'.ex s'.pre c' o'
  cases m with
  | zero =>
    have ei : i = xs.length := by omega
    subst ei
    rw [List.drop_length] at f
    have st := s1.trans s'
    exact .inl ⟨wst, k _ (.f acc) G' H' As' κ' st c' (p.step st) ⟨D, vs', rfl, s1.dom D hD, g', n', h', rp⟩ f⟩
  | succ m =>
    have hi' : i < xs.length := by omega
    rw [List.drop_eq_getElem_cons hi'] at f
    refine .inr ⟨wgo i hi', W (i + 1), fun H2 q => ⟨m, by omega, by omega, q⟩, fun v H2 hy => ?_⟩
    obtain ⟨G2, s2, c2, r2⟩ := wyl i v H2 _ hy (List.getElem?_eq_getElem hi')
    obtain ⟨g2, n2, h2⟩ := keep s2 g' n' h'
    refine hg G2 H2 As' (wipe σ vs) (wipeR ρ vs) κ' v (.d xs[i]) _ _ c2 ((p.step ((s1.trans s').trans s2)).wipe vs) r2 f fun σ3 ρ3 G3 H3 As3 κ3 a3 s3 c3 p3 w3 => ⟨?_, ?_⟩
    · have hw : wipe (wipe σ vs) vs = wipe σ vs := by
        refine List.ext_getElem? fun j => ?_
        by_cases hj : j ∈ vs
        · rw [wipe_in hj, wipe_in hj, wipe_length]
        · rw [wipe_out hj]
      rw [← hw]
      have q := a3.wipe hj
      rw [q]
    · obtain ⟨g3, n3, h3⟩ := keep s3 g2 n2 h2
      refine ht G3 H3 As3 σ3 ρ3 κ3 _ _ c3 p3 w3 fun z G4 H4 As4 κ4 s4 c4 p4 w4 => ?_
      obtain ⟨g4, n4, h4⟩ := keep s4 g3 n3 h3
      have st4 : Step G1 H1 As1 G4 H4 As4 := ((s'.trans s2).trans s3).trans s4
      cases z with
      | false =>
        rw [if_neg (by decide)] at w4 ⊢
        exact ⟨G4, As4, κ4, acc, vs', st4, c4, g4, n4, h4, RpA.mono (((s2.trans s3).trans s4)).ex _ _ rp, w4.1, w4.2⟩
      | true =>
        rw [if_pos rfl] at w4 ⊢
        refine he G4 H4 As4 σ3 ρ3 κ4 _ _ c4 p4 w4 fun v5 r5 G5 H5 As5 κ5 s5 c5 p5 i5 w5 => ?_
        obtain ⟨G5', s5', c5', p5', i5', _⟩ := settle s5 c5 p5 i5
        obtain ⟨⟨y, κ6⟩, e6, hl, ho, w6⟩ := w5.ex
        obtain ⟨G6, s6, c6, r6⟩ := dat_ok c5' i5' e6
        have st6 := s5'.trans s6
        obtain ⟨g6, n6, h6⟩ := keep st6 g4 n4 h4
        have rp6 := RpA.mono ((((s2.trans s3).trans s4)).trans st6).ex _ _ rp
        refine ⟨vs', h6, by rw [rp6.len]; exact hl, ?_⟩
        exact grow (st4.trans st6) c6 g6 n6 h6 rp6 r6 ho w6
theorem de_lc (hc : X.calm = true) (hN : X.N.Nodup) (hi : DI X tg iter wi) (ok : BlkOk X.N X.env.scope scope own) (hg : ∀ i : BI, DG (i.cx X scope) tg js g) (ht : ∀ i : BI, DTs (i.cx X scope) ifs wt) (he : ∀ i : BI, DE (i.cx X scope) elt we)
    (hj : ∀ j, j ∈ js → j ∈ own.map (·.2) := by decide) (hs : ∀ x, foldedSetIterable iter X.env x = pure x := by intro _; rfl) : DE X (.ListComp elt [⟨tg, iter, ifs, 0⟩] scope pos) (wLc wi g wt we (own.map (·.2))) := by
  obtain ⟨ti, pi, hi⟩ := hi
  obtain ⟨gg, pg, hg⟩ := uni_G hg
  obtain ⟨tt, pt, ht⟩ := uni_T ht
  obtain ⟨te, pe, he⟩ := uni_E he
  exact ⟨_, pe_lc hc hN pi ok (fun s H C cl fp => pg ⟨s, H, C, cl, fp⟩) (fun s H C cl fp => pt ⟨s, H, C, cl, fp⟩) (fun s H C cl fp => pe ⟨s, H, C, cl, fp⟩) hs, lc_reads hj hi hg ht he⟩
/-- name = [..] -/
theorem ds_setLc (m : Bool) (i : Nat) {y : Str} {py spos : Pos} (hc : X.calm = true) (hN : X.N.Nodup) (hsw : swapsWith (.ListComp elt [⟨tg, iter, ifs, 0⟩] scope pos) (some (.Name y py)) spos.line X.env = pure true) (hi : DI X tg iter wi) (ok : BlkOk X.N X.env.scope scope own) (hg : ∀ i : BI, DG (i.cx X scope) tg js g) (ht : ∀ i : BI, DTs (i.cx X scope) ifs wt) (he : ∀ i : BI, DE (i.cx X scope) elt we)
    (hy : X.N[i]? = some y := by rfl) (hyl : X.env.scope.names.lookup y = some .local := by rfl) (hj : ∀ j, j ∈ js → j ∈ own.map (·.2) := by decide) (hs : ∀ x, foldedSetIterable iter X.env x = pure x := by intro _; rfl) :
    DS X (.Assign [.Name y py] (.ListComp elt [⟨tg, iter, ifs, 0⟩] scope pos) spos) (wSet m i (wLc wi g wt we (own.map (·.2)))) := by
  obtain ⟨ti, pi, hi⟩ := hi
  obtain ⟨gg, pg, hg⟩ := uni_G hg
  obtain ⟨tt, pt, ht⟩ := uni_T ht
  obtain ⟨te, pe, he⟩ := uni_E he
  refine ⟨_, ps_setLc hc hN hy hyl hsw pi ok (fun s H C cl fp => pg ⟨s, H, C, cl, fp⟩) (fun s H C cl fp => pt ⟨s, H, C, cl, fp⟩) (fun s H C cl fp => pe ⟨s, H, C, cl, fp⟩) hs, fun G H As σ ρ κ E D c p w r => ?_⟩
  refine lc_reads hj hi hg ht he G H As σ ρ κ _ _ c p w fun v q G1 H1 As1 κ1 s1 c1 p1 i1 w1 => ?_
  obtain ⟨G1', As1', s1', c1', i1', e1, e2⟩ := sto_ok m s1 c1 i1
  exact r.nx _ _ G1' H1 As1' _ s1' c1' ((p1.mono e1 e2).put i i1') w1
end
def wAppend (wo wa : DTE) : DTE := fun ρ κ P => wo ρ κ fun ro κ1 => (match ro with
  | .c k => (∃ zs, κ1[k]? = some (.l zs)) ∧ wa ρ κ1 fun r κ2 => Opt (dat κ2 r.st) fun q => match q.2[k]? with
    | some (.l xs) => xs.length < sizeLine ∧ P (.d .none) (q.2.set k (.l (xs ++ [q.1])))
    | _ => False
  | _ => False)
/-- o[i] = v -/
def wSub (wo wi : DTE) : DTG := fun r ρ κ P => Opt (dat κ r) fun q => wo ρ q.2 fun ro κ1 => match ro with
  | .c k => wi ρ κ1 fun ri κ2 => match ri, κ2[k]? with
    | .d (.int i), some (.l xs) => Opt (ixN xs.length i) fun j => P ρ (κ2.set k (.l (xs.set j q.1)))
    | _, _ => False
  | _ => False
section
variable {X : Cx} {o a i : Expr} {wo wa wi : DTE} {apos cpos pos : Pos}
theorem de_append (ho : DE X o wo) (ha : DE X a wa) (hbase : attributeBase o "append" X.env (eval o X.env) = eval o X.env := by rfl)
    (hfew : ((backTo cpos (starEach [a] X.env)).all (fun x => !x.1) && (backToKw cpos (keywordEach [] X.env)).all (fun x => x.1.isSome) && decide (([a] : List Expr).length + ([] : List Keyword).length + (if ([] : List Keyword).isEmpty then 0 else 1) < 30)) = true := by rfl)
    (hline : (apos.endLine == cpos.line) = true := by rfl) (hs : starEach [a] X.env = (false, eval a X.env) :: starEach [] X.env := by rfl) (hplain : (backTo cpos (starEach [] X.env)).any (·.1) = false := by rfl) :
    DE X (.Call (.Attribute o "append" apos) [a] [] cpos) (wAppend wo wa) := by
  obtain ⟨to, po, ho⟩ := ho
  obtain ⟨ta, pa, ha⟩ := ha
  refine ⟨_, pe_bm PySem.F.plainAttrs_list PySem.F.slot_list_append PySem.F.type_list_append mt_append po (pa_cons pa pa_nil hs) hbase hfew hline hs hplain, fun G H As σ ρ κ P Q c p w k => ?_⟩
  refine ho G H As σ ρ κ _ _ c p w fun v1 r1 G1 H1 As1 κ1 s1 c1 p1 i1 w1 => ?_
  cases r1 with
  | c kk =>
    obtain ⟨l, hl, rfl⟩ := i1
    obtain ⟨⟨zs, ez⟩, w1⟩ := w1
    obtain ⟨_, zv, z2, _⟩ := c1.ok kk _ l ez hl
    refine ⟨.inl ⟨rfl, zv, sql_of z2⟩, ?_⟩
    refine ha G1 H1 As1 σ ρ κ1 _ _ c1 p1 w1 fun v2 r2 G2 H2 As2 κ2 s2 c2 p2 i2 w2 => ?_
    obtain ⟨G2', s2', c2', p2', i2', _⟩ := settle s2 c2 p2 i2
    obtain ⟨⟨x, κ3⟩, e3, w3⟩ := w2.ex
    obtain ⟨G3, s3, c3, r3⟩ := dat_ok c2' i2' e3
    have st := s2'.trans s3
    obtain ⟨bs, eb⟩ := st.pre
    have hl3 : As2[kk]? = some l := by rw [eb, List.getElem?_append_left (List.getElem?_eq_some_iff.mp hl).1]; exact hl
    simp only at w3
    cases q : κ3[kk]? with
    | none => rw [q] at w3; exact w3.elim
    | some cc =>
      rw [q] at w3
      cases cc with
      | z y => exact w3.elim
      | m y => exact w3.elim
      | k y => exact w3.elim
      | x y => exact w3.elim
      | l xs =>
        obtain ⟨w4, w5⟩ := w3
        obtain ⟨g0, vs, hq, rp⟩ := c3.ok kk _ l q hl3
        refine ⟨l, vs, v2, rfl, rfl, hq, by rw [rp.len]; exact w4, ?_⟩
        have sw : Step G3 H2 As2 G3 (upd H2 l (.lst (vs ++ [v2]))) As2 := Step.write (List.mem_of_getElem? hl3) hq
        have sa := (s1.trans st).trans sw
        exact k .non (.d .none) G3 _ As2 _ sa (c3.write q hl3 (rp.app (.cons r3 .nil))) (p.step sa) .non w5
  | _ => exact w1.elim
theorem dg_sub (ho : DE X o wo) (hi : DE X i wi) (hx : ∀ v, assign (.Subscript o i pos) X.env v = (do
      let ov ← holding [v] (eval o X.env)
      let iv ← holding [v, ov] (eval i X.env)
      standAt pos
      holding [v, ov, iv] (setItem ov iv v)
      release [v, ov, iv] []) := by intro _; rfl) : DG X (.Subscript o i pos) [] (wSub wo wi) := by
  obtain ⟨to, po, ho⟩ := ho
  obtain ⟨ti, pi, hi⟩ := hi
  refine ⟨_, pg_sub po pi set_list hx, fun G H As σ ρ κ v r P Q c p i0 w k => ?_⟩
  obtain ⟨⟨x, κ0⟩, e0, w⟩ := w.ex
  obtain ⟨G0, s0, c0, r0⟩ := dat_ok c i0 e0
  refine ho G0 H As σ ρ κ0 _ _ c0 (p.step s0) w fun v1 r1 G1 H1 As1 κ1 s1 c1 p1 i1 w1 => ?_
  cases r1 with
  | c kk =>
    obtain ⟨l, hl, rfl⟩ := i1
    refine hi G1 H1 As1 σ ρ κ1 _ _ c1 p1 w1 fun v2 r2 G2 H2 As2 κ2 s2 c2 p2 i2 w2 => ?_
    split at w2
    · rename_i o1 o2 ii xs hk
      obtain ⟨j, ej, w3⟩ := w2.ex
      have i2 : Rp X.K G2 v2 (.int ii) := i2
      cases i2
      obtain ⟨bs, eb⟩ := s2.pre
      have hl2 : As2[kk]? = some l := by rw [eb, List.getElem?_append_left (List.getElem?_eq_some_iff.mp hl).1]; exact hl
      obtain ⟨g0, vs, hq, rp⟩ := c2.ok kk _ l hk hl2
      refine ⟨l, vs, ii, j, rfl, rfl, hq, by rw [rp.len]; exact ej, ?_⟩
      have sw : Step G2 H2 As2 G2 (upd H2 l (.lst (vs.set j v))) As2 := Step.write (List.mem_of_getElem? hl2) hq
      have sa := ((s0.trans s1).trans s2).trans sw
      exact k σ ρ G2 _ As2 _ Wr.refl sa (c2.write hk hl2 (rp.set (Rp.mono (s1.trans s2).ex _ _ r0) j)) (p.step sa) w3
    · exact w2.elim
  | _ => exact w1.elim
end
def outR (κ : Kap) (n : Nat) : R → Option R
  | .c k => if k < n then some (.c k) else match κ[k]? with
    | some (.l xs) => some (.f xs)
    | some (.z x) => some (.d x)
    | some (.m _) => none
    | some (.k es) => some (.h es)
    | some (.x _) => none
    | none => none
  | .b _ => none
  | .p _ => none
  | r => some r
/-- a def's end: what its cell holds then, what it hands back -/
def endL (κ : Kap) (r : R) (Pd : R → List PyData → Prop) : Prop := match (κ[(0 : Nat)]? : Option Cell) with
  | some (.l bs) => Opt (outR κ 1 r) fun r' => Pd r' bs
  | _ => False
theorem endL_ex {κ : Kap} {r : R} {Pd : R → List PyData → Prop} (h : endL κ r Pd) : ∃ bs r', κ[(0 : Nat)]? = some (.l bs) ∧ outR κ 1 r = some r' ∧ Pd r' bs := by
  unfold endL at h
  split at h
  · rename_i bs e
    obtain ⟨r', e', q⟩ := h.ex
    exact ⟨bs, r', e, e', q⟩
  · exact h.elim
section
variable {P : Program} {w : World} {K : PySem.W.Frag} {mg : Str → Option Value} {base : Heap} {x qual : Str} {st : Stmt} {f : Addr} {fd : FuncData} {N ps : List Str} {k : Nat}
theorem out_rv {K : PySem.W.Frag} {G0 H0 G H : Hp} {As0 As : List Addr} {κ : Kap} {v : V} {r r' : R} {n : Nat} (hn : As0.length = n) (s : Step G0 H0 As0 G H As) (c : Cells K G H As κ) (h : Rv K H0 G H As v r) (e : outR κ n r = some r') : Rv K H0 G H As0 v r' := by
  obtain ⟨bs, eb⟩ := s.pre
  cases r with
  | d x => cases e; exact h
  | s ns => cases e; exact h
  | h ns => cases e; exact h
  | g ns => cases e; exact h
  | q ns => cases e; exact h
  | o u => cases e; exact h
  | b ks => cases e
  | p ks => cases e
  | f xs =>
    cases e
    obtain ⟨p, vs, ev, h0, g0, nin, q⟩ := h
    exact ⟨p, vs, ev, h0, g0, fun z => nin (by rw [eb]; exact List.mem_append_left _ z), q⟩
  | c j =>
    obtain ⟨a, ha, rfl⟩ := h
    unfold outR at e
    simp only at e
    split at e
    · rename_i hj
      cases e
      refine ⟨a, ?_, rfl⟩
      rw [eb, List.getElem?_append_left (by omega)] at ha
      exact ha
    · rename_i hj
      have hna : a ∉ As0 := fun hm => by
        have nd := c.nd
        rw [eb] at nd ha
        obtain ⟨i, hi, ei⟩ := List.getElem_of_mem hm
        have h1 : (As0 ++ bs)[i]? = some a := by rw [List.getElem?_append_left hi, List.getElem?_eq_getElem hi, ei]
        obtain ⟨l1, q1⟩ := List.getElem?_eq_some_iff.mp h1
        obtain ⟨l2, q2⟩ := List.getElem?_eq_some_iff.mp ha
        have := (List.getElem_inj nd).mp (q1.trans q2.symm)
        omega
      split at e
      · rename_i xs hk
        cases e
        obtain ⟨g0, vs, hq, rp⟩ := c.ok j _ a hk ha
        refine ⟨a, vs, rfl, ?_, g0, hna, hq, rp⟩
        rcases s.new a (List.mem_of_getElem? ha) with z | z
        · exact absurd z hna
        · exact z
      · rename_i x hk
        cases e
        exact c.ok j _ a hk ha
      · cases e
      · rename_i es hk
        cases e
        exact c.ok j _ a hk ha
      · cases e
      · cases e
theorem Step.short {G0 H0 G H : Hp} {As0 As : List Addr} (s : Step G0 H0 As0 G H As) : Step G0 H0 As0 G H As0 :=
  ⟨s.ex, ⟨[], by simp⟩, fun _ h => .inl h, s.fr, s.dom, s.gn⟩
/-- the slots at the entry -/
theorem places_start {K : PySem.W.Frag} {G : Hp} {As : List Addr} {vs : List V} {rs : List R} (h : Paired (It K G As) vs rs) (m : Nat) : Places K G As (vs.map some ++ List.replicate m none) (rs.map some ++ List.replicate m none) := by
  have hl := Paired.length h
  refine ⟨by rw [List.length_append, List.length_append, List.length_map, List.length_map, List.length_replicate, List.length_replicate, hl], fun i r e => ?_⟩
  by_cases hi : i < rs.length
  · rw [List.getElem?_append_left (by rw [List.length_map]; exact hi), List.getElem?_map, List.getElem?_eq_getElem hi] at e
    cases e
    have get : ∀ {vs : List V} {rs : List R} {i : Nat} (hi : i < rs.length), Paired (It K G As) vs rs → ∃ v, vs[i]? = some v ∧ It K G As v rs[i] := fun {vs} => by
      induction vs with
      | nil => intro rs i hi h; cases h; exact absurd hi (by simp)
      | cons v vs ih =>
        intro rs i hi h
        cases h with
        | cons r t =>
          cases i with
          | zero => exact ⟨v, rfl, r⟩
          | succ i => exact ih (i := i) (by simpa using hi) t
    obtain ⟨v, e1, e2⟩ := get hi h
    refine ⟨v, ?_, e2⟩
    rw [List.getElem?_append_left (by rw [List.length_map, hl]; exact hi), List.getElem?_map, e1]
    rfl
  · rw [List.getElem?_append_right (by rw [List.length_map]; omega), List.getElem?_replicate] at e
    split at e <;> cases e
theorem dfn {Φ : List R → (R → Prop) → Prop} (F : Fun K x qual st f fd) (S : FnScope N ps (defScope st))
    (hb : ∀ (cdv : Value) (A : Around) (outer : List Env) (s : Shared) (H : Hp) (E : XK), RoomG k (A.deeper (envOfC qual (defScope st) s.heap.objs.size f cdv)) →
      ∃ wd, DSs (cxOf CX0 P w K mg base N qual (defScope st) f cdv A outer s H E).nox (defBody st) wd ∧ ∀ rs Pd, Φ rs Pd → rs.length = ps.length → wd { nx := fun _ _ => Pd (.d .none), rt := fun r κ => Opt (outR κ 0 r) Pd } (rs.map some ++ List.replicate (N.length - ps.length) none) []) :
    FnG P w K mg base CX0 (k + 1) f fd ps (spD K ps.length Φ) := by
  refine Fun.okG F S (fun vs H Q E h => h.1) (fun cdv A outer s H vs Q E hr h => ?_)
  obtain ⟨hl, G, rs, Pd, ext, i0, hΦ, kk⟩ := h
  obtain ⟨wd, ⟨t, pt, ht⟩, hw⟩ := hb cdv A outer s H E hr
  have hl2 : rs.length = ps.length := (Paired.length i0).symm.trans hl
  refine ⟨t, pt, ?_⟩
  have c0 : Cells K G H [] [] := ⟨ext.1, rfl, by simp, fun a h => (List.not_mem_nil h).elim, fun j c a h => by simp at h, ext.2⟩
  have p0 := places_start i0 (N.length - ps.length)
  unfold L2.start
  rw [hl]
  refine ht G H [] _ _ [] _ _ c0 p0 (hw rs Pd hΦ hl2) ⟨fun σ' ρ' G' H' As' κ' s' c' _ q => ?_, fun _ _ _ _ _ _ _ _ _ q => q.elim, fun _ _ _ _ _ _ _ _ _ q => q.elim, fun v r G' H' As' κ' s' c' rv q => ?_⟩
  · exact kk .non (.d .none) G' H' q c'.xt s'.short .non
  · obtain ⟨r', e, q⟩ := q.ex
    exact kk v r' G' H' q c'.xt s'.short (out_rv rfl s' c' rv e)
theorem dfnL {Φ : List PyData → List R → (R → List PyData → Prop) → Prop} {n : Nat} (F : Fun K x qual st f fd) (S : FnScope N ps (defScope st)) (hn : ps.length = n + 1)
    (hb : ∀ (cdv : Value) (A : Around) (outer : List Env) (s : Shared) (H : Hp) (E : XK), RoomG k (A.deeper (envOfC qual (defScope st) s.heap.objs.size f cdv)) →
      ∃ wd, DSs (cxOf CX0 P w K mg base N qual (defScope st) f cdv A outer s H E).nox (defBody st) wd ∧ ∀ bs rs Pd, Φ bs rs Pd → rs.length = n → wd { nx := fun _ κ => endL κ (.d .none) Pd, rt := fun r κ => endL κ r Pd } (some (.c 0) :: (rs.map some ++ List.replicate (N.length - ps.length) none)) [.l bs]) :
    FnG P w K mg base CX0 (k + 1) f fd ps (spL K ps.length Φ) := by
  refine Fun.okG F S (fun vs H Q E h => h.1) (fun cdv A outer s H vs Q E hr h => ?_)
  obtain ⟨hl, G, a, ws, bs, rs, Pd, rfl, c0, i0, hΦ, kk⟩ := h
  obtain ⟨wd, ⟨t, pt, ht⟩, hw⟩ := hb cdv A outer s H E hr
  have hl2 : rs.length = n := by
    have e1 := Paired.length i0
    rw [List.length_cons] at hl
    omega
  refine ⟨t, pt, ?_⟩
  have i1 : Paired (It K G [a]) (V.ref a :: ws) (R.c 0 :: rs) := .cons ⟨a, rfl, rfl⟩ (Paired.mapP i0 fun _ _ z => z.mono (Ex.refl G) ⟨[a], rfl⟩)
  have p0 := places_start i1 (N.length - ps.length)
  have one : ∀ {G' H' As' κ' bs'}, Step G H [a] G' H' As' → Cells K G' H' As' κ' → κ'[0]? = some (.l bs') → Cells K G' H' [a] [.l bs'] := fun s' c' e => by
    obtain ⟨zs, ez⟩ := s'.pre
    exact c'.one e (by rw [ez]; rfl)
  unfold L2.start
  rw [hl]
  refine ht G H [a] _ _ [.l bs] _ _ c0 p0 (hw bs rs Pd hΦ hl2) ⟨fun σ' ρ' G' H' As' κ' s' c' _ q => ?_, fun _ _ _ _ _ _ _ _ _ q => q.elim, fun _ _ _ _ _ _ _ _ _ q => q.elim, fun v r G' H' As' κ' s' c' rv q => ?_⟩
  · obtain ⟨bs', r', e, e', q⟩ := endL_ex q
    cases e'
    exact kk .non (.d .none) bs' G' H' q (one s' c' e) s'.short .non
  · obtain ⟨bs', r', e0, e, q⟩ := endL_ex q
    exact kk v r' bs' G' H' q (one s' c' e0) s'.short (out_rv rfl s' c' rv e)
end
end DL
namespace DL
open PySem PySem.Spec PyProof.Rows L2
section
variable {K : PySem.W.Frag} {G H : Hp} {v : V}
theorem vw_int {i : Int} (h : Vw K G H v (.int i)) : v = .int i := by
  have h : Rp K G v (.int i) := h
  cases h; rfl
theorem vw_str {z : Str} (h : Vw K G H v (.str z)) : v = .str z := by
  have h : Rp K G v (.str z) := h
  cases h; rfl
theorem vw_bool {b : Bool} (h : Vw K G H v (.bool b)) : v = .bl b := by
  have h : Rp K G v (.bool b) := h
  cases h; rfl
theorem vw_none (h : Vw K G H v .none) : v = .non := by
  have h : Rp K G v .none := h
  cases h; rfl
end
def addD : PyData → PyData → Option Out
  | .int i, .int j => some (.v (.int (i + j)))
  | .str x, .str y => if x.length + y.length ≤ sizeLine then some (.v (.str (x ++ y))) else none
  | .list xs, .list ys => if xs.length + ys.length ≤ sizeLine then some (.n (xs ++ ys)) else none
  | .tuple xs, .tuple ys => if xs.length + ys.length ≤ sizeLine then some (.t (xs ++ ys)) else none
  | _, _ => none
def rAddD (K : PySem.W.Frag) : R2 := fun x y H Q => (∃ i j, x = .int i ∧ y = .int j ∧ Q (.int (i + j)) H) ∨ (∃ i j, x = .str i ∧ y = .str j ∧ i.length + j.length ≤ sizeLine ∧ Q (.str (i ++ j)) H) ∨ rCat x y H Q ∨ rCatA K x y H Q
theorem op_addD {X : Cx} : OpR X (binaryOp .Add) (rAddD X.K) := by
  intro pins s σ H x y v u Q I rx ry h
  rcases h with h | h | h | h
  · exact op_add pins s σ H x y v u Q I rx ry h
  · exact op_add_str pins s σ H x y v u Q I rx ry h
  · exact op_cat pins s σ H x y v u Q I rx ry h
  · exact op_catA pins s σ H x y v u Q I rx ry h
theorem add_ok {K : PySem.W.Frag} : OpD K (rAddD K) addD := by
  intro G H v u x y o Q ext hx hy e k
  unfold addD at e
  split at e
  · cases e
    rw [vw_int hx, vw_int hy]
    exact .inl ⟨_, _, rfl, rfl, k _ (.int _)⟩
  · split at e
    · cases e
      rw [vw_str hx, vw_str hy]
      exact .inr (.inl ⟨_, _, rfl, rfl, by assumption, k _ (.str _)⟩)
    · cases e
  · split at e
    · cases e
      obtain ⟨a, vs, rfl, h1, h2⟩ := hx
      obtain ⟨b, ws, rfl, h3, h4⟩ := hy
      exact .inr (.inr (.inl ⟨a, b, vs, ws, rfl, rfl, h1, h3, by rw [h2.len, h4.len]; assumption, fun p hp => k p _ hp (h2.app h4)⟩))
    · cases e
  · split at e
    · cases e
      have hx' := hx
      have hy' := hy
      obtain ⟨a, vs, rfl, h1, h2⟩ := hx.tup ext
      obtain ⟨b, ws, rfl, h3, h4⟩ := hy.tup ext
      refine .inr (.inr (.inr ⟨a, b, vs, ws, rfl, rfl, h1, h3, by rw [h2.len, h4.len]; assumption, fun z => ?_, fun _ z => ?_, fun _ _ p hp => k.1 p _ hp (h2.app h4)⟩))
      · subst z
        cases h2
        exact k.2 _ hy'
      · subst z
        cases h4
        rw [List.append_nil] at k
        exact k.2 _ hx'
    · cases e
  · cases e
def intD (f : Int → Int → Option PyData) : PyData → PyData → Option Out
  | .int i, .int j => (f i j).map .v
  | _, _ => none
theorem int_ok {K : PySem.W.Frag} {r : R2} {f : Int → Int → Option PyData} (h : ∀ (i j : Int) (z : PyData) (H : Hp) (Q : VK), f i j = some z → (∀ w, (∀ G, Rp K G w z) → Q w H) → r (.int i) (.int j) H Q) : OpD K r (intD f) := by
  intro G H v u x y o Q ext hx hy e k
  unfold intD at e
  split at e
  · rename_i i j
    cases q : f i j with
    | none => rw [q] at e; cases e
    | some z =>
      rw [q] at e
      cases e
      rw [vw_int hx, vw_int hy]
      exact h i j z H Q q fun w hw => k w (hw G)
  · cases e
def subD := intD fun i j => some (.int (i - j))
theorem sub_ok {K : PySem.W.Frag} : OpD K (rI0 fun i j => .int (i - j)) subD := int_ok fun i j z H Q e k => by
  cases e; exact ⟨i, j, rfl, rfl, k _ fun _ => .int _⟩
open Classical in
noncomputable def modD := intD fun i j => if 0 < j then some (.int (i % j)) else none
theorem mod_ok {K : PySem.W.Frag} : OpD K (rI (fun _ j => 0 < j) fun i j => .int (i % j)) modD := int_ok fun i j z H Q e k => by
  split at e
  · cases e; exact ⟨i, j, rfl, rfl, by assumption, k _ fun _ => .int _⟩
  · cases e
open Classical in
noncomputable def fdivD := intD fun i j => if 0 < j ∧ j < 1073741824 then some (.int (i / j)) else none
theorem fdiv_ok {K : PySem.W.Frag} : OpD K (rI CDiv fun i j => .int (i / j)) fdivD := int_ok fun i j z H Q e k => by
  split at e
  · cases e; exact ⟨i, j, rfl, rfl, by assumption, k _ fun _ => .int _⟩
  · cases e
open Classical in
noncomputable def powD := intD fun i j => if 0 ≤ j ∧ j ≤ 1000000 ∧ i.natAbs < 2 ^ 64 then some (.int (i ^ j.toNat)) else none
theorem pow_ok {K : PySem.W.Frag} : OpD K (rI CPow fun i j => .int (i ^ j.toNat)) powD := int_ok fun i j z H Q e k => by
  split at e
  · cases e; exact ⟨i, j, rfl, rfl, by assumption, k _ fun _ => .int _⟩
  · cases e
open Classical in
/-- ints, and a list so many times -/
noncomputable def mulD : PyData → PyData → Option Out
  | .int i, .int j => if CMul i j then some (.v (.int (i * j))) else none
  | .list xs, .int k => @ite _ (-(2 ^ 63) ≤ k ∧ k < 2 ^ 63 ∧ xs.length * k.toNat ≤ sizeLine) (propDecidable _) (some (.n (List.replicate k.toNat xs).flatten)) none
  | _, _ => none
def rMulD : R2 := fun x y H Q => rI CMul (fun i j => .int (i * j)) x y H Q ∨ rRep x y H Q
theorem op_mulD {X : Cx} : OpR X (binaryOp .Mult) rMulD := by
  intro pins s σ H x y v u Q I rx ry h
  rcases h with h | h
  · exact op_mul pins s σ H x y v u Q I rx ry h
  · exact op_rep pins s σ H x y v u Q I rx ry h
theorem RpA.rep {K : PySem.W.Frag} {H : Hp} {vs : List V} {ds : List PyData} (h : RpA K H vs ds) : ∀ n : Nat, RpA K H (List.replicate n vs).flatten (List.replicate n ds).flatten
  | 0 => .nil
  | n + 1 => by
    rw [List.replicate_succ, List.replicate_succ, List.flatten_cons, List.flatten_cons]
    exact h.app (RpA.rep h n)
theorem mul_ok {K : PySem.W.Frag} : OpD K rMulD mulD := by
  intro G H v u x y o Q ext hx hy e k
  unfold mulD at e
  split at e
  · split at e
    · cases e
      rw [vw_int hx, vw_int hy]
      exact .inl ⟨_, _, rfl, rfl, by assumption, k _ (.int _)⟩
    · cases e
  · split at e
    · rename_i hc
      cases e
      obtain ⟨a, vs, rfl, h1, h2⟩ := hx
      rw [vw_int hy]
      refine .inr ⟨a, _, vs, rfl, rfl, h1, hc.1, hc.2.1, by rw [h2.len]; exact hc.2.2, fun p hp => k p _ hp ?_⟩
      exact h2.rep _
    · cases e
  · cases e
def negD : PyData → Option Out
  | .int i => some (.v (.int (-i)))
  | _ => none
theorem neg_ok {K : PySem.W.Frag} : UnD K (rU fun i => .int (-i)) negD := by
  intro G H v x o Q ext hx e k
  unfold negD at e
  split at e
  · cases e
    rw [vw_int hx]
    exact ⟨_, rfl, k _ (.int _)⟩
  · cases e
def eqD (neg : Bool) (x y : PyData) : Option Out := match x, y with
  | .str a, .str b => some (.v (.bool (if neg then !decide (a = b) else decide (a = b))))
  | x, y => if SeqAt.shaped x = true ∧ SeqAt.shaped y = true then some (.v (.bool (if neg then !PyData.eqv x y else PyData.eqv x y))) else none
def rEqS (K : PySem.W.Frag) : R2 := fun x y H Q => rEqD K x y H Q ∨ rEq x y H Q
def rNeS (K : PySem.W.Frag) : R2 := fun x y H Q => rNeD K x y H Q ∨ rNe x y H Q
theorem op_eqS {X : Cx} (hu : X.A.units + 64 < cLine) : OpR X (compareOp .Eq) (rEqS X.K) := fun pins s σ H x y v u Q I rx ry h => h.elim (op_eqD hu pins s σ H x y v u Q I rx ry) (op_eq pins s σ H x y v u Q I rx ry)
theorem op_neS {X : Cx} (hu : X.A.units + 64 < cLine) : OpR X (compareOp .NotEq) (rNeS X.K) := fun pins s σ H x y v u Q I rx ry h => h.elim (op_neD hu pins s σ H x y v u Q I rx ry) (op_ne pins s σ H x y v u Q I rx ry)
theorem eq_ok {K : PySem.W.Frag} : OpD K (rEqS K) (eqD false) := by
  intro G H v u x y o Q ext hx hy e k
  unfold eqD at e
  split at e
  · cases e
    rw [vw_str hx, vw_str hy]
    refine .inr ⟨rfl, ?_⟩
    have := k _ (.bl _)
    simpa using this
  · split at e
    · rename_i hs
      cases e
      exact .inl ⟨_, _, Rp.dp _ _ (hx.rp ext), Rp.dp _ _ (hy.rp ext), hs.1, hs.2, k _ (.bl _)⟩
    · cases e
theorem ne_ok {K : PySem.W.Frag} : OpD K (rNeS K) (eqD true) := by
  intro G H v u x y o Q ext hx hy e k
  unfold eqD at e
  split at e
  · cases e
    rw [vw_str hx, vw_str hy]
    refine .inr ⟨rfl, ?_⟩
    have := k _ (.bl _)
    simpa using this
  · split at e
    · rename_i hs
      cases e
      exact .inl ⟨_, _, Rp.dp _ _ (hx.rp ext), Rp.dp _ _ (hy.rp ext), hs.1, hs.2, k _ (.bl _)⟩
    · cases e
/-- <, <=, >, >= of ints and of texts -/
def ordD (fi : Int → Int → Bool) (fs : List Nat → List Nat → Bool) : PyData → PyData → Option Out
  | .int i, .int j => some (.v (.bool (fi i j)))
  | .str x, .str y => some (.v (.bool (fs x.cps.toList y.cps.toList)))
  | _, _ => none
def rOrdD (fi : Int → Int → Bool) (fs : List Nat → List Nat → Bool) : R2 := fun x y H Q => (∃ i j, x = .int i ∧ y = .int j ∧ Q (.bl (fi i j)) H) ∨ ∃ i j, x = .str i ∧ y = .str j ∧ Q (.bl (fs i.cps.toList j.cps.toList)) H
theorem ord_ok {K : PySem.W.Frag} {fi : Int → Int → Bool} {fs : List Nat → List Nat → Bool} : OpD K (rOrdD fi fs) (ordD fi fs) := by
  intro G H v u x y o Q ext hx hy e k
  unfold ordD at e
  split at e
  · cases e
    rw [vw_int hx, vw_int hy]
    exact .inl ⟨_, _, rfl, rfl, k _ (.bl _)⟩
  · cases e
    rw [vw_str hx, vw_str hy]
    exact .inr ⟨_, _, rfl, rfl, k _ (.bl _)⟩
  · cases e
def ltI (i j : Int) : Bool := decide (i < j)
def gtI (i j : Int) : Bool := decide (j < i)
def geI (i j : Int) : Bool := decide (j ≤ i)
def ltS (i j : List Nat) : Bool := decide (i < j)
section
variable {X : Cx}
theorem op_ltD : OpR X (compareOp .Lt) (rOrdD ltI ltS) := by
  intro pins s σ H x y v u Q I rx ry h
  rcases h with h | h
  · exact op_lt pins s σ H x y v u Q I rx ry h
  · exact op_lt_str pins s σ H x y v u Q I rx ry h
end
/-- <=, >, >= of ints -/
def ciD (f : Int → Int → Bool) := intD fun i j => some (.bool (f i j))
theorem ci_ok {K : PySem.W.Frag} {f : Int → Int → Bool} : OpD K (rI0 fun i j => .bl (f i j)) (ciD f) := int_ok fun i j z H Q e k => by
  cases e; exact ⟨i, j, rfl, rfl, k _ fun _ => .bl _⟩
section
variable {X : Cx}
theorem op_gtI : OpR X (compareOp .Gt) (rI0 fun i j => .bl (gtI i j)) := op_gt
theorem op_geI : OpR X (compareOp .GtE) (rI0 fun i j => .bl (geI i j)) := op_ge
end
/-- is None, is not None -/
def isND (neg : Bool) : PyData → PyData → Option Out
  | x, .none => some (.v (.bool (match x with
    | .none => !neg
    | _ => neg)))
  | .bool a, .bool b => some (.v (.bool (if neg then !decide (a = b) else decide (a = b))))
  | _, _ => none
def rIsS (neg : Bool) : R2 := fun x y H Q => (y = .non ∧ Q (.bl (if neg then !decide (x = .non) else decide (x = .non))) H) ∨ ∃ a b, x = .bl a ∧ y = .bl b ∧ Q (.bl (if neg then !decide (a = b) else decide (a = b))) H
theorem isN_ok {K : PySem.W.Frag} {neg : Bool} : OpD K (rIsS neg) (isND neg) := by
  intro G H v u x y o Q ext hx hy e k
  unfold isND at e
  split at e
  · cases e
    refine .inl ⟨vw_none hy, ?_⟩
    have nr : ∀ {a : Addr}, decide (V.ref a = V.non) = false := fun {a} => decide_eq_false fun q => nomatch q
    cases x with
    | none =>
      rw [vw_none hx]
      cases neg
      · exact k _ (.bl _)
      · exact k _ (.bl _)
    | bool b => rw [vw_bool hx]; cases neg <;> exact k _ (.bl _)
    | int i => rw [vw_int hx]; cases neg <;> exact k _ (.bl _)
    | str z => rw [vw_str hx]; cases neg <;> exact k _ (.bl _)
    | list xs =>
      obtain ⟨a, vs, rfl, _⟩ := hx
      rw [nr]
      cases neg <;> exact k _ (.bl _)
    | tuple xs =>
      obtain ⟨a, vs, rfl, _⟩ := hx.tup ext
      rw [nr]
      cases neg <;> exact k _ (.bl _)
    | dict xs =>
      have hx : Rp K G v (.dict xs) := hx
      cases hx
  · cases e
    exact .inr ⟨_, _, vw_bool hx, vw_bool hy, k _ (.bl _)⟩
  · cases e
section
variable {X : Cx}
theorem op_isND : OpR X (compareOp .Is) (rIsS false) := fun pins s σ H x y v u Q I rx ry h => h.elim (op_isN pins s σ H x y v u Q I rx ry) (op_is_bl pins s σ H x y v u Q I rx ry)
end
/-- x in a list of data, in a tuple of flat data, in a text -/
def flatD : PyData → Bool
  | .none => true
  | .bool _ => true
  | .int _ => true
  | .str _ => true
  | _ => false
def inD (neg : Bool) : PyData → PyData → Option Out
  | x, .list ys => if SeqAt.shaped x = true ∧ SeqAt.shaped (.list ys) = true then some (.v (.bool (if neg then !ys.any fun z => PyData.eqv z x else ys.any fun z => PyData.eqv z x))) else none
  | x, .tuple ys => if flatD x = true ∧ ys.all flatD = true then some (.v (.bool (if neg then !ys.any fun z => PyData.eqv z x else ys.any fun z => PyData.eqv z x))) else none
  | .str i, .str j => some (.v (.bool (if neg then !(!(Builtin.Str.occurrences j i 0 j.length 1).isEmpty) else !(Builtin.Str.occurrences j i 0 j.length 1).isEmpty)))
  | _, _ => none
def rInA (K : PySem.W.Frag) (neg : Bool) : R2 := fun x y H Q => (∃ d ds, Dp K H x d ∧ Dp K H y (.list ds) ∧ SeqAt.shaped d = true ∧ SeqAt.shaped (.list ds) = true ∧ Q (.bl (if neg then !ds.any fun z => PyData.eqv z d else ds.any fun z => PyData.eqv z d)) H) ∨ rIn K neg x y H Q ∨
  ∃ i j, x = .str i ∧ y = .str j ∧ Q (.bl (if neg then !(!(Builtin.Str.occurrences j i 0 j.length 1).isEmpty) else !(Builtin.Str.occurrences j i 0 j.length 1).isEmpty)) H
section
variable {X : Cx}
theorem op_inA (hu : X.A.units + 65 < cLine) : OpR X (compareOp .In) (rInA X.K false) := by
  intro pins s σ H x y v u Q I rx ry h
  rcases h with h | h | h
  · exact op_inD hu pins s σ H x y v u Q I rx ry h
  · exact op_in_seq pins s σ H x y v u Q I rx ry h
  · exact op_in_str pins s σ H x y v u Q I rx ry h
theorem op_notInA (hu : X.A.units + 65 < cLine) : OpR X (compareOp .NotIn) (rInA X.K true) := by
  intro pins s σ H x y v u Q I rx ry h
  rcases h with h | h | h
  · exact op_notInD hu pins s σ H x y v u Q I rx ry h
  · exact op_notIn_seq pins s σ H x y v u Q I rx ry h
  · exact op_notIn_str pins s σ H x y v u Q I rx ry h
end
theorem flat_V {K : PySem.W.Frag} {G : Hp} {v : V} {x : PyData} (h : Rp K G v x) (f : flatD x = true) : flatV v = true := by
  cases h <;> first | rfl | cases f
theorem flat_eq {K : PySem.W.Frag} {G : Hp} {v u : V} {x y : PyData} (h : Rp K G v x) (f : flatD x = true) (h' : Rp K G u y) (f' : flatD y = true) : eqV v u = PyData.eqv x y := by
  cases h <;> first | (cases f; done) | (cases h' <;> first | (cases f'; done) | (simp [eqV, PyData.eqv]))
theorem flat_any {K : PySem.W.Frag} {G : Hp} {u : V} {y : PyData} (h' : Rp K G u y) (f' : flatD y = true) : ∀ {vs : List V} {ds : List PyData}, RpA K G vs ds → ds.all flatD = true → (vs.all flatV = true ∧ inV u vs = ds.any fun z => PyData.eqv z y)
  | _, _, .nil, _ => ⟨rfl, rfl⟩
  | _, _, .cons r t, f => by
    rw [List.all_cons, Bool.and_eq_true] at f
    obtain ⟨h1, h2⟩ := flat_any h' f' t f.2
    refine ⟨by rw [List.all_cons, flat_V r f.1, h1]; rfl, ?_⟩
    unfold inV at h2 ⊢
    rw [List.any_cons, List.any_cons, flat_eq r f.1 h' f', h2]
theorem in_ok {K : PySem.W.Frag} {neg : Bool} : OpD K (rInA K neg) (inD neg) := by
  intro G H v u x y o Q ext hx hy e k
  unfold inD at e
  split at e
  · split at e
    · rename_i hs
      cases e
      exact .inl ⟨_, _, Rp.dp _ _ (hx.rp ext), Rp.dp _ _ (hy.rp ext), hs.1, hs.2, k _ (.bl _)⟩
    · cases e
  · rename_i ys
    split at e
    · rename_i hs
      cases e
      obtain ⟨a, vs, rfl, h1, h2⟩ := hy.tup ext
      have hx' : Rp K G v x := by
        cases x <;> first | exact hx | exact absurd hs.1 (by simp [flatD])
      obtain ⟨q1, q2⟩ := flat_any hx' hs.1 h2 hs.2
      refine .inr (.inl ⟨a, vs, rfl, .inr h1, flat_V hx' hs.1, q1, ?_⟩)
      rw [q2]
      exact k _ (.bl _)
    · cases e
  · cases e
    rw [vw_str hx, vw_str hy]
    exact .inr (.inr ⟨_, _, rfl, rfl, k _ (.bl _)⟩)
  · cases e
def ixD : PyData → PyData → Option Out
  | .list xs, .int i => (atI xs i).map .v
  | .tuple xs, .int i => (atI xs i).map .v
  | .str z, .int i => if z.length ≤ sizeLine then (atI z.cps.toList i).map fun c => .v (.str ⟨#[c]⟩) else none
  | _, _ => none
theorem RpA.at {K : PySem.W.Frag} {G : Hp} {vs : List V} {ds : List PyData} {i : Int} {x : PyData} (h : RpA K G vs ds) (e : atI ds i = some x) : ∃ v, atI vs i = some v ∧ Rp K G v x := by
  unfold atI at e ⊢
  rw [h.len]
  cases q : ixN ds.length i with
  | none => rw [q] at e; cases e
  | some j =>
    rw [q] at e
    exact h.get e
theorem ix_ok {K : PySem.W.Frag} : OpD K (rIx K) ixD := by
  intro G H v u x y o Q ext hx hy e k
  unfold ixD at e
  split at e
  · rename_i xs i
    cases q : atI xs i with
    | none => rw [q] at e; cases e
    | some z =>
      rw [q] at e
      cases e
      obtain ⟨a, vs, rfl, h1, h2⟩ := hx
      obtain ⟨w, e1, e2⟩ := h2.at q
      rw [vw_int hy]
      exact .inl ⟨a, vs, i, w, rfl, rfl, sql_of h1, e1, k w e2⟩
  · rename_i xs i
    cases q : atI xs i with
    | none => rw [q] at e; cases e
    | some z =>
      rw [q] at e
      cases e
      obtain ⟨a, vs, rfl, h1, h2⟩ := hx.tup ext
      obtain ⟨w, e1, e2⟩ := h2.at q
      rw [vw_int hy]
      exact .inr (.inl ⟨a, vs, i, w, rfl, rfl, h1, e1, k w e2⟩)
  · rename_i z i
    split at e
    · cases q : atI z.cps.toList i with
      | none => rw [q] at e; cases e
      | some c =>
        rw [q] at e
        cases e
        rw [vw_str hx, vw_int hy]
        exact .inr (.inr ⟨z, i, c, rfl, rfl, by assumption, q, k _ (.str _)⟩)
    · cases e
  · cases e
/-- the script at a place -/
def wScr (wa wb : DTE) : DTE := fun ρ κ P => wa ρ κ fun r κ1 => match r with
  | .s ns => wb ρ κ1 fun q κ2 => match q with
    | .d (.int i) => Opt (atI ns i) fun n => P (.d (.int n)) κ2
    | _ => False
  | _ => False
def cut {α : Type} (xs : List α) (lo hi : Option Int) : List α := (xs.drop (HT.sIx xs.length 0 lo)).take (HT.sIx xs.length xs.length hi - HT.sIx xs.length 0 lo)
theorem RpA.cut {K : PySem.W.Frag} {G : Hp} {vs : List V} {ds : List PyData} (h : RpA K G vs ds) (lo hi : Option Int) : RpA K G (cutV vs lo hi) (cut ds lo hi) := by
  unfold cutV DL.cut
  rw [h.len]
  exact (h.drop _).take _
def slD : PyData → Option Int → Option Int → Option Out
  | .list xs, lo, hi => some (.n (cut xs lo hi))
  | .tuple xs, lo, hi => some (.t (cut xs lo hi))
  | .str z, lo, hi => if z.length ≤ sizeLine then some (.v (.str (cutS z lo hi))) else none
  | _, _, _ => none
def rSlD (K : PySem.W.Frag) : V → Option Int → Option Int → Hp → VK → Prop := fun x lo hi H Q => rSlL K x lo hi H Q ∨ rSlA K x lo hi H Q ∨ rSlS x lo hi H Q
theorem sl_any {X : Cx} : SlR X (rSlD X.K) := by
  intro pins s σ H x v vl vu lo hi sl Q I rx hs pl pu h
  rcases h with h | h | h
  · exact sl_list pins s σ H x v vl vu lo hi sl Q I rx hs pl pu h
  · exact sl_tupA pins s σ H x v vl vu lo hi sl Q I rx hs pl pu h
  · exact sl_str pins s σ H x v vl vu lo hi sl Q I rx hs pl pu h
theorem cut_all {xs : List PyData} {lo hi : Option Int} (h : HT.sIx xs.length 0 lo = 0 ∧ HT.sIx xs.length xs.length hi = xs.length) : cut xs lo hi = xs := by
  unfold cut
  rw [h.1, h.2]
  simp
abbrev DTO := Rho → Kap → (Option Int → Kap → Prop) → Prop
def DO (X : Cx) (e : Option Expr) (w : DTO) : Prop := ∃ t, PO X e t ∧ ∀ (G H : Hp) (As : List Addr) (σ : L2.St) (ρ : Rho) (κ : Kap) (P : Option Int → Kap → Prop) (Q : Option Int → Hp → Prop), Cells X.K G H As κ → Places X.K G As σ ρ → w ρ κ P →
  (∀ o G' H' As' κ', Step G H As G' H' As' → Cells X.K G' H' As' κ' → Places X.K G' As' σ ρ → P o κ' → Q o H') → t σ H Q
def wNoP : DTO := fun _ κ P => P none κ
def wP (we : DTE) : DTO := fun ρ κ P => we ρ κ fun r κ1 => match r with
  | .d (.int i) => P (some i) κ1
  | _ => False
def wSl (we : DTE) (wl wh : DTO) : DTE := fun ρ κ P => we ρ κ fun r κ1 => wl ρ κ1 fun lo κ2 => wh ρ κ2 fun hi κ3 => Opt (val κ3 r.st) fun x => Opt (slD x lo hi) fun o => P o.r κ3
section
variable {X : Cx} {e : Expr} {lo hi : Option Expr} {we : DTE} {wl wh : DTO} {pos p2 : Pos}
theorem do_none : DO X none wNoP := ⟨_, po_none, fun G H As σ ρ κ P Q c p w k => k none G H As κ Step.refl c p w⟩
theorem do_some (he : DE X e we) : DO X (some e) (wP we) := by
  obtain ⟨t, pt, he⟩ := he
  refine ⟨_, po_some pt, fun G H As σ ρ κ P Q c p w k => ?_⟩
  refine he G H As σ ρ κ _ _ c p w fun v r G1 H1 As1 κ1 s1 c1 p1 i1 w1 => ?_
  cases r with
  | d x =>
    cases x with
    | int i =>
      have i1 : Rp X.K G1 v (.int i) := i1
      cases i1
      exact ⟨i, rfl, k _ G1 H1 As1 κ1 s1 c1 p1 w1⟩
    | _ => exact w1.elim
  | _ => exact w1.elim
theorem de_sl (he : DE X e we) (hl : DO X lo wl) (hh : DO X hi wh) : DE X (.Subscript e (.Slice lo hi none p2) pos) (wSl we wl wh) := by
  obtain ⟨t, pt, he⟩ := he
  obtain ⟨tl, pl, hl⟩ := hl
  obtain ⟨th, ph, hh⟩ := hh
  refine ⟨_, pe_slice sl_any pt pl ph, fun G H As σ ρ κ P Q c p w k => ?_⟩
  refine he G H As σ ρ κ _ _ c p w fun v r G1 H1 As1 κ1 s1 c1 p1 i1 w1 => ?_
  obtain ⟨G1', s1', c1', p1', i1', _⟩ := settle s1 c1 p1 i1
  refine hl G1' H1 As1 σ ρ κ1 _ _ c1' p1' w1 fun o2 G2 H2 As2 κ2 s2 c2 p2 w2 => ?_
  refine hh G2 H2 As2 σ ρ κ2 _ _ c2 p2 w2 fun o3 G3 H3 As3 κ3 s3 c3 p3 w3 => ?_
  obtain ⟨x, ex, w4⟩ := w3.ex
  obtain ⟨o, eo, w5⟩ := w4.ex
  have st := (s1'.trans s2).trans s3
  have vw := ((s2.trans s3).it i1').vw c3 ex
  have ok := out_ok (P := P) st c3 p3 o w5 k
  unfold slD at eo
  split at eo
  · cases eo
    obtain ⟨a, vs, rfl, h1, h2⟩ := vw
    exact .inl ⟨a, vs, rfl, sql_of h1, fun q hq => ok q _ hq (h2.cut _ _)⟩
  · cases eo
    have vw' := vw
    obtain ⟨a, vs, rfl, h1, h2⟩ := vw.tup c3.ext
    refine .inr (.inl ⟨a, vs, rfl, h1, fun z => ?_, fun _ q hq => ok.1 q _ hq (h2.cut _ _)⟩)
    rw [h2.len] at z
    rw [cut_all z] at ok
    exact ok.2 _ vw'
  · split at eo
    · cases eo
      rw [vw_str vw]
      exact .inr (.inr ⟨_, rfl, by assumption, ok _ (.str _)⟩)
    · cases eo
  · cases eo
end
end DL
namespace DL
open PySem PySem.Spec PyProof.Rows L2
section
variable {K : PySem.W.Frag}
theorem one_of {G H : Hp} {vs : List V} {x : PyData} (h : Paired (Vw K G H) vs [x]) : ∃ v, vs = [v] ∧ Vw K G H v x := by
  cases h with
  | cons r t => cases t; exact ⟨_, rfl, r⟩
theorem two_of {G H : Hp} {vs : List V} {x y : PyData} (h : Paired (Vw K G H) vs [x, y]) : ∃ v u, vs = [v, u] ∧ Vw K G H v x ∧ Vw K G H u y := by
  cases h with
  | cons r t =>
    cases t with
    | cons r2 t => cases t; exact ⟨_, _, rfl, r, r2⟩
def lenD : List PyData → Option Out
  | [.str z] => if z.length ≤ sizeLine then some (.v (.int z.length)) else none
  | [.list xs] => some (.v (.int xs.length))
  | [.tuple xs] => some (.v (.int xs.length))
  | _ => none
theorem len_ok : CallD K (fun xs H Q => ∃ x n, xs = [x] ∧ LenV K x H n ∧ Q (.int n) H) lenD := by
  intro G H vs xs o Q ext h0 e k
  unfold lenD at e
  split at e
  · split at e
    · cases e
      obtain ⟨v, rfl, h⟩ := one_of h0
      rw [vw_str h]
      exact ⟨_, _, rfl, ⟨by assumption, rfl⟩, k _ (.int _)⟩
    · cases e
  · cases e
    obtain ⟨v, rfl, h⟩ := one_of h0
    obtain ⟨a, ws, rfl, h1, h2⟩ := h
    refine ⟨_, _, rfl, .inl ⟨ws, sql_of h1, rfl⟩, ?_⟩
    rw [h2.len]
    exact k _ (.int _)
  · cases e
    obtain ⟨v, rfl, h⟩ := one_of h0
    obtain ⟨a, ws, rfl, h1, h2⟩ := h.tup ext
    refine ⟨_, _, rfl, .inr ⟨ws, h1, rfl⟩, ?_⟩
    rw [h2.len]
    exact k _ (.int _)
  · cases e
def absD : List PyData → Option Out
  | [.int i] => some (.v (.int (if i < 0 then -i else i)))
  | _ => none
theorem abs_ok : CallD K (fun xs H Q => ∃ i, xs = [.int i] ∧ Q (.int (if i < 0 then -i else i)) H) absD := by
  intro G H vs xs o Q ext h0 e k
  unfold absD at e
  split at e
  · cases e
    obtain ⟨v, rfl, h⟩ := one_of h0
    rw [vw_int h]
    exact ⟨_, rfl, k _ (.int _)⟩
  · cases e
def intC : List PyData → Option Out
  | [.int i] => some (.v (.int i))
  | [.bool b] => some (.v (.int (if b then 1 else 0)))
  | _ => none
theorem intC_ok : CallD K (fun xs H Q => (∃ i, xs = [.int i] ∧ Q (.int i) H) ∨ ∃ k, xs = [.bl k] ∧ Q (.int (if k then 1 else 0)) H) intC := by
  intro G H vs xs o Q ext h0 e k
  unfold intC at e
  split at e
  · cases e
    obtain ⟨v, rfl, h⟩ := one_of h0
    rw [vw_int h]
    exact .inl ⟨_, rfl, k _ (.int _)⟩
  · cases e
    obtain ⟨v, rfl, h⟩ := one_of h0
    rw [vw_bool h]
    exact .inr ⟨_, rfl, k _ (.int _)⟩
  · cases e
def max2D : List PyData → Option Out
  | [.int i, .int j] => some (.v (.int (if j > i then j else i)))
  | [.str a, .str b] => some (.v (.str (if a.cps.toList < b.cps.toList then b else a)))
  | _ => none
def rTwo (f : Int → Int → Int) (g : Str → Str → Str) : List V → Hp → VK → Prop := fun xs H Q => (∃ i j, xs = [.int i, .int j] ∧ Q (.int (f i j)) H) ∨ ∃ a b, xs = [.str a, .str b] ∧ Q (.str (g a b)) H
theorem max2_ok : CallD K (rTwo (fun i j => if j > i then j else i) fun a b => if a.cps.toList < b.cps.toList then b else a) max2D := by
  intro G H vs xs o Q ext h0 e k
  unfold max2D at e
  split at e
  · cases e
    obtain ⟨v, u, rfl, h1, h2⟩ := two_of h0
    rw [vw_int h1, vw_int h2]
    exact .inl ⟨_, _, rfl, k _ (.int _)⟩
  · cases e
    obtain ⟨v, u, rfl, h1, h2⟩ := two_of h0
    rw [vw_str h1, vw_str h2]
    exact .inr ⟨_, _, rfl, k _ (.str _)⟩
  · cases e
def min2D : List PyData → Option Out
  | [.int i, .int j] => some (.v (.int (if j < i then j else i)))
  | [.str a, .str b] => some (.v (.str (if b.cps.toList < a.cps.toList then b else a)))
  | _ => none
theorem min2_ok : CallD K (rTwo (fun i j => if j < i then j else i) fun a b => if b.cps.toList < a.cps.toList then b else a) min2D := by
  intro G H vs xs o Q ext h0 e k
  unfold min2D at e
  split at e
  · cases e
    obtain ⟨v, u, rfl, h1, h2⟩ := two_of h0
    rw [vw_int h1, vw_int h2]
    exact .inl ⟨_, _, rfl, k _ (.int _)⟩
  · cases e
    obtain ⟨v, u, rfl, h1, h2⟩ := two_of h0
    rw [vw_str h1, vw_str h2]
    exact .inr ⟨_, _, rfl, k _ (.str _)⟩
  · cases e
def strV : Value → List Nat
  | .str x _ => x.cps.toList
  | _ => []
def isStrV (v : Value) : Prop := ∃ x t, v = .str x t
section
variable {prog : Program} {w : World} {A : Around} {E : Value → Shared → Prop} {s : Shared} {Q : Value → Shared → Prop} {a b : Value}
theorem lt_strV (ha : isStrV a) (hb : isStrV b) (h : Q (.bool (decide (strV a < strV b))) s) : wpAny (model prog w) A (richCompare .Lt a b) Q E s := by
  obtain ⟨x, t, rfl⟩ := ha
  obtain ⟨y, u, rfl⟩ := hb
  exact (PyProof.Rows.lt_str h : wpAny (model prog w) A (compareOp .Lt (.str x t) (.str y u)) Q E s)
theorem gt_strV (ha : isStrV a) (hb : isStrV b) (h : Q (.bool (decide (strV b < strV a))) s) : wpAny (model prog w) A (richCompare .Gt a b) Q E s := by
  obtain ⟨x, t, rfl⟩ := ha
  obtain ⟨y, u, rfl⟩ := hb
  exact (compareOp_gives (op := .Gt) (typeIs_str s x t) (typeIs_str s y u) F.slot_str_gt F.entry_str_gt (F.args_str_gt_2 _ _) (gives_str_gt x y t u) (fun e => nomatch e) h : wpAny (model prog w) A (compareOp .Gt (.str x t) (.str y u)) Q E s)
theorem cmpS_lt (vs : Array Value) (hn : ∀ v ∈ vs, isStrV v) : CmpOf prog w A .Lt (fun i v => vs[i]? = some v) (fun i j => decide (strV (vs.getD i .none) < strV (vs.getD j .none))) := fun i j vi vj s Q E hi hj h => by
  have e1 : vs.getD i .none = vi := by simp [Array.getD_eq_getD_getElem?, hi]
  have e2 : vs.getD j .none = vj := by simp [Array.getD_eq_getD_getElem?, hj]
  simp only [e1, e2] at h
  exact lt_strV (hn _ (Array.mem_of_getElem? hi)) (hn _ (Array.mem_of_getElem? hj)) h
theorem cmpS_gt (vs : Array Value) (hn : ∀ v ∈ vs, isStrV v) : CmpOf prog w A .Gt (fun i v => vs[i]? = some v) (fun i j => decide (strV (vs.getD j .none) < strV (vs.getD i .none))) := fun i j vi vj s Q E hi hj h => by
  have e1 : vs.getD i .none = vi := by simp [Array.getD_eq_getD_getElem?, hi]
  have e2 : vs.getD j .none = vj := by simp [Array.getD_eq_getD_getElem?, hj]
  simp only [e1, e2] at h
  exact gt_strV (hn _ (Array.mem_of_getElem? hi)) (hn _ (Array.mem_of_getElem? hj)) h
theorem min_two_strV (hh : A.handled = none) (ha : isStrV a) (hb : isStrV b)
    (h : ∀ h' tk, (∀ c o, s.heap.get? c = some o → h'.get? c = some o) → Q (if strV b < strV a then b else a) { s with heap := h', toks := tk }) :
    wpAny (model prog w) A (call (.builtin "min") [a, b]) Q E s := by
  have hT : (s.heap.push { cls := .type "tuple", data := .seq #[a, b] }).IsTuple s.heap.objs.size #[a, b] := ⟨_, Heap.get?_push_size _ rfl, rfl, 0, rfl⟩
  refine call_min_two (wpAny_pyIter_tuple hT ?_)
  have hsz : (s.heap.push { cls := .type "tuple", data := .seq #[a, b] }).objs.size = s.heap.objs.size + 1 := Heap.size_push ..
  refine ⟨_, [_, s.heap.objs.size], [_], _, _, _, _, rfl, Walks.tuple (A := A.in1) hh _ s.heap.objs.size (by rw [hsz]; exact Nat.ne_of_lt (Nat.lt_succ_self _)) #[a, b],
    ⟨⟨_, Heap.get?_push_size _ rfl, rfl, rfl⟩, hT.push _⟩, fun c hc => ?_, by simp, cmpS_lt #[a, b] (by simp [ha, hb]), fun v h' tk hP hk => ?_⟩
  · show c < ((s.heap.push _).push _).objs.size
    rw [Heap.size_push, hsz]
    rcases List.mem_cons.mp hc with rfl | hc
    · rw [hsz]; exact Nat.lt_succ_self _
    · rcases List.mem_cons.mp hc with rfl | hc
      · exact Nat.lt_succ_of_lt (Nat.lt_succ_self _)
      · cases hc
  · have hold : ∀ c o, s.heap.get? c = some o → h'.get? c = some o := fun c o e => by
      refine hk c o (fun hm => ?_) (Heap.get?_push_of_some _ (Heap.get?_push_of_some _ e))
      rcases List.mem_cons.mp hm with e1 | hm
      · have := Heap.lt_size e; rw [e1, hsz] at this; exact Nat.lt_irrefl _ (Nat.lt_of_succ_lt this)
      · cases hm
    have := h h' tk hold
    have hv : v = if strV b < strV a then b else a := by
      by_cases hc : strV b < strV a
      · simp [argBest, hc] at hP; rw [if_pos hc]; exact hP.symm
      · simp [argBest, hc] at hP; rw [if_neg hc]; exact hP.symm
    rw [hv]; exact this
theorem max_two_strV (hh : A.handled = none) (ha : isStrV a) (hb : isStrV b)
    (h : ∀ h' tk, (∀ c o, s.heap.get? c = some o → h'.get? c = some o) → Q (if strV a < strV b then b else a) { s with heap := h', toks := tk }) :
    wpAny (model prog w) A (call (.builtin "max") [a, b]) Q E s := by
  have hT : (s.heap.push { cls := .type "tuple", data := .seq #[a, b] }).IsTuple s.heap.objs.size #[a, b] := ⟨_, Heap.get?_push_size _ rfl, rfl, 0, rfl⟩
  refine call_max_two (wpAny_pyIter_tuple hT ?_)
  have hsz : (s.heap.push { cls := .type "tuple", data := .seq #[a, b] }).objs.size = s.heap.objs.size + 1 := Heap.size_push ..
  refine ⟨_, [_, s.heap.objs.size], [_], _, _, _, _, rfl, Walks.tuple (A := A.in1) hh _ s.heap.objs.size (by rw [hsz]; exact Nat.ne_of_lt (Nat.lt_succ_self _)) #[a, b],
    ⟨⟨_, Heap.get?_push_size _ rfl, rfl, rfl⟩, hT.push _⟩, fun c hc => ?_, by simp, cmpS_gt #[a, b] (by simp [ha, hb]), fun v h' tk hP hk => ?_⟩
  · show c < ((s.heap.push _).push _).objs.size
    rw [Heap.size_push, hsz]
    rcases List.mem_cons.mp hc with rfl | hc
    · rw [hsz]; exact Nat.lt_succ_self _
    · rcases List.mem_cons.mp hc with rfl | hc
      · exact Nat.lt_succ_of_lt (Nat.lt_succ_self _)
      · cases hc
  · have hold : ∀ c o, s.heap.get? c = some o → h'.get? c = some o := fun c o e => by
      refine hk c o (fun hm => ?_) (Heap.get?_push_of_some _ (Heap.get?_push_of_some _ e))
      rcases List.mem_cons.mp hm with e1 | hm
      · have := Heap.lt_size e; rw [e1, hsz] at this; exact Nat.lt_irrefl _ (Nat.lt_of_succ_lt this)
      · cases hm
    have := h h' tk hold
    have hv : v = if strV a < strV b then b else a := by
      by_cases hc : strV a < strV b
      · simp [argBest, hc] at hP; rw [if_pos hc]; exact hP.symm
      · simp [argBest, hc] at hP; rw [if_neg hc]; exact hP.symm
    rw [hv]; exact this
end
theorem cr_min2 {X : Cx} (hc : X.calm = true) : CallR X (.builtin "min") (rTwo (fun i j => if j < i then j else i) fun a b => if b.cps.toList < a.cps.toList then b else a) := by
  intro pins s σ H xs us Q I r h
  rcases h with ⟨i, j, rfl, q⟩ | ⟨a, b, rfl, q⟩
  · exact call_min2 hc pins s σ H _ us Q I r ⟨i, j, rfl, q⟩
  · obtain ⟨u, w', rfl, ⟨t, rfl⟩, ⟨t', rfl⟩⟩ := vals2 r
    refine min_two_strV (I.ok.hd hc) ⟨_, _, rfl⟩ ⟨_, _, rfl⟩ fun h' tk k => ⟨_, H, I.kept k, ?_, q⟩
    show RelV (V.str (if b.cps.toList < a.cps.toList then b else a)) (if b.cps.toList < a.cps.toList then Value.str b t' else Value.str a t)
    by_cases hj : b.cps.toList < a.cps.toList
    · rw [if_pos hj, if_pos hj]; exact ⟨_, rfl⟩
    · rw [if_neg hj, if_neg hj]; exact ⟨_, rfl⟩
theorem cr_max2 {X : Cx} (hc : X.calm = true) : CallR X (.builtin "max") (rTwo (fun i j => if j > i then j else i) fun a b => if a.cps.toList < b.cps.toList then b else a) := by
  intro pins s σ H xs us Q I r h
  rcases h with ⟨i, j, rfl, q⟩ | ⟨a, b, rfl, q⟩
  · exact call_max2 hc pins s σ H _ us Q I r ⟨i, j, rfl, q⟩
  · obtain ⟨u, w', rfl, ⟨t, rfl⟩, ⟨t', rfl⟩⟩ := vals2 r
    refine max_two_strV (I.ok.hd hc) ⟨_, _, rfl⟩ ⟨_, _, rfl⟩ fun h' tk k => ⟨_, H, I.kept k, ?_, q⟩
    show RelV (V.str (if a.cps.toList < b.cps.toList then b else a)) (if a.cps.toList < b.cps.toList then Value.str b t' else Value.str a t)
    by_cases hj : a.cps.toList < b.cps.toList
    · rw [if_pos hj, if_pos hj]; exact ⟨_, rfl⟩
    · rw [if_neg hj, if_neg hj]; exact ⟨_, rfl⟩
def listC : List PyData → Option Out
  | [.list xs] => some (.n xs)
  | [.tuple xs] => some (.n xs)
  | _ => none
theorem listC_ok : CallD K (fun xs H Q => ∃ p ys, xs = [.ref p] ∧ (SqL K H p ys ∨ SqT K H p ys) ∧ ∀ l, H l = none → Q (.ref l) (upd H l (.lst ys))) listC := by
  intro G H vs xs o Q ext h0 e k
  unfold listC at e
  split at e
  · cases e
    obtain ⟨v, rfl, h⟩ := one_of h0
    obtain ⟨a, ws, rfl, h1, h2⟩ := h
    exact ⟨_, _, rfl, .inl (sql_of h1), fun l hl => k l _ hl h2⟩
  · cases e
    obtain ⟨v, rfl, h⟩ := one_of h0
    obtain ⟨a, ws, rfl, h1, h2⟩ := h.tup ext
    exact ⟨_, _, rfl, .inr h1, fun l hl => k l _ hl h2⟩
  · cases e
def tupC : List PyData → Option Out
  | [.list xs] => some (.t xs)
  | [.tuple xs] => some (.t xs)
  | _ => none
theorem tupC_ok : CallD K (fun xs H Q => ∃ p ys, xs = [.ref p] ∧ ((SqL K H p ys ∧ ∀ l, H l = none → Q (.ref l) (upd H l (.tup ys))) ∨ (SqT K H p ys ∧ Q (.ref p) H))) tupC := by
  intro G H vs xs o Q ext h0 e k
  unfold tupC at e
  split at e
  · cases e
    obtain ⟨v, rfl, h⟩ := one_of h0
    obtain ⟨a, ws, rfl, h1, h2⟩ := h
    exact ⟨_, _, rfl, .inl ⟨sql_of h1, fun l hl => k.1 l _ hl h2⟩⟩
  · cases e
    obtain ⟨v, rfl, h⟩ := one_of h0
    have h' := h
    obtain ⟨a, ws, rfl, h1, h2⟩ := h.tup ext
    exact ⟨_, _, rfl, .inr ⟨h1, k.2 _ h'⟩⟩
  · cases e
def bools : List PyData → Option (List Bool)
  | [] => some []
  | .bool b :: xs => (bools xs).map (b :: ·)
  | _ => none
theorem bools_map : ∀ bs : List Bool, bools (bs.map .bool) = some bs
  | [] => rfl
  | b :: bs => by
    show (bools (bs.map .bool)).map (b :: ·) = _
    rw [bools_map bs]; rfl
theorem bools_ok {G : Hp} : ∀ {ds : List PyData} {vs : List V} {bs : List Bool}, bools ds = some bs → RpA K G vs ds → vs = bs.map V.bl
  | [], _, _, e, h => by
    cases e; cases h; rfl
  | d :: ds, _, bs, e, h => by
    cases h with
    | cons h1 h2 =>
      cases d with
      | bool b =>
        unfold bools at e
        cases q : bools ds with
        | none => rw [q] at e; cases e
        | some cs =>
          rw [q] at e
          cases e
          cases h1
          rw [bools_ok q h2]
          rfl
      | _ => cases e
def allC (f : List Bool → Bool) : List PyData → Option Out
  | [.list xs] => (bools xs).map fun bs => .v (.bool (f bs))
  | _ => none
theorem allC_ok {f : List Bool → Bool} : CallD K (fun vs H Q => ∃ (a : Addr) (bs : List Bool), vs = [V.ref a] ∧ SqL K H a (bs.map V.bl) ∧ Q (.bl (f bs)) H) (allC f) := by
  intro G H vs xs o Q ext h0 e k
  unfold allC at e
  split at e
  · rename_i xs
    cases q : bools xs with
    | none => rw [q] at e; cases e
    | some bs =>
      rw [q] at e
      cases e
      obtain ⟨v, rfl, h⟩ := one_of h0
      obtain ⟨a, ws, rfl, h1, h2⟩ := h
      rw [bools_ok q h2] at h1
      exact ⟨a, bs, rfl, sql_of h1, k _ (.bl _)⟩
  · cases e
end
def dLe (x y : PyData) : Bool := !PySem.W.dataLt y x
def SortOk (xs : List PyData) : Prop := PySem.W.AllAlike xs ∧ PySem.W.Sortable xs ∧ (∀ x ∈ xs, x.depth ≤ 64) ∧ xs.length ≤ sizeLine
open Classical in
noncomputable def sortC : List PyData → Option Out
  | [.list xs] => if SortOk xs then some (.n (xs.mergeSort dLe)) else none
  | [.tuple xs] => if SortOk xs then some (.n (xs.mergeSort dLe)) else none
  | _ => none
def rSortD (K : PySem.W.Frag) : List V → Hp → VK → Prop := fun vs H Q => ∃ (a : Addr) (ps : List (V × PyData)), vs = [V.ref a] ∧ (SqL K H a (ps.map (·.1)) ∨ SqT K H a (ps.map (·.1))) ∧ (∀ p ∈ ps, Rp K H p.1 p.2) ∧ SortOk (ps.map (·.2)) ∧
  ∀ (qs : List (V × PyData)) (p : Addr), qs = ps.mergeSort (fun x y => dLe x.2 y.2) → H p = none → Q (.ref p) (upd H p (.lst (qs.map (·.1))))
theorem each_of {R : Value → V × PyData → Prop} : ∀ {ps : List (V × PyData)} {us : List Value}, Vals (ps.map (·.1)) us → (∀ p ∈ ps, ∀ u, RelV p.1 u → R u p) → PySem.W.EachIs R us ps
  | [], _, .nil, _ => .nil
  | p :: ps, _, .cons r t, h => .cons (h p (List.mem_cons_self ..) _ r) (each_of t fun q hq => h q (List.mem_cons_of_mem _ hq))
theorem of_each : ∀ {us : List Value} {ps : List (V × PyData)}, PySem.W.EachIs (fun u p => RelV p.1 u) us ps → Vals (ps.map (·.1)) us
  | _, _, .nil => .nil
  | _, _, .cons r t => .cons r (of_each t)
mutual
theorem rd_old {h : Heap} : ∀ (d : PyData) (v : Value) (as : List Addr), PySem.W.alike d d = true → Reads h v d as → ∀ a ∈ as, ∃ o, h.get? a = some o
  | .none, _, _, _, r, _, hm => by cases r; cases hm
  | .bool _, _, _, _, r, _, hm => by cases r; cases hm
  | .int _, _, _, _, r, _, hm => by cases r; cases hm
  | .str _, _, _, _, r, _, hm => by cases r; cases hm
  | .list xs, _, _, hal, r, _, hm => by
    cases r with
    | list h1 h2 h3 h4 =>
      rcases List.mem_cons.mp hm with rfl | hm
      · exact ⟨_, h1⟩
      · exact rds_old xs _ _ (by simpa [PySem.W.alike] using hal) h4 _ hm
  | .tuple xs, _, _, hal, r, _, hm => by
    cases r with
    | tuple h1 h2 h3 h4 => exact rds_old xs _ _ (by simpa [PySem.W.alike] using hal) h4 _ hm
  | .dict _, _, _, hal, _, _, _ => absurd hal (by simp [PySem.W.alike])
theorem rds_old {h : Heap} : ∀ (ds : List PyData) (vs : List Value) (as : List Addr), PySem.W.alikeAll ds ds = true → ReadsAll h vs ds as → ∀ a ∈ as, ∃ o, h.get? a = some o
  | [], _, _, _, r, _, hm => by cases r; cases hm
  | d :: ds, _, _, hal, r, _, hm => by
    cases r with
    | cons h1 h2 =>
      rcases List.mem_append.mp hm with hm | hm
      · exact rd_old d _ _ (PySem.W.alike_all_cons hal).1 h1 _ hm
      · exact rds_old ds _ _ (PySem.W.alike_all_cons hal).2 h2 _ hm
end
theorem cr_sortD {X : Cx} (hu : X.A.units + 80 < cLine) : CallR X (.builtin "sorted") (rSortD X.K) := by
  intro pins s σ H vs us Q I r h
  obtain ⟨a, ps, rfl, hs | hs, hp, ⟨hal, hk, hd, hl⟩, q⟩ := h
  · obtain ⟨its, rv, hL, hz⟩ := I.list hs
    rw [Vals.ref1 r]
    refine PySem.W.sorted_data (enc := fun p : V × PyData => p.2) hL.isList (each_of rv fun p _ u r => r) (each_of rv fun p hm u r => Dp.reads I _ _ _ (Rp.dp _ _ (hp p hm)) r) hal hk (by rw [List.length_map] at hl; exact hl) (fun b hb => ?_) fun out h1 h2 => ?_
    · have := hd b.2 (List.mem_map.mpr ⟨b, hb, rfl⟩)
      omega
    · obtain ⟨ep, he⟩ := PyProof.Rows.sortedAll_at s.heap its (List.toArray out)
      have rv2 := of_each h2
      have e0 : ps.mergeSort (PySem.W.dataLe false fun p : V × PyData => p.2) = ps.mergeSort (fun x y => dLe x.2 y.2) := rfl
      rw [e0] at rv2
      have hlen : ((ps.mergeSort (fun x y => dLe x.2 y.2)).map (·.1)).length ≤ sizeLine := by
        rw [List.length_map, List.length_mergeSort]
        rw [List.length_map] at hl
        exact hl
      exact ⟨.ref _, upd H (s.heap.objs.size + 1) (.lst ((ps.mergeSort (fun x y => dLe x.2 y.2)).map (·.1))), I.laid (t' := s.toks) (fun _ _ => PyProof.Rows.sortedAll_old) (Nat.le_succ _) ⟨hlen, (List.toArray out).toList, ep, rv2, he⟩, rfl, q _ _ rfl (I.hok.fresh (Nat.le_succ _))⟩
  · obtain ⟨its, rv, hT, hz⟩ := I.tuple hs
    obtain ⟨o, ho, hc, n, hd0⟩ := hT
    have hlen : its.length = ps.length := by rw [← rv.length, List.length_map]
    have hl : ps.length ≤ sizeLine := by rw [List.length_map] at hl; exact hl
    rw [Vals.ref1 r]
    refine Calls.call_function_entry PyProof.Rows.kind_sorted PyProof.Rows.plain_sorted PyProof.Rows.entry_sorted (PyProof.Rows.args_sorted1 _) ?_
    unfold Builtin.«sorted»
    refine wpAny_bind (m := checkCount "sorted" 1 1 _) (wpAny_pure ?_)
    refine wpAny_bind (wpAny_collect_seq a (.inr rfl) ho hc hd0 (fun h1 kp => ?_) (by rw [List.size_toArray, hlen]; exact hl))
    refine wpAny_bind (wpAny_newList ?_ (by rw [show its.toArray.toList = its by simp, hlen]; exact hl))
    rw [show its.toArray.toList = its by simp]
    have hoL : (h1.push (seqObj "list" its.toArray 0)).get? h1.objs.size = some (seqObj "list" its.toArray 0) := Heap.get?_push_size _ rfl
    show wpAny _ _ _ _ _ { s with heap := h1.push (seqObj "list" its.toArray 0) }
    have kp1 : ∀ b o, s.heap.get? b = some o → (h1.push (seqObj "list" its.toArray 0)).get? b = some o := fun b o e => Heap.get?_push_of_some _ (kp b o e)
    refine wpAny_bind (wpAny_holding (PySem.W.list_sort_data (s := { s with heap := h1.push (seqObj "list" its.toArray 0) }) (R := fun (u : Value) (p : V × PyData) => RelV p.1 u) (enc := fun p : V × PyData => p.2) hoL (each_of rv fun p _ u r => r) (each_of rv fun p hm u r => ?_) hal hk hl (fun b hb => ?_) fun out hol he => ?_))
    · obtain ⟨as, rd⟩ := Dp.reads I _ _ _ (Rp.dp _ _ (hp p hm)) r
      have hal1 : PySem.W.alike p.2 p.2 = true := hal _ (List.mem_map.mpr ⟨p, hm, rfl⟩) _ (List.mem_map.mpr ⟨p, hm, rfl⟩)
      refine ⟨as, PyProof.Rows.Reads.keeps kp1 rd, fun hin => ?_⟩
      obtain ⟨o2, e⟩ := rd_old _ _ _ hal1 rd _ hin
      exact Nat.lt_irrefl _ (Heap.lt_size (kp _ _ e))
    · have := hd b.2 (List.mem_map.mpr ⟨b, hb, rfl⟩)
      show X.A.units + 1 + 1 + _ < _
      omega
    · have e0 : ps.mergeSort (PySem.W.dataLe false fun p : V × PyData => p.2) = ps.mergeSort (fun x y => dLe x.2 y.2) := rfl
      rw [e0] at he
      have rv2 := of_each he
      obtain ⟨e', he'⟩ := PyProof.Rows.sortedHeap_at (vs := its) (out := out.toArray) hoL
      have I1 : L2.Inv X pins σ H { s with heap := h1 } := I.kept (t' := s.toks) kp
      have hlen2 : ((ps.mergeSort (fun x y => dLe x.2 y.2)).map (·.1)).length ≤ sizeLine := by
        rw [List.length_map, List.length_mergeSort]
        exact hl
      refine wpAny_pure ⟨_, rfl, .ref h1.objs.size, upd H h1.objs.size (.lst ((ps.mergeSort (fun x y => dLe x.2 y.2)).map (·.1))), I1.laid (t' := s.toks) (fun b u e => ?_) (Nat.le_refl _) ⟨hlen2, out, e', rv2, he'⟩, rfl, q _ _ rfl (I1.hok.fresh (Nat.le_refl _))⟩
      have hb : b < h1.objs.size := Heap.lt_size e
      show (PyProof.Rows.sortedHeap (h1.push (seqObj "list" its.toArray 0)) h1.objs.size its out.toArray).get? b = some u
      rw [PyProof.Rows.sortedHeap_old (Nat.ne_of_lt hb) (by rw [size_push']; exact Nat.lt_succ_of_lt hb)]
      exact Heap.get?_push_of_some _ e
theorem pairs_of {K : PySem.W.Frag} {G : Hp} : ∀ {vs : List V} {ds : List PyData}, RpA K G vs ds → ∃ ps : List (V × PyData), ps.map (·.1) = vs ∧ ps.map (·.2) = ds ∧ ∀ p ∈ ps, Rp K G p.1 p.2
  | _, _, .nil => ⟨[], rfl, rfl, fun _ h => by cases h⟩
  | v :: vs, d :: ds, .cons r t => by
    obtain ⟨ps, h1, h2, h3⟩ := pairs_of t
    refine ⟨(v, d) :: ps, by rw [List.map_cons, h1], by rw [List.map_cons, h2], fun p hp => ?_⟩
    rcases List.mem_cons.mp hp with rfl | hp
    · exact r
    · exact h3 p hp
theorem rpa_of {K : PySem.W.Frag} {G : Hp} : ∀ {ps : List (V × PyData)}, (∀ p ∈ ps, Rp K G p.1 p.2) → RpA K G (ps.map (·.1)) (ps.map (·.2))
  | [], _ => .nil
  | p :: ps, h => .cons (h p (List.mem_cons_self ..)) (rpa_of fun q hq => h q (List.mem_cons_of_mem _ hq))
theorem sortC_ok {K : PySem.W.Frag} : CallD K (rSortD K) sortC := by
  intro G H vs xs o Q ext h0 e k
  have go : ∀ (a : Addr) (ws : List V) (xs : List PyData), vs = [.ref a] → (SqL K H a ws ∨ SqT K H a ws) → RpA K G ws xs → SortOk xs → o = .n (xs.mergeSort dLe) → rSortD K vs H Q := fun a ws xs ev hq h2 hs eo => by
    subst eo
    obtain ⟨ps, e1, e2, h3⟩ := pairs_of h2
    refine ⟨a, ps, ev, by rw [e1]; exact hq, fun p hp => Rp.mono ext _ _ (h3 p hp), by rw [e2]; exact hs, fun qs p eq hp => k p _ hp ?_⟩
    have m : (ps.mergeSort fun x y => dLe x.2 y.2).map (·.2) = xs.mergeSort dLe := by
      rw [← e2]
      exact List.map_mergeSort fun _ _ _ _ => rfl
    rw [← m, ← eq]
    refine rpa_of fun p hp => h3 p ?_
    rw [eq] at hp
    exact (List.mergeSort_perm _ _).mem_iff.mp hp
  unfold sortC at e
  split at e
  · split at e
    · rename_i xs hs
      cases e
      obtain ⟨v, rfl, h⟩ := one_of h0
      obtain ⟨a, ws, rfl, h1, h2⟩ := h
      exact go a ws _ rfl (.inl (sql_of h1)) h2 hs rfl
    · cases e
  · split at e
    · rename_i xs hs
      cases e
      obtain ⟨v, rfl, h⟩ := one_of h0
      obtain ⟨a, ws, rfl, h1, h2⟩ := h.tup ext
      exact go a ws _ rfl (.inr h1) h2 hs rfl
    · cases e
  · cases e
def tyN : PyData → String
  | .none => "NoneType"
  | .bool _ => "bool"
  | .int _ => "int"
  | .str _ => "str"
  | .list _ => "list"
  | .tuple _ => "tuple"
  | .dict _ => "dict"
inductive Ty where
  | int | bool | str | list | tuple
def Ty.n : Ty → String
  | .int => "int"
  | .bool => "bool"
  | .str => "str"
  | .list => "list"
  | .tuple => "tuple"
def isi : PyData → Ty → Bool
  | .bool _, .bool => true
  | .bool _, .int => true
  | .int _, .int => true
  | .str _, .str => true
  | .list _, .list => true
  | .tuple _, .tuple => true
  | _, _ => false
theorem kit_all : ∀ T : Ty, kitB "NoneType" T.n = some false ∧ kitB "bool" T.n = some (isi (.bool true) T) ∧ kitB "int" T.n = some (isi (.int 0) T) ∧ kitB "str" T.n = some (isi (.str "") T) ∧ kitB "list" T.n = some (isi (.list []) T) ∧ kitB "tuple" T.n = some (isi (.tuple []) T) := by
  intro T
  cases T <;> decide +kernel
theorem kit_is {x : PyData} {T : Ty} (h : ∀ ds, x ≠ .dict ds) : kitB (tyN x) T.n = some (isi x T) := by
  obtain ⟨h1, h2, h3, h4, h5, h6⟩ := kit_all T
  cases x with
  | none => exact h1.trans (by cases T <;> rfl)
  | bool b => exact h2.trans (by cases T <;> rfl)
  | int i => exact h3.trans (by cases T <;> rfl)
  | str z => exact h4.trans (by cases T <;> rfl)
  | list xs => exact h5.trans (by cases T <;> rfl)
  | tuple xs => exact h6.trans (by cases T <;> rfl)
  | dict ds => exact absurd rfl (h ds)
theorem ty_of {K : PySem.W.Frag} {G H : Hp} {v : V} {x : PyData} (ext : Ex G H) (h : Vw K G H v x) : TyX K H v (.type (tyN x)) ∧ ∀ ds, x ≠ .dict ds := by
  cases x with
  | none => rw [vw_none h]; exact ⟨.base .non, fun _ z => nomatch z⟩
  | bool b => rw [vw_bool h]; exact ⟨.base (.bl b), fun _ z => nomatch z⟩
  | int i => rw [vw_int h]; exact ⟨.base (.int i), fun _ z => nomatch z⟩
  | str z => rw [vw_str h]; exact ⟨.base (.str z), fun _ z => nomatch z⟩
  | list xs =>
    obtain ⟨a, vs, rfl, h1, _⟩ := h
    exact ⟨.base (.lst h1), fun _ z => nomatch z⟩
  | tuple xs =>
    obtain ⟨a, vs, rfl, h1, _⟩ := h.tup ext
    refine ⟨?_, fun _ z => nomatch z⟩
    rcases h1 with (h1 | ⟨o, h1⟩) | ⟨o, _, _, e, c, _⟩
    · exact .base (.tup h1)
    · exact .fTuple h1
    · exact .kTuple e c
  | dict xs =>
    have h : Rp K G v (.dict xs) := h
    cases h
def wIsi (T : Ty) (wa : DTE) : DTE := fun ρ κ P => wa ρ κ fun r κ1 => Opt (val κ1 r.st) fun x => P (.d (.bool (isi x T))) κ1
def wIsi2 (T U : Ty) (wa : DTE) : DTE := fun ρ κ P => wa ρ κ fun r κ1 => Opt (val κ1 r.st) fun x => P (.d (.bool (isi x T || isi x U))) κ1
section
variable {X : Cx} {e : Expr} {wa : DTE} {p p2 p3 p4 pos : Pos} {tn un : Str} {kk : Nat}
theorem de_isi (T : Ty) (hm : X.mg "isinstance" = none) (ht : X.mg tn = none) (ha : DE X e wa) (htv : bootBuiltins tn = some (.type T.n) := by decide +kernel) (hg : Gl X "isinstance" := by rfl) (hgt : Gl X tn := by rfl) (hnt : tn ≠ "__name__" := by decide) (hdt : (tn == ("__debug__" : Str)) = false := by decide)
    (hs : starEach [e, .Name tn p2] X.env = (false, eval e X.env) :: starEach [.Name tn p2] X.env := by rfl) (hs2 : starEach [.Name tn p2] X.env = (false, eval (.Name tn p2) X.env) :: starEach [] X.env := by rfl) (hpl : (backTo pos (starEach [.Name tn p2] X.env)).any (·.1) = false := by rfl) :
    DE X (.Call (.Name "isinstance" p) [e, .Name tn p2] [] pos) (wIsi T wa) := by
  obtain ⟨t, pt, ha⟩ := ha
  refine ⟨_, pe_callB call_isi hg hm (by decide +kernel) (pa_cons pt (pa_cons (pe_bltn (v := .ty T.n) hgt ht htv rfl hnt hdt) pa_nil hs2) hs) (by decide) (by decide) hs hpl, fun G H As σ ρ κ P Q c pl w k => ?_⟩
  refine ha G H As σ ρ κ _ _ c pl w fun v r G1 H1 As1 κ1 s1 c1 p1 i1 w1 => ?_
  obtain ⟨G1', s1', c1', p1', i1', _⟩ := settle s1 c1 p1 i1
  obtain ⟨x, ex, w2⟩ := w1.ex
  obtain ⟨h1, h2⟩ := ty_of c1'.ext (i1'.vw c1' ex)
  exact ⟨v, .ty T.n, _, _, isi x T, rfl, .ty _, h1, kit_ty (kit_is h2), k _ (.d (.bool _)) G1' H1 As1 κ1 s1' c1' p1' (.bl _) w2⟩
theorem de_isi2 (T U : Ty) (hm : X.mg "isinstance" = none) (ht : X.mg tn = none) (hu : X.mg un = none) (ha : DE X e wa) (htv : bootBuiltins tn = some (.type T.n) := by decide +kernel) (huv : bootBuiltins un = some (.type U.n) := by decide +kernel) (hg : Gl X "isinstance" := by rfl) (hgt : Gl X tn := by rfl) (hgu : Gl X un := by rfl)
    (hnt : tn ≠ "__name__" := by decide) (hdt : (tn == ("__debug__" : Str)) = false := by decide) (hnu : un ≠ "__name__" := by decide) (hdu : (un == ("__debug__" : Str)) = false := by decide)
    (hs : starEach [e, .Tuple [.Name tn p2, .Name un p3] kk p4] X.env = (false, eval e X.env) :: starEach [.Tuple [.Name tn p2, .Name un p3] kk p4] X.env := by rfl) (hs2 : starEach [.Tuple [.Name tn p2, .Name un p3] kk p4] X.env = (false, eval (.Tuple [.Name tn p2, .Name un p3] kk p4) X.env) :: starEach [] X.env := by rfl)
    (hs3 : starEach [.Name tn p2, .Name un p3] X.env = (false, eval (.Name tn p2) X.env) :: starEach [.Name un p3] X.env := by rfl) (hs4 : starEach [.Name un p3] X.env = (false, eval (.Name un p3) X.env) :: starEach [] X.env := by rfl)
    (hpl : (backTo pos (starEach [.Tuple [.Name tn p2, .Name un p3] kk p4] X.env)).any (·.1) = false := by rfl) :
    DE X (.Call (.Name "isinstance" p) [e, .Tuple [.Name tn p2, .Name un p3] kk p4] [] pos) (wIsi2 T U wa) := by
  obtain ⟨t, pt, ha⟩ := ha
  refine ⟨_, pe_callB call_isiT hg hm (by decide +kernel) (pa_cons pt (pa_cons (pe_tup (pa_cons (pe_bltn (v := .ty T.n) hgt ht htv rfl hnt hdt) (pa_cons (pe_bltn (v := .ty U.n) hgu hu huv rfl hnu hdu) pa_nil hs4) hs3)) pa_nil hs2) hs) (by decide) (by decide) hs hpl, fun G H As σ ρ κ P Q c pl w k => ?_⟩
  refine ha G H As σ ρ κ _ _ c pl w fun v r G1 H1 As1 κ1 s1 c1 p1 i1 w1 => ?_
  obtain ⟨G1', s1', c1', p1', i1', _⟩ := settle s1 c1 p1 i1
  obtain ⟨x, ex, w2⟩ := w1.ex
  refine ⟨by show 2 ≤ sizeLine; decide, fun q hq => ?_⟩
  have e2 : Ex H1 (upd H1 q (.tup [.ty T.n, .ty U.n])) := Ex.new hq
  obtain ⟨h1, h2⟩ := ty_of (c1'.ext.trans e2) (show Vw X.K G1' (upd H1 q (.tup [.ty T.n, .ty U.n])) v x from by
    have vw := i1'.vw c1' ex
    cases x with
    | list xs =>
      obtain ⟨a, vs, rfl, h1, h2⟩ := vw
      exact ⟨a, vs, rfl, e2 _ _ h1, h2⟩
    | none => exact vw
    | bool _ => exact vw
    | int _ => exact vw
    | str _ => exact vw
    | tuple _ => exact vw
    | dict _ => exact vw)
  refine ⟨v, q, [.ty T.n, .ty U.n], _, [.type T.n, .type U.n], isi x T || isi x U, rfl, upd_same, .cons (.ty _) (.cons (.ty _) .nil), h1, ?_, ?_⟩
  · refine kitAny_cons (kit_ty (kit_is h2)) (fun e => ?_) (fun e => by rw [e]; rfl)
    rw [e, Bool.false_or]
    refine kitAny_cons (kit_ty (kit_is h2)) (fun e => ?_) (fun e => e)
    rw [e]; exact kitAny_nil
  · have st : Step G H As G1' (upd H1 q (.tup [.ty T.n, .ty U.n])) As1 := s1'.trans (Step.fresh hq)
    exact k _ (.d (.bool _)) G1' _ As1 κ1 st (c1'.fresh hq) p1' (.bl _) w2
end
def tyOk (T : String) : PyData → Prop
  | .str _ => T = "str"
  | .list _ => T = "list"
  | _ => False
def MtD (K : PySem.W.Frag) (r : V → List V → Hp → VK → Prop) (g : PyData → List PyData → Option Out) : Prop := ∀ (G H : Hp) (v : V) (vs : List V) (x : PyData) (xs : List PyData) (o : Out) (Q : VK), Ex G H → Vw K G H v x → Paired (Vw K G H) vs xs → g x xs = some o → OutK K G H Q o → r v vs H Q
def wBM (T : String) (g : PyData → List PyData → Option Out) (wo : DTE) (wa : DTA) : DTE := fun ρ κ P => wo ρ κ fun r κ1 => Opt (val κ1 r.st) fun x0 => tyOk T x0 ∧ wa ρ κ1 fun rs κ2 => Opt (val κ2 r.st) fun x => Opt (vals κ2 rs) fun xs => Opt (g x xs) fun o => P o.r κ2
theorem tyV_of {K : PySem.W.Frag} {G H : Hp} {v : V} {x : PyData} {T : String} (h : Vw K G H v x) (t : tyOk T x) : tyV K T v H := by
  cases x with
  | str z => rw [vw_str h]; exact t
  | list xs =>
    obtain ⟨a, vs, rfl, h1, _⟩ := h
    exact .inl ⟨t, vs, sql_of h1⟩
  | _ => exact t.elim
section
variable {X : Cx} {o e : Expr} {es : List Expr} {wo : DTE} {wr : DTA} {apos cpos : Pos} {T id : String} {name : Str}
theorem de_bm {r : V → List V → Hp → VK → Prop} {g : PyData → List PyData → Option Out} (pa : PlainAttrs T) (slot : Slot T name id) (hty : typeOf (.builtin id) = pure (.type "method_descriptor")) (hm : MtR X id r) (hg : MtD X.K r g) (ho : DE X o wo) (ha : DA X (e :: es) wr)
    (hbase : attributeBase o name X.env (eval o X.env) = eval o X.env := by rfl)
    (hfew : ((backTo cpos (starEach (e :: es) X.env)).all (fun x => !x.1) && (backToKw cpos (keywordEach [] X.env)).all (fun x => x.1.isSome) && decide ((e :: es).length + ([] : List Keyword).length + (if ([] : List Keyword).isEmpty then 0 else 1) < 30)) = true := by rfl)
    (hline : (apos.endLine == cpos.line) = true := by rfl) (hs : starEach (e :: es) X.env = (false, eval e X.env) :: starEach es X.env := by rfl) (hplain : (backTo cpos (starEach es X.env)).any (·.1) = false := by rfl) :
    DE X (.Call (.Attribute o name apos) (e :: es) [] cpos) (wBM T g wo wr) := by
  obtain ⟨to, po, ho⟩ := ho
  obtain ⟨t, pt, ha⟩ := ha
  refine ⟨_, pe_bm pa slot hty hm po pt hbase hfew hline hs hplain, fun G H As σ ρ κ P Q c p w k => ?_⟩
  refine ho G H As σ ρ κ _ _ c p w fun v1 r1 G1 H1 As1 κ1 s1 c1 p1 i1 w1 => ?_
  obtain ⟨G1', s1', c1', p1', i1', _⟩ := settle s1 c1 p1 i1
  obtain ⟨x0, ex0, tok, w1⟩ := w1.ex
  refine ⟨tyV_of (i1'.vw c1' ex0) tok, ?_⟩
  refine ha G1' H1 As1 σ ρ κ1 _ _ c1' p1' w1 fun vs rs G2 H2 As2 κ2 s2 c2 p2 i2 _ w2 => ?_
  obtain ⟨x, ex, w2⟩ := w2.ex
  obtain ⟨xs, exs, w2⟩ := w2.ex
  obtain ⟨oo, eo, w2⟩ := w2.ex
  exact hg G2 H2 v1 vs x xs oo Q c2.ext ((s2.it i1').vw c2 ex) (vals_ok c2 i2 exs) eo (out_ok (s1'.trans s2) c2 p2 oo w2 k)
end
def strL : List PyData → Option (List Str)
  | [] => some []
  | .str z :: xs => (strL xs).map (z :: ·)
  | _ => none
theorem strs_ok {K : PySem.W.Frag} {G : Hp} : ∀ {ds : List PyData} {vs : List V} {bs : List Str}, strL ds = some bs → RpA K G vs ds → vs = bs.map V.str
  | [], _, _, e, h => by
    cases e; cases h; rfl
  | d :: ds, _, bs, e, h => by
    cases h with
    | cons h1 h2 =>
      cases d with
      | str b =>
        unfold strL at e
        cases q : strL ds with
        | none => rw [q] at e; cases e
        | some cs =>
          rw [q] at e
          cases e
          cases h1
          rw [strs_ok q h2]
          rfl
      | _ => cases e
def joinC : PyData → List PyData → Option Out
  | .str a, [.list xs] => match strL xs with
    | some ys => if (ys.map (·.length)).sum + ys.length * a.length ≤ 16777216 then some (.v (.str (Txt.join a ys))) else none
    | none => none
  | .str a, [.tuple xs] => match strL xs with
    | some ys => if (ys.map (·.length)).sum + ys.length * a.length ≤ 16777216 then some (.v (.str (Txt.join a ys))) else none
    | none => none
  | _, _ => none
theorem joinC_ok {K : PySem.W.Frag} : MtD K (fun x xs H Q => ∃ a p, ∃ ys : List Str, x = .str a ∧ xs = [.ref p] ∧ (SqL K H p (ys.map V.str) ∨ SqT K H p (ys.map V.str)) ∧ (ys.map (·.length)).sum + ys.length * a.length ≤ 16777216 ∧ Q (.str (Txt.join a ys)) H) joinC := by
  intro G H v vs x xs o Q ext hx h0 e k
  unfold joinC at e
  split at e
  · split at e
    · rename_i ys q
      split at e
      · cases e
        obtain ⟨u, rfl, h⟩ := one_of h0
        obtain ⟨a, ws, rfl, h1, h2⟩ := h
        rw [strs_ok q h2] at h1
        exact ⟨_, a, ys, vw_str hx, rfl, .inl (sql_of h1), by assumption, k _ (.str _)⟩
      · cases e
    · cases e
  · split at e
    · rename_i ys q
      split at e
      · cases e
        obtain ⟨u, rfl, h⟩ := one_of h0
        obtain ⟨a, ws, rfl, h1, h2⟩ := h.tup ext
        rw [strs_ok q h2] at h1
        exact ⟨_, a, ys, vw_str hx, rfl, .inr h1, by assumption, k _ (.str _)⟩
      · cases e
    · cases e
  · cases e
section
variable {X : Cx} {a b e : Expr} {wa wb : DTE} {p pos : Pos}
theorem de_scr (ha : DE X a wa) (hb : DE X b wb) (hs : PlainIx b) : DE X (.Subscript a b pos) (wScr wa wb) := by
  obtain ⟨ta, pa, ha⟩ := ha
  obtain ⟨tb, pb, hb⟩ := hb
  refine ⟨_, pe_ix ix_list pa pb hs, fun G H As σ ρ κ P Q c p w k => ?_⟩
  refine ha G H As σ ρ κ _ _ c p w fun v1 r1 G1 H1 As1 κ1 s1 c1 p1 i1 w1 => ?_
  cases r1 with
  | s ns =>
    refine hb G1 H1 As1 σ ρ κ1 _ _ c1 p1 w1 fun v2 r2 G2 H2 As2 κ2 s2 c2 p2 i2 w2 => ?_
    have i1' : It X.K G1 As1 v1 (.s ns) := i1
    obtain ⟨l, rfl, hl⟩ := s2.it i1'
    cases r2 with
    | d y =>
      cases y with
      | int i =>
        obtain ⟨n, en, w3⟩ := w2.ex
        have i2 : Rp X.K G2 v2 (.int i) := i2
        cases i2
        refine ⟨l, _, i, .int n, rfl, rfl, ex_sl c2.ext hl, ?_, k _ (.d (.int n)) G2 H2 As2 κ2 (s1.trans s2) c2 p2 (.int _) w3⟩
        unfold atI at en ⊢
        rw [List.length_map]
        cases q : ixN ns.length i with
        | none => rw [q] at en; cases en
        | some j =>
          rw [q] at en
          show (ns.map V.int)[j]? = some (V.int n)
          rw [List.getElem?_map, show ns[j]? = some n from en]
          rfl
      | _ => exact w2.elim
    | _ => exact w2.elim
  | _ => exact w1.elim
/-- len(script) -/
def wLenS (wa : DTE) : DTE := fun ρ κ P => wa ρ κ fun r κ1 => match r with
  | .s ns => P (.d (.int ns.length)) κ1
  | _ => False
theorem de_lenS (hm : X.mg "len" = none) (ha : DE X e wa) (hg : Gl X "len" := by rfl) (hs : starEach [e] X.env = (false, eval e X.env) :: starEach [] X.env := by rfl) (hpl : (backTo pos (starEach [] X.env)).any (·.1) = false := by rfl) : DE X (.Call (.Name "len" p) [e] [] pos) (wLenS wa) := by
  obtain ⟨t, pt, ha⟩ := ha
  refine ⟨_, pe_callB call_len_seq hg hm (by decide +kernel) (pa_cons pt pa_nil hs) (by decide) (by decide) hs hpl, fun G H As σ ρ κ P Q c p w k => ?_⟩
  refine ha G H As σ ρ κ _ _ c p w fun v1 r1 G1 H1 As1 κ1 s1 c1 p1 i1 w1 => ?_
  cases r1 with
  | s ns =>
    obtain ⟨l, rfl, hl⟩ := i1
    refine ⟨l, _, rfl, .inl (ex_sl c1.ext hl), ?_⟩
    rw [List.length_map]
    exact k _ (.d (.int ns.length)) G1 H1 As1 κ1 s1 c1 p1 (.int _) w1
  | _ => exact w1.elim
end
end DL
namespace DL
open PySem PySem.Spec PyProof.Rows L2
section
variable {prog : Program} {w : World} {A : Around} {E : Value → Shared → Prop} {s : Shared}
end
section
variable {X : Cx} {pos spos : Pos} {e : Expr} {es : List Expr} {js is : List Nat} {wg : DTG} {gs : List PyData → Rho → Kap → (Rho → Kap → Prop) → Prop}
def wStar (n i : Nat) (gs : List PyData → Rho → Kap → (Rho → Kap → Prop) → Prop) : DTG := fun r ρ κ P => match r with
  | .d (.tuple xs) => i < n ∧ n ≤ xs.length + 1 ∧ xs.length ≤ 16384 ∧ gs (xs.take i ++ [.list ((xs.drop i).take (xs.length + 1 - n))] ++ (xs.drop i).drop (xs.length + 1 - n)) ρ κ P
  | _ => False
end
end DL
namespace DL
open PySem PySem.Spec PyProof.Rows L2
section
variable {X : Cx} {pos : Pos} {e a b : Expr} {wr : DTA} {we : DTE}
/-- a, b = e1, e2 by a tuple (a name is a cell) -/
theorem ds_tt (i j : Nat) {x y : Str} {px py pt : Pos} {kt k2 : Nat} {pt2 : Pos} (hc : X.calm = true) (hN : X.N.Nodup) (ha : DA X [a, b] wr) (hi : X.N[i]? = some x := by rfl) (hj : X.N[j]? = some y := by rfl)
    (hx : Loc X.env.scope x := by first | exact Or.inl rfl | exact Or.inr rfl) (hy : Loc X.env.scope y := by first | exact Or.inl rfl | exact Or.inr rfl)
    (hf : X.fn x = true ∨ X.env.scope.names.lookup x = some .local := by first | exact .inl rfl | exact .inr rfl) (hf' : X.fn y = true ∨ X.env.scope.names.lookup y = some .local := by first | exact .inl rfl | exact .inr rfl)
    (hs : swapsWithSole [.Tuple [.Name x px, .Name y py] kt pt] (.Tuple [a, b] k2 pt2) pos.line X.env = pure false := by rfl) (hw : swappedStores [.Tuple [.Name x px, .Name y py] kt pt] (.Tuple [a, b] k2 pt2) X.env = pure none := by rfl) :
    DS X (.Assign [.Tuple [.Name x px, .Name y py] kt pt] (.Tuple [a, b] k2 pt2) pos) (wPar i j wr) := by
  obtain ⟨t, ptt, ha⟩ := ha
  refine ⟨_, ps_asg (pe_tup ptt) (pg_tup (n := 2) hc (pgs_cons (pg_name hN hi hx hf) (pgs_cons (pg_name hN hj hy hf') pgs_nil))) hs hw, fun G H As σ ρ κ E D c p w r => ?_⟩
  refine ha G H As σ ρ κ _ _ c p w fun vs rs G1 H1 As1 κ1 s1 c1 p1 i1 l1 w1 => ?_
  match rs, vs, i1, w1 with
  | [q1, q2], _, .cons (a := v1) h1 (.cons (a := v2) h2 .nil), w1 =>
    refine ⟨by show 2 ≤ sizeLine; decide, fun q hq => ?_⟩
    refine ⟨q, [v1, v2], rfl, sqt_of upd_same, rfl, v1, [v2], rfl, v2, [], rfl, rfl, ?_⟩
    have st : Step G1 H1 As1 G1 (upd H1 q (.tup [v1, v2])) As1 := Step.fresh hq
    exact r.nx _ _ G1 _ As1 κ1 (s1.trans st) (c1.fresh hq) ((p1.put i h1).put j h2) w1
  | [], _, _, w1 => exact w1.elim
  | [_], _, _, w1 => exact w1.elim
  | _ :: _ :: _ :: _, _, _, w1 => exact w1.elim
/-- x op= e, ints -/
def wAug (i : Nat) (f : Int → Int → Int) (we : DTE) : DTS := fun E ρ κ => match ρ[i]? with
  | some (some (.d (.int a))) => we ρ κ fun r κ1 => match r with
    | .d (.int b) => E.nx (ρ.set i (some (.d (.int (f a b))))) κ1
    | _ => False
  | _ => False
end
theorem room65 {k : Nat} {A : Around} (r : RoomG k A) : A.units + 65 < cLine := by have := r.toRoom.un; omega
theorem room80 {k : Nat} {A : Around} (r : RoomG k A) : A.units + 80 < cLine := by have := r.toRoom.un; omega
end DL
namespace DL
open PySem PySem.Spec PyProof.Rows L2
section
variable {prog : Program} {w : World} {A : Around} {E : Value → Shared → Prop} {s : Shared}
end
section
variable {K : PySem.W.Frag} {G H G' H' : Hp} {As As' : List Addr} {κ : Kap} {v : V} {r : R}
end
section
variable {X : Cx} {a : Expr} {wr : DTA} {pos p : Pos}
end
end DL
namespace DL
open PySem PySem.Spec PyProof.Rows L2
/-- a def of the text that may be called by its name -/
structure Cal (P : Program) (w : World) (K : PySem.W.Frag) (mg : Str → Option Value) (base : Heap) (x : Str) (k : Nat) (ps : List Str) (sp : Sp) : Prop where
  ex : ∃ (f : Addr) (fd : FuncData), FnG P w K mg base CX0 k f fd ps sp ∧ mg x = some (.ref f) ∧ PySem.W.keepIn K (.ref f) = true ∧ Binds K fd ps []
theorem Cal.mono {P : Program} {w : World} {K : PySem.W.Frag} {mg : Str → Option Value} {base : Heap} {x : Str} {k j : Nat} {ps : List Str} {sp : Sp} (C : Cal P w K mg base x j ps sp) (h : j ≤ k) : Cal P w K mg base x k ps sp := by
  obtain ⟨f, fd, F, a, b, c⟩ := C.ex
  exact ⟨f, fd, F.mono h, a, b, c⟩
/-- what a list has at these places -/
def pick {α : Type} (p : List Nat) (xs : List α) : List α := p.filterMap fun i => xs[i]?
structure CalK (P : Program) (w : World) (K : PySem.W.Frag) (mg : Str → Option Value) (base : Heap) (x : Str) (k : Nat) (ps : List Str) (n : Nat) (ks : List Str) (p : List Nat) (sp : Sp) : Prop where
  ex : ∃ (f : Addr) (fd : FuncData), FnG P w K mg base CX0 k f fd ps sp ∧ mg x = some (.ref f) ∧ PySem.W.keepIn K (.ref f) = true ∧ KBn K fd ps n ks (fun us ws => pick p (us ++ ws)) (fun us ws => pick p (us ++ ws))
theorem CalK.mono {P : Program} {w : World} {K : PySem.W.Frag} {mg : Str → Option Value} {base : Heap} {x : Str} {k j : Nat} {ps : List Str} {n : Nat} {ks : List Str} {p : List Nat} {sp : Sp} (C : CalK P w K mg base x j ps n ks p sp) (h : j ≤ k) : CalK P w K mg base x k ps n ks p sp := by
  obtain ⟨f, fd, F, a, b, c⟩ := C.ex
  exact ⟨f, fd, F.mono h, a, b, c⟩
theorem Paired.pick {α β : Type} {R : α → β → Prop} {xs : List α} {ys : List β} (h : Paired R xs ys) : ∀ p : List Nat, Paired R (DL.pick p xs) (DL.pick p ys)
  | [] => .nil
  | i :: p => by
    have ih := Paired.pick h p
    have get : ∀ {xs : List α} {ys : List β} (i : Nat), Paired R xs ys → (xs[i]? = none ∧ ys[i]? = none) ∨ ∃ x y, xs[i]? = some x ∧ ys[i]? = some y ∧ R x y := fun {xs} => by
      induction xs with
      | nil => intro ys i h; cases h; exact .inl ⟨rfl, rfl⟩
      | cons x xs ih =>
        intro ys i h
        cases h with
        | cons r t =>
          cases i with
          | zero => exact .inr ⟨_, _, rfl, rfl, r⟩
          | succ i => simpa using ih i t
    unfold DL.pick at ih ⊢
    rcases get i h with ⟨e1, e2⟩ | ⟨x, y, e1, e2, r⟩
    · rw [List.filterMap_cons_none e1, List.filterMap_cons_none e2]; exact ih
    · rw [List.filterMap_cons_some e1, List.filterMap_cons_some e2]; exact .cons r ih
theorem Paired.app {α β : Type} {R : α → β → Prop} : ∀ {xs xs' : List α} {ys ys' : List β}, Paired R xs ys → Paired R xs' ys' → Paired R (xs ++ xs') (ys ++ ys')
  | _, _, _, _, .nil, q => q
  | _, _, _, _, .cons r t, q => .cons r (Paired.app t q)
theorem Fun.kbn {K : PySem.W.Frag} {x qual : Str} {st : Stmt} {f : Addr} {fd : FuncData} {ps : List Str} (F : Fun K x qual st f fd) (n : Nat) (ks : List Str) (p : List Nat)
    (h : ∀ (kV doc pm : Value) (an : Option Addr) (cdv ct : Value) (us ws : List Value), us.length = n → ws.length = ks.length → bindArgs (PySem.W.fnOf x qual (defArgs st) (defBody st) (defScope st) .none kV doc pm an cdv ct) ⟨us, ks.zip ws⟩ = pure (ps.zip (pick p (us ++ ws)))) :
    KBn K fd ps n ks (fun us ws => pick p (us ++ ws)) (fun us ws => pick p (us ++ ws)) := by
  obtain ⟨oc, od, kV, doc, pm, an, cdv, ct, osl, rfl, lk, hcd⟩ := F.ex
  exact ⟨fun s us ws _ h1 h2 => .of_eq (h kV doc pm an cdv ct us ws h1 h2), fun r1 r2 => Paired.pick (r1.append r2) p⟩
section
variable {X : Cx} {k j n : Nat} {ps : List Str} {x : Str} {p pos : Pos} {e : Expr} {es : List Expr} {wr : DTA}
theorem de_callC {Φ : List R → (R → Prop) → Prop} (C : Cal X.prog X.w X.K X.mg X.base x k ps (spD X.K n Φ)) (hr : RoomG k X.A) (hn : n = (e :: es).length) (ha : DA X (e :: es) wr) (hg : Gl X x := by rfl) (hdb : (x == ("__debug__" : Str)) = false := by decide)
    (he : starEach (e :: es) X.env = (false, eval e X.env) :: starEach es X.env := by rfl) (hpl : (backTo pos (starEach es X.env)).any (·.1) = false := by rfl) : DE X (.Call (.Name x p) (e :: es) [] pos) (wCall Φ wr) := by
  obtain ⟨f, fd, F, hm, hk, hb⟩ := C.ex
  exact de_call F hr hm hk hb pass0 hn ha hg hdb he hpl
theorem de_callC_L {Φ : List PyData → List R → (R → List PyData → Prop) → Prop} (C : Cal X.prog X.w X.K X.mg X.base x k ps (spL X.K n Φ)) (hr : RoomG k X.A) (hn : n = (e :: es).length) (ha : DA X (e :: es) wr) (hg : Gl X x := by rfl) (hdb : (x == ("__debug__" : Str)) = false := by decide)
    (he : starEach (e :: es) X.env = (false, eval e X.env) :: starEach es X.env := by rfl) (hpl : (backTo pos (starEach es X.env)).any (·.1) = false := by rfl) : DE X (.Call (.Name x p) (e :: es) [] pos) (wCallL Φ wr) := by
  obtain ⟨f, fd, F, hm, hk, hb⟩ := C.ex
  exact de_callL F hr hm hk hb pass0 hn ha hg hdb he hpl
def DK (X : Cx) (kws : List Keyword) (w : DTA) : Prop := ∃ t, PK X kws t ∧ ∀ (G H : Hp) (As : List Addr) (σ : L2.St) (ρ : Rho) (κ : Kap) (P : List R → Kap → Prop) (Q : List V → Hp → Prop), Cells X.K G H As κ → Places X.K G As σ ρ → w ρ κ P →
  (∀ vs rs G' H' As' κ', Step G H As G' H' As' → Cells X.K G' H' As' κ' → Places X.K G' As' σ ρ → Paired (It X.K G' As') vs rs → rs.length = kws.length → P rs κ' → Q vs H') → t σ H Q
theorem dk_nil : DK X [] wNil := ⟨_, pk_nil, fun G H As σ ρ κ P Q c p w k => k [] [] G H As κ Step.refl c p .nil rfl w⟩
theorem dk_cons {wa : DTE} {kws : List Keyword} {nm : Option Str} {kpos : Pos} (ha : DE X e wa) (hr : DK X kws wr) : DK X (⟨nm, e, kpos⟩ :: kws) (wCons wa wr) := by
  obtain ⟨ta, pa, ha⟩ := ha
  obtain ⟨tr, pr, hr⟩ := hr
  refine ⟨_, pk_cons pa pr, fun G H As σ ρ κ P Q c p w k => ?_⟩
  refine ha G H As σ ρ κ _ _ c p w fun v1 r1 G1 H1 As1 κ1 s1 c1 p1 i1 w1 => ?_
  obtain ⟨G1', s1', c1', p1', i1', _⟩ := settle s1 c1 p1 i1
  refine hr G1' H1 As1 σ ρ κ1 _ _ c1' p1' w1 fun vs rs G2 H2 As2 κ2 s2 c2 p2 i2 l2 w2 => ?_
  exact k _ _ G2 H2 As2 κ2 (s1'.trans s2) c2 p2 (.cons (s2.it i1') i2) (congrArg (· + 1) l2) w2
def wCallK (Φ : List R → (R → Prop) → Prop) (q : List Nat) (wa wk : DTA) : DTE := fun ρ κ P => wa ρ κ fun rs κ1 => wk ρ κ1 fun ks κ2 => Opt (args κ2 (rs ++ ks)) fun z => Φ (pick q z.1) fun r => P r z.2
def wRevS (wa : DTE) : DTE := fun ρ κ P => wa ρ κ fun r κ1 => Opt (val κ1 r.st) fun y => match y with
  | .list xs => P (.f xs.reverse) κ1
  | _ => False
theorem de_revS {wa : DTE} {kk : Nat} {p1 p2 p3 : Pos} (ha : DE X e wa) : DE X (.Subscript e (.Slice none none (some (.UnaryOp .USub (.Constant (.int 1) kk p1) p2)) p3) pos) (wRevS wa) := by
  obtain ⟨t, pt, ha⟩ := ha
  refine ⟨_, pe_revL pt, fun G H As σ ρ κ P Q c p w k => ?_⟩
  refine ha G H As σ ρ κ _ _ c p w fun v r G1 H1 As1 κ1 s1 c1 p1 i1 w1 => ?_
  obtain ⟨G1', s1', c1', p1', i1', _⟩ := settle s1 c1 p1 i1
  obtain ⟨y, ey, w2⟩ := w1.ex
  cases y with
  | list xs =>
    obtain ⟨a, vs, rfl, h1, h2⟩ := i1'.vw c1' ey
    exact ⟨a, vs, rfl, sql_of h1, fun q hq => out_ok (P := P) s1' c1' p1' (.n xs.reverse) w2 k q _ hq h2.rev⟩
  | _ => exact w2.elim
end
end DL
namespace DL
open PySem PySem.Spec PyProof.Rows L2
section
variable {E : DEnds} {ρ : Rho} {κ : Kap} {P : R → Kap → Prop} {wa wb we : DTE} {wr : DTA} {wt wu : DTT} {g : DTG} {a b : DTS}
@[simp] theorem st_d (x : PyData) : (R.d x).st = .d x := rfl
@[simp] theorem st_c (k : Nat) : (R.c k).st = .c k := rfl
@[simp] theorem st_f (xs : List PyData) : (R.f xs).st = .d (.list xs) := rfl
@[simp] theorem st_s (ns : List Int) : (R.s ns).st = .s ns := rfl
@[simp] theorem val_d (x : PyData) : val κ (.d x) = some x := rfl
@[simp] theorem val_f (xs : List PyData) : val κ (.f xs) = some (.list xs) := rfl
theorem val_c {k : Nat} {xs : List PyData} (h : κ[k]? = some (.l xs)) : val κ (.c k) = some (.list xs) := by unfold val; simp only [h]
@[simp] theorem val_c0 (xs : List PyData) (κ : Kap) : val (.l xs :: κ) (.c 0) = some (.list xs) := rfl
@[simp] theorem val_c1 (c : Cell) (xs : List PyData) (κ : Kap) : val (c :: .l xs :: κ) (.c 1) = some (.list xs) := rfl
@[simp] theorem dat_d (x : PyData) : dat κ (.d x) = some (x, κ) := rfl
@[simp] theorem dat_f (xs : List PyData) : dat κ (.f xs) = some (.list xs, κ) := rfl
@[simp] theorem arg_d (x : PyData) : arg κ (.d x) = some (.d x, κ) := rfl
@[simp] theorem arg_s (ns : List Int) : arg κ (.s ns) = some (.s ns, κ) := rfl
@[simp] theorem dats_nil : dats κ [] = some ([], κ) := rfl
@[simp] theorem dats_d (x : PyData) (rs : List R) : dats κ (.d x :: rs) = (match dats κ rs with
  | some (xs, κ1) => some (x :: xs, κ1)
  | none => none) := rfl
@[simp] theorem args_nil : args κ [] = some ([], κ) := rfl
@[simp] theorem args_d (x : PyData) (rs : List R) : args κ (.d x :: rs) = (match args κ rs with
  | some (xs, κ1) => some (.d x :: xs, κ1)
  | none => none) := rfl
@[simp] theorem args_s (ns : List Int) (rs : List R) : args κ (.s ns :: rs) = (match args κ rs with
  | some (xs, κ1) => some (.s ns :: xs, κ1)
  | none => none) := rfl
@[simp] theorem vals_nil : vals κ [] = some [] := rfl
@[simp] theorem vals_cons (r : R) (rs : List R) : vals κ (r :: rs) = (match val κ r, vals κ rs with
  | some x, some xs => some (x :: xs)
  | _, _ => none) := rfl
@[simp] theorem Opt_some {α : Type} (x : α) (k : α → Prop) : Opt (some x) k = k x := rfl
@[simp] theorem Opt_none {α : Type} (k : α → Prop) : Opt none k = False := rfl
@[simp] theorem s_var (i : Nat) : wVar i ρ κ P = (match ρ[i]? with
  | some (some r) => P r κ
  | _ => False) := rfl
@[simp] theorem s_c (x : PyData) : wC x ρ κ P = P (.d x) κ := rfl
@[simp] theorem s_bin (f : PyData → PyData → Option Out) : wBin f wa wb ρ κ P = wa ρ κ fun r1 κ1 => wb ρ κ1 fun r2 κ2 => Opt (val κ2 r1.st) fun x => Opt (val κ2 r2.st) fun y => Opt (f x y) fun o => P o.r κ2 := rfl
@[simp] theorem s_un (f : PyData → Option Out) : wUn f wa ρ κ P = wa ρ κ fun r1 κ1 => Opt (val κ1 r1.st) fun x => Opt (f x) fun o => P o.r κ1 := rfl
@[simp] theorem s_cb (f : List PyData → Option Out) : wCB f wr ρ κ P = wr ρ κ fun rs κ1 => Opt (vals κ1 rs) fun xs => Opt (f xs) fun o => P o.r κ1 := rfl
@[simp] theorem s_nil (P : List R → Kap → Prop) : wNil ρ κ P = P [] κ := rfl
@[simp] theorem s_cons (P : List R → Kap → Prop) : wCons wa wr ρ κ P = wa ρ κ fun r κ1 => wr ρ κ1 fun rs κ2 => P (r.st :: rs) κ2 := rfl
@[simp] theorem s_consM (m : Bool) (P : List R → Kap → Prop) : wConsM m wa wr ρ κ P = wa ρ κ fun r κ1 => wr ρ (sto m r κ1).2 fun rs κ2 => P ((sto m r κ1).1 :: rs) κ2 := rfl
@[simp] theorem s_tup : wTup wr ρ κ P = wr ρ κ fun rs κ1 => Opt (dats κ1 rs) fun q => q.1.length ≤ sizeLine ∧ P (.d (.tuple q.1)) q.2 := rfl
@[simp] theorem s_lst : wLst wr ρ κ P = wr ρ κ fun rs κ1 => Opt (dats κ1 rs) fun q => q.1.length ≤ sizeLine ∧ P (.f q.1) q.2 := rfl
@[simp] theorem s_call (Φ : List R → (R → Prop) → Prop) : wCall Φ wr ρ κ P = wr ρ κ fun rs κ1 => Opt (args κ1 rs) fun q => Φ q.1 fun r => P r q.2 := rfl
@[simp] theorem s_callL (Φ : List PyData → List R → (R → List PyData → Prop) → Prop) : wCallL Φ wr ρ κ P = wr ρ κ fun rs κ1 => Opt (lend κ1 rs) fun q => Φ q.2.1 q.2.2.1 fun r bs => P (r.lab q.1) (q.2.2.2.set q.1 (.l bs)) := rfl
@[simp] theorem s_callK (Φ : List R → (R → Prop) → Prop) (q : List Nat) (wk : DTA) : wCallK Φ q wr wk ρ κ P = wr ρ κ fun rs κ1 => wk ρ κ1 fun ks κ2 => Opt (args κ2 (rs ++ ks)) fun z => Φ (pick q z.1) fun r => P r z.2 := rfl
@[simp] theorem lab_d (k : Nat) (x : PyData) : (R.d x).lab k = .d x := rfl
@[simp] theorem lab_f (k : Nat) (x : List PyData) : (R.f x).lab k = .f x := rfl
@[simp] theorem lend_c (k : Nat) (rs : List R) : lend κ (.c k :: rs) = (match args κ rs with
  | some (xs, κ1) => match κ1[k]? with
    | some (.l bs) => some (k, bs, xs, κ1)
    | _ => none
  | none => none) := rfl
@[simp] theorem s_tru (P : Bool → Kap → Prop) : wTru wa ρ κ P = wa ρ κ fun r κ1 => Opt (val κ1 r.st) fun x => Opt (truth x) fun b => P b κ1 := rfl
@[simp] theorem s_B (P : Bool → Kap → Prop) : wB wa ρ κ P = wa ρ κ fun r κ1 => match r with
  | .d (.bool b) => P b κ1
  | _ => False := rfl
@[simp] theorem s_not (P : Bool → Kap → Prop) : wNot wt ρ κ P = wt ρ κ fun b κ1 => P (!b) κ1 := rfl
@[simp] theorem s_and (P : Bool → Kap → Prop) : wAnd wt wu ρ κ P = wt ρ κ fun b κ1 => if b = true then wu ρ κ1 P else P false κ1 := rfl
@[simp] theorem s_or (P : Bool → Kap → Prop) : wOr wt wu ρ κ P = wt ρ κ fun b κ1 => if b = true then P true κ1 else wu ρ κ1 P := rfl
@[simp] theorem s_andV : wAndV wa wb ρ κ P = wa ρ κ fun r κ1 => match r with
  | .d (.bool z) => if z = true then wb ρ κ1 P else P (.d (.bool false)) κ1
  | _ => False := rfl
@[simp] theorem s_orV : wOrV wa wb ρ κ P = wa ρ κ fun r κ1 => match r with
  | .d (.bool z) => if z = true then P (.d (.bool true)) κ1 else wb ρ κ1 P
  | _ => False := rfl
@[simp] theorem s_notV : wNotV wa ρ κ P = wa ρ κ fun r κ1 => match r with
  | .d (.bool z) => P (.d (.bool (!z))) κ1
  | _ => False := rfl
@[simp] theorem s_ifx : wIf wt wa wb ρ κ P = wt ρ κ fun z κ1 => if z = true then wa ρ κ1 P else wb ρ κ1 P := rfl
@[simp] theorem s_name (i : Nat) (r : R) (P : Rho → Kap → Prop) : wName i r ρ κ P = P (ρ.set i (some r)) κ := rfl
@[simp] theorem s_tupG (n : Nat) (gs : List PyData → Rho → Kap → (Rho → Kap → Prop) → Prop) (xs : List PyData) (P : Rho → Kap → Prop) : wTupG n gs (.d (.tuple xs)) ρ κ P = (xs.length = n ∧ gs xs ρ κ P) := rfl
@[simp] theorem s_gcons (gs : List PyData → Rho → Kap → (Rho → Kap → Prop) → Prop) (x : PyData) (xs : List PyData) (P : Rho → Kap → Prop) : wgCons g gs (x :: xs) ρ κ P = g (.d x) ρ κ fun ρ1 κ1 => gs xs ρ1 κ1 P := rfl
@[simp] theorem s_gnil (P : Rho → Kap → Prop) : wgNil [] ρ κ P = P ρ κ := rfl
@[simp] theorem s_star (n i : Nat) (gs : List PyData → Rho → Kap → (Rho → Kap → Prop) → Prop) (xs : List PyData) (P : Rho → Kap → Prop) : wStar n i gs (.d (.tuple xs)) ρ κ P = (i < n ∧ n ≤ xs.length + 1 ∧ xs.length ≤ 16384 ∧ gs (xs.take i ++ [.list ((xs.drop i).take (xs.length + 1 - n))] ++ (xs.drop i).drop (xs.length + 1 - n)) ρ κ P) := rfl
@[simp] theorem s_next : wNext E ρ κ = E.nx ρ κ := rfl
@[simp] theorem s_seq : wSeq a b E ρ κ = a { E with nx := b E } ρ κ := rfl
@[simp] theorem s_asg : wAsg we g E ρ κ = we ρ κ fun r κ1 => g r.st ρ κ1 E.nx := rfl
@[simp] theorem s_set (m : Bool) (i : Nat) : wSet m i we E ρ κ = we ρ κ fun r κ1 => E.nx (ρ.set i (some (sto m r κ1).1)) (sto m r κ1).2 := rfl
@[simp] theorem sto_t (xs : List PyData) : sto true (.f xs) κ = (.c κ.length, κ ++ [.l xs]) := rfl
@[simp] theorem sto_f (r : R) : sto false r κ = (r.st, κ) := by cases r <;> rfl
@[simp] theorem sto_d (m : Bool) (x : PyData) : sto m (.d x) κ = (.d x, κ) := by cases m <;> rfl
@[simp] theorem sto_c (m : Bool) (k : Nat) : sto m (.c k) κ = (.c k, κ) := by cases m <;> rfl
@[simp] theorem s_par (i j : Nat) : wPar i j wr E ρ κ = wr ρ κ fun rs κ1 => match rs with
  | [r, q] => E.nx ((ρ.set i (some r)).set j (some q)) κ1
  | _ => False := rfl
@[simp] theorem s_drop : wDrop we E ρ κ = we ρ κ fun _ κ1 => E.nx ρ κ1 := rfl
@[simp] theorem s_ret : wRet we E ρ κ = we ρ κ E.rt := rfl
@[simp] theorem s_retN : wRetN E ρ κ = E.rt (.d .none) κ := rfl
@[simp] theorem s_if : wIfS wt a b E ρ κ = wt ρ κ fun z κ1 => if z = true then a E ρ κ1 else b E ρ κ1 := rfl
@[simp] theorem s_brk : wBrk E ρ κ = E.bk ρ κ := rfl
@[simp] theorem s_cnt : wCnt E ρ κ = E.ct ρ κ := rfl
@[simp] theorem s_for (wi : DTI) : wFor wi g b E ρ κ = wi ρ κ fun xs ok κ1 => forL ok g b E xs ρ κ1 := rfl
@[simp] theorem s_lc (wi : DTI) (vs : List Nat) : wLc wi g wt we vs ρ κ P = wi ρ κ fun xs ok κ1 => lcL ok g wt we (wipeR ρ vs) P xs [] κ1 := rfl
@[simp] theorem s_yes (P : Bool → Kap → Prop) : wYes ρ κ P = P true κ := rfl
@[simp] theorem s_sq (P : List PyData → (Kap → Prop) → Kap → Prop) : wSq we ρ κ P = we ρ κ fun r κ1 => Opt (val κ1 r.st) fun x => match x with
  | .list xs => P xs (fun κ' => val κ' r.st = some (.list xs)) κ1
  | .tuple xs => P xs (fun κ' => val κ' r.st = some (.tuple xs)) κ1
  | .str z => P (z.cps.toList.map fun c => .str ⟨#[c]⟩) (fun _ => True) κ1
  | _ => False := rfl
@[simp] theorem s_rng1 (P : List PyData → (Kap → Prop) → Kap → Prop) : wRng1 wr ρ κ P = wr ρ κ fun rs κ1 => match rs with
  | [.d (.int n)] => -(2 ^ 62) ≤ n ∧ n < 2 ^ 62 ∧ P ((List.range n.toNat).map fun (i : Nat) => .int (0 + (i : Int))) (fun _ => True) κ1
  | _ => False := rfl
@[simp] theorem s_rev (P : List PyData → (Kap → Prop) → Kap → Prop) : wRev wr ρ κ P = wr ρ κ fun rs κ1 => match rs with
  | [r] => Opt (val κ1 r) fun x => match x with
    | .list xs => P xs.reverse (fun κ' => val κ' r = some (.list xs)) κ1
    | _ => False
  | _ => False := rfl
@[simp] theorem s_enum (P : List PyData → (Kap → Prop) → Kap → Prop) : wEnum wr ρ κ P = wr ρ κ fun rs κ1 => match rs with
  | [r] => Opt (val κ1 r) fun x => match x with
    | .list xs => P (enumD 0 xs) (fun κ' => val κ' r = some (.list xs)) κ1
    | .tuple xs => P (enumD 0 xs) (fun κ' => val κ' r = some (.tuple xs)) κ1
    | _ => False
  | _ => False := rfl
@[simp] theorem s_zip (P : List PyData → (Kap → Prop) → Kap → Prop) : wZip wr ρ κ P = wr ρ κ fun rs κ1 => match rs with
  | [r, q] => Opt (val κ1 r) fun x => Opt (val κ1 q) fun y => match x, y with
    | .list xs, .list ys => P (zipD xs ys) (fun κ' => val κ' r = some (.list xs) ∧ val κ' q = some (.list ys)) κ1
    | .tuple xs, .tuple ys => P (zipD xs ys) (fun κ' => val κ' r = some (.tuple xs) ∧ val κ' q = some (.tuple ys)) κ1
    | _, _ => False
  | _ => False := rfl
@[simp] theorem forL_nil (ok : Kap → Prop) : forL ok g b E [] ρ κ = E.nx ρ κ := rfl
@[simp] theorem forL_cons (ok : Kap → Prop) (x : PyData) (xs : List PyData) : forL ok g b E (x :: xs) ρ κ = g (.d x) ρ κ fun ρ1 κ1 => b { nx := fun ρ2 κ2 => ok κ2 ∧ forL ok g b E xs ρ2 κ2, rt := E.rt, bk := E.nx, ct := fun ρ2 κ2 => ok κ2 ∧ forL ok g b E xs ρ2 κ2 } ρ1 κ1 := rfl
@[simp] theorem lcL_nil (ok : Kap → Prop) (acc : List PyData) : lcL ok g wt we ρ P [] acc κ = P (.f acc) κ := rfl
@[simp] theorem lcL_cons (ok : Kap → Prop) (x : PyData) (xs acc : List PyData) : lcL ok g wt we ρ P (x :: xs) acc κ = g (.d x) ρ κ fun ρ1 κ1 => wt ρ1 κ1 fun b κ2 => if b = true then we ρ1 κ2 fun r κ3 => Opt (dat κ3 r.st) fun q => acc.length < sizeLine ∧ ok q.2 ∧ lcL ok g wt we ρ P xs (acc ++ [q.1]) q.2 else ok κ2 ∧ lcL ok g wt we ρ P xs acc κ2 := rfl
@[simp] theorem wipeR_nil : wipeR ρ [] = ρ := rfl
@[simp] theorem wipeR_cons (v : Nat) (vs : List Nat) : wipeR ρ (v :: vs) = (wipeR ρ vs).set v none := rfl
@[simp] theorem s_append : wAppend wa wb ρ κ P = wa ρ κ fun ro κ1 => (match ro with
  | .c k => (∃ zs, κ1[k]? = some (.l zs)) ∧ wb ρ κ1 fun r κ2 => Opt (dat κ2 r.st) fun q => match q.2[k]? with
    | some (.l xs) => xs.length < sizeLine ∧ P (.d .none) (q.2.set k (.l (xs ++ [q.1])))
    | _ => False
  | _ => False) := rfl
@[simp] theorem s_sub (r : R) (P : Rho → Kap → Prop) : wSub wa wb r ρ κ P = Opt (dat κ r) fun q => wa ρ q.2 fun ro κ1 => match ro with
  | .c k => wb ρ κ1 fun ri κ2 => match ri, κ2[k]? with
    | .d (.int i), some (.l xs) => Opt (ixN xs.length i) fun j => P ρ (κ2.set k (.l (xs.set j q.1)))
    | _, _ => False
  | _ => False := rfl
@[simp] theorem out_v (x : PyData) : (Out.v x).r = .d x := rfl
@[simp] theorem out_n (xs : List PyData) : (Out.n xs).r = .f xs := rfl
@[simp] theorem out_t (xs : List PyData) : (Out.t xs).r = .d (.tuple xs) := rfl
@[simp] theorem outR_d (n : Nat) (x : PyData) : outR κ n (.d x) = some (.d x) := rfl
@[simp] theorem outR_f (n : Nat) (x : List PyData) : outR κ n (.f x) = some (.f x) := rfl
@[simp] theorem endL_d (bs : List PyData) (κ : Kap) (x : PyData) (Pd : R → List PyData → Prop) : endL (.l bs :: κ) (.d x) Pd = Pd (.d x) bs := rfl
@[simp] theorem endL_f (bs : List PyData) (κ : Kap) (x : List PyData) (Pd : R → List PyData → Prop) : endL (.l bs :: κ) (.f x) Pd = Pd (.f x) bs := rfl
@[simp] theorem s_isi (T : Ty) : wIsi T wa ρ κ P = wa ρ κ fun r κ1 => Opt (val κ1 r.st) fun x => P (.d (.bool (isi x T))) κ1 := rfl
@[simp] theorem s_isi2 (T U : Ty) : wIsi2 T U wa ρ κ P = wa ρ κ fun r κ1 => Opt (val κ1 r.st) fun x => P (.d (.bool (isi x T || isi x U))) κ1 := rfl
@[simp] theorem s_bm (T : String) (f : PyData → List PyData → Option Out) : wBM T f wa wr ρ κ P = wa ρ κ fun r κ1 => Opt (val κ1 r.st) fun x0 => tyOk T x0 ∧ wr ρ κ1 fun rs κ2 => Opt (val κ2 r.st) fun x => Opt (vals κ2 rs) fun xs => Opt (f x xs) fun o => P o.r κ2 := rfl
@[simp] theorem s_scr : wScr wa wb ρ κ P = wa ρ κ fun r κ1 => match r with
  | .s ns => wb ρ κ1 fun q κ2 => match q with
    | .d (.int i) => Opt (atI ns i) fun n => P (.d (.int n)) κ2
    | _ => False
  | _ => False := rfl
@[simp] theorem s_lenS : wLenS wa ρ κ P = wa ρ κ fun r κ1 => match r with
  | .s ns => P (.d (.int ns.length)) κ1
  | _ => False := rfl
@[simp] theorem s_sl (wl wh : DTO) : wSl we wl wh ρ κ P = we ρ κ fun r κ1 => wl ρ κ1 fun lo κ2 => wh ρ κ2 fun hi κ3 => Opt (val κ3 r.st) fun x => Opt (slD x lo hi) fun o => P o.r κ3 := rfl
@[simp] theorem s_noP (P : Option Int → Kap → Prop) : wNoP ρ κ P = P none κ := rfl
@[simp] theorem s_P (P : Option Int → Kap → Prop) : wP we ρ κ P = we ρ κ fun r κ1 => match r with
  | .d (.int i) => P (some i) κ1
  | _ => False := rfl
@[simp] theorem s_revS : wRevS wa ρ κ P = wa ρ κ fun r κ1 => Opt (val κ1 r.st) fun y => match y with
  | .list xs => P (.f xs.reverse) κ1
  | _ => False := rfl
@[simp] theorem s_aug (i : Nat) (f : Int → Int → Int) : wAug i f we E ρ κ = (match ρ[i]? with
  | some (some (.d (.int a))) => we ρ κ fun r κ1 => match r with
    | .d (.int b) => E.nx (ρ.set i (some (.d (.int (f a b))))) κ1
    | _ => False
  | _ => False) := rfl
@[simp] theorem addD_int (i j : Int) : addD (.int i) (.int j) = some (.v (.int (i + j))) := rfl
theorem addD_list {xs ys : List PyData} (h : xs.length + ys.length ≤ sizeLine) : addD (.list xs) (.list ys) = some (.n (xs ++ ys)) := if_pos h
theorem addD_tuple {xs ys : List PyData} (h : xs.length + ys.length ≤ sizeLine) : addD (.tuple xs) (.tuple ys) = some (.t (xs ++ ys)) := if_pos h
theorem addD_str {x y : Str} (h : x.length + y.length ≤ sizeLine) : addD (.str x) (.str y) = some (.v (.str (x ++ y))) := if_pos h
@[simp] theorem subD_int (i j : Int) : subD (.int i) (.int j) = some (.v (.int (i - j))) := rfl
theorem modD_int {i j : Int} (h : 0 < j) : modD (.int i) (.int j) = some (.v (.int (i % j))) := by
  unfold modD intD
  simp only [if_pos h]
  rfl
theorem fdivD_int {i j : Int} (h : 0 < j) (h2 : j < 1073741824) : fdivD (.int i) (.int j) = some (.v (.int (i / j))) := by
  unfold fdivD intD
  simp only [if_pos (And.intro h h2)]
  rfl
theorem powD_int {i j : Int} (h : 0 ≤ j) (h2 : j ≤ 1000000) (h3 : i.natAbs < 2 ^ 64) : powD (.int i) (.int j) = some (.v (.int (i ^ j.toNat))) := by
  unfold powD intD
  simp only [if_pos (And.intro h (And.intro h2 h3))]
  rfl
theorem mulD_int {i j : Int} (h : CMul i j) : mulD (.int i) (.int j) = some (.v (.int (i * j))) := by
  unfold mulD
  simp only [if_pos h]
@[simp] theorem negD_int (i : Int) : negD (.int i) = some (.v (.int (-i))) := rfl
@[simp] theorem ordD_int (fi : Int → Int → Bool) (fs : List Nat → List Nat → Bool) (i j : Int) : ordD fi fs (.int i) (.int j) = some (.v (.bool (fi i j))) := rfl
@[simp] theorem ciD_int (f : Int → Int → Bool) (i j : Int) : ciD f (.int i) (.int j) = some (.v (.bool (f i j))) := rfl
theorem eqD_of {neg : Bool} {x y : PyData} (hx : SeqAt.shaped x = true) (hy : SeqAt.shaped y = true) : eqD neg x y = some (.v (.bool (if neg then !PyData.eqv x y else PyData.eqv x y))) := by
  unfold eqD
  split
  · rw [PyData.eqv]
    rename_i a b
    rw [show (a == b) = decide (a = b) from by rw [Bool.eq_iff_iff]; simp]
  · exact if_pos ⟨hx, hy⟩
theorem ixD_list {xs : List PyData} {i : Int} {x : PyData} (h : atI xs i = some x) : ixD (.list xs) (.int i) = some (.v x) := by unfold ixD; simp only [h]; rfl
theorem ixD_tuple {xs : List PyData} {i : Int} {x : PyData} (h : atI xs i = some x) : ixD (.tuple xs) (.int i) = some (.v x) := by unfold ixD; simp only [h]; rfl
@[simp] theorem lenD_list (xs : List PyData) : lenD [.list xs] = some (.v (.int xs.length)) := rfl
@[simp] theorem lenD_tuple (xs : List PyData) : lenD [.tuple xs] = some (.v (.int xs.length)) := rfl
@[simp] theorem absD_int (i : Int) : absD [.int i] = some (.v (.int (if i < 0 then -i else i))) := rfl
@[simp] theorem intC_int (i : Int) : intC [.int i] = some (.v (.int i)) := rfl
@[simp] theorem intC_bool (b : Bool) : intC [.bool b] = some (.v (.int (if b then 1 else 0))) := rfl
@[simp] theorem max2D_int (i j : Int) : max2D [.int i, .int j] = some (.v (.int (if j > i then j else i))) := rfl
@[simp] theorem min2D_int (i j : Int) : min2D [.int i, .int j] = some (.v (.int (if j < i then j else i))) := rfl
@[simp] theorem listC_list (xs : List PyData) : listC [.list xs] = some (.n xs) := rfl
@[simp] theorem listC_tuple (xs : List PyData) : listC [.tuple xs] = some (.n xs) := rfl
@[simp] theorem tupC_list (xs : List PyData) : tupC [.list xs] = some (.t xs) := rfl
@[simp] theorem tupC_tuple (xs : List PyData) : tupC [.tuple xs] = some (.t xs) := rfl
@[simp] theorem slD_list (xs : List PyData) (lo hi : Option Int) : slD (.list xs) lo hi = some (.n (cut xs lo hi)) := rfl
@[simp] theorem slD_tuple (xs : List PyData) (lo hi : Option Int) : slD (.tuple xs) lo hi = some (.t (cut xs lo hi)) := rfl
theorem slD_str {z : Str} (lo hi : Option Int) (h : z.length ≤ sizeLine) : slD (.str z) lo hi = some (.v (.str (cutS z lo hi))) := if_pos h
theorem sortC_list {xs : List PyData} (h : SortOk xs) : sortC [.list xs] = some (.n (xs.mergeSort dLe)) := by
  unfold sortC
  simp only [if_pos h]
end
end DL
namespace DL
open PySem PySem.Spec PyProof.Rows L2
def flatX : PyData → Bool
  | .none => true
  | .bool _ => true
  | .int _ => true
  | .str _ => true
  | _ => false
section
variable {K : PySem.W.Frag} {G H G' H' G1 H1 : Hp} {As As' As1 : List Addr} {σ : L2.St} {ρ ρ' : Rho} {κ κ' κ1 κ2 κ3 : Kap} {v : V} {r : R}
end
end DL
namespace DL
open PySem PySem.Spec PyProof.Rows L2
def Refs (As : List Addr) (vs : List V) (ks : List Nat) : Prop := vs.length = ks.length ∧ ∀ (i k : Nat), ks[i]? = some k → ∃ c, As[k]? = some c ∧ vs[i]? = some (V.ref c)
theorem Refs.nil {As : List Addr} : Refs As [] [] := ⟨rfl, fun i k h => by simp at h⟩
theorem Refs.mono {As As' : List Addr} {vs : List V} {ks : List Nat} (h : Refs As vs ks) (p : ∃ bs, As' = As ++ bs) : Refs As' vs ks := by
  obtain ⟨bs, rfl⟩ := p
  refine ⟨h.1, fun i k hk => ?_⟩
  obtain ⟨c, e1, e2⟩ := h.2 i k hk
  exact ⟨c, by rw [List.getElem?_append_left (List.getElem?_eq_some_iff.mp e1).1]; exact e1, e2⟩
theorem Refs.snoc {As : List Addr} {vs : List V} {ks : List Nat} {v : V} {y : Nat} (h : Refs As vs ks) (hv : ∃ a, As[y]? = some a ∧ v = .ref a) : Refs As (vs ++ [v]) (ks ++ [y]) := by
  obtain ⟨a, e1, rfl⟩ := hv
  refine ⟨by rw [List.length_append, List.length_append, h.1]; rfl, fun i k hk => ?_⟩
  by_cases hi : i < ks.length
  · rw [List.getElem?_append_left hi] at hk
    obtain ⟨c, q1, q2⟩ := h.2 i k hk
    exact ⟨c, q1, by rw [List.getElem?_append_left (by rw [h.1]; exact hi)]; exact q2⟩
  · have hl : i < (ks ++ [y]).length := (List.getElem?_eq_some_iff.mp hk).1
    rw [List.length_append, List.length_singleton] at hl
    have ei : i = ks.length := by omega
    subst ei
    rw [List.getElem?_append_right (Nat.le_refl _), Nat.sub_self] at hk
    cases hk
    exact ⟨a, e1, by rw [← h.1, List.getElem?_append_right (Nat.le_refl _), Nat.sub_self]; rfl⟩
def lcB (ok : Kap → Prop) (g : DTG) (t : DTT) (e : DTE) (ρw : Rho) (P : R → Kap → Prop) : List PyData → List Nat → Kap → Prop
  | [], ks, κ => P (.b ks) κ
  | x :: xs, ks, κ => g (.d x) ρw κ fun ρ1 κ1 => t ρ1 κ1 fun b κ2 => if b = true then e ρ1 κ2 fun r κ3 => (match r with
      | .f ys => ks.length < sizeLine ∧ ok (κ3 ++ [.l ys]) ∧ lcB ok g t e ρw P xs (ks ++ [κ3.length]) (κ3 ++ [.l ys])
      | .c j => ks.length < sizeLine ∧ ok κ3 ∧ lcB ok g t e ρw P xs (ks ++ [j]) κ3
      | _ => False) else ok κ2 ∧ lcB ok g t e ρw P xs ks κ2
def wLcB (wi : DTI) (g : DTG) (t : DTT) (e : DTE) (vs : List Nat) : DTE := fun ρ κ P => wi ρ κ fun xs ok κ1 => lcB ok g t e (wipeR ρ vs) P xs [] κ1
abbrev DTIR := Rho → Kap → (List R → Kap → Prop) → Prop
def wRefs (we : DTE) : DTIR := fun ρ κ P => we ρ κ fun r κ1 => match r with
  | .b ks => P (ks.map R.c) κ1
  | _ => False
def lcR (g : DTG) (t : DTT) (e : DTE) (ρw : Rho) (P : R → Kap → Prop) : List R → List PyData → Kap → Prop
  | [], acc, κ => P (.f acc) κ
  | x :: xs, acc, κ => g x ρw κ fun ρ1 κ1 => t ρ1 κ1 fun b κ2 => if b = true then e ρ1 κ2 fun r κ3 => Opt (dat κ3 r.st) fun q => acc.length < sizeLine ∧ lcR g t e ρw P xs (acc ++ [q.1]) q.2 else lcR g t e ρw P xs acc κ2
def wLcR (wi : DTIR) (g : DTG) (t : DTT) (e : DTE) (vs : List Nat) : DTE := fun ρ κ P => wi ρ κ fun xs κ1 => lcR g t e (wipeR ρ vs) P xs [] κ1
section
variable {X : Cx} {elt tg iter : Expr} {ifs : List Expr} {scope : Scope} {own : List (Str × Nat)} {pos : Pos} {wi : DTI} {g : DTG} {wt : DTT} {we : DTE} {js : List Nat}
end
@[simp] theorem lcB_nil (ok : Kap → Prop) (g : DTG) (t : DTT) (e : DTE) (ρ : Rho) (P : R → Kap → Prop) (ks : List Nat) (κ : Kap) : lcB ok g t e ρ P [] ks κ = P (.b ks) κ := rfl
@[simp] theorem lcR_nil (g : DTG) (t : DTT) (e : DTE) (ρ : Rho) (P : R → Kap → Prop) (acc : List PyData) (κ : Kap) : lcR g t e ρ P [] acc κ = P (.f acc) κ := rfl
@[simp] theorem s_lcB (wi : DTI) (g : DTG) (t : DTT) (e : DTE) (vs : List Nat) (ρ : Rho) (κ : Kap) (P : R → Kap → Prop) : wLcB wi g t e vs ρ κ P = wi ρ κ fun xs ok κ1 => lcB ok g t e (wipeR ρ vs) P xs [] κ1 := rfl
@[simp] theorem s_lcR (wi : DTIR) (g : DTG) (t : DTT) (e : DTE) (vs : List Nat) (ρ : Rho) (κ : Kap) (P : R → Kap → Prop) : wLcR wi g t e vs ρ κ P = wi ρ κ fun xs κ1 => lcR g t e (wipeR ρ vs) P xs [] κ1 := rfl
@[simp] theorem s_refs (we : DTE) (ρ : Rho) (κ : Kap) (P : List R → Kap → Prop) : wRefs we ρ κ P = we ρ κ fun r κ1 => match r with
  | .b ks => P (ks.map R.c) κ1
  | _ => False := rfl
end DL
namespace DL
open PySem PySem.Spec PyProof.Rows L2
def keyD : PyData → Option Key
  | .int i => some (.inl i)
  | .str z => some (.inr z)
  | _ => none
def lookM (es : List (Key × R)) (k : Key) : Option R := (es.find? fun e => decide (e.1 = k)).map (·.2)
def putM (es : List (Key × R)) (k : Key) (r : R) : List (Key × R) :=
  if (es.any fun e => decide (e.1 = k)) = true then es.map (fun e => if e.1 = k then (e.1, r) else e) else es ++ [(k, r)]
def dropM (es : List (Key × R)) (k : Key) : List (Key × R) := es.filter fun e => decide (e.1 ≠ k)
section
variable {K : PySem.W.Frag} {G H G' H' : Hp} {As : List Addr} {kvs : List (Key × V)} {es : List (Key × R)} {k : Key} {v : V} {r : R}
theorem key_rel {x : PyData} (e : keyD x = some k) (h : Rp K G v x) : v = kV k := by
  cases h with
  | int i => cases e; rfl
  | str z => cases e; rfl
  | _ => cases e
theorem Mp.look (h : Mp K G As kvs es) (e : lookM es k = some r) : ∃ v, valV kvs k = some v ∧ It K G As v r := by
  unfold Mp at h
  induction h with
  | nil => simp [lookM] at e
  | cons q t ih =>
    rename_i kv en kvs es
    obtain ⟨q1, q2⟩ := q
    by_cases hk : en.1 = k
    · have e0 : lookM (en :: es) k = some en.2 := by simp [lookM, List.find?_cons, hk]
      rw [e0] at e
      cases e
      exact ⟨kv.2, valV_pos (q1.trans hk), q2⟩
    · have e0 : lookM (en :: es) k = lookM es k := by simp [lookM, List.find?_cons, hk]
      rw [e0] at e
      obtain ⟨v, z1, z2⟩ := ih e
      exact ⟨v, by rw [valV_neg (fun z => hk (q1.symm.trans z))]; exact z1, z2⟩
theorem Mp.lookN (h : Mp K G As kvs es) (e : lookM es k = none) : valV kvs k = none := by
  unfold Mp at h
  induction h with
  | nil => rfl
  | cons q t ih =>
    rename_i kv en kvs es
    obtain ⟨q1, q2⟩ := q
    by_cases hk : en.1 = k
    · have e0 : lookM (en :: es) k = some en.2 := by simp [lookM, List.find?_cons, hk]
      rw [e0] at e
      cases e
    · have e0 : lookM (en :: es) k = lookM es k := by simp [lookM, List.find?_cons, hk]
      rw [e0] at e
      rw [valV_neg (fun z => hk (q1.symm.trans z))]
      exact ih e
theorem Mp.snoc (h : Mp K G As kvs es) (hv : It K G As v r) : Mp K G As (kvs ++ [(k, v)]) (es ++ [(k, r)]) := by
  unfold Mp at h ⊢
  induction h with
  | nil => exact .cons ⟨rfl, hv⟩ .nil
  | cons q t ih => exact .cons q ih
theorem Mp.len (h : Mp K G As kvs es) : kvs.length = es.length := Paired.length h
theorem Mp.any (h : Mp K G As kvs es) : (kvs.any fun kv => decide (kv.1 = k)) = es.any fun e => decide (e.1 = k) := by
  unfold Mp at h
  induction h with
  | nil => rfl
  | cons q t ih => rw [List.any_cons, List.any_cons, ih, q.1]
theorem Mp.put (h : Mp K G As kvs es) (hv : It K G As v r) : Mp K G As (putK kvs k v) (putM es k r) := by
  unfold putK putM
  rw [h.any]
  split
  · have go : ∀ {kvs : List (Key × V)} {es : List (Key × R)}, Mp K G As kvs es → Mp K G As (kvs.map fun kv => if kv.1 = k then (kv.1, v) else kv) (es.map fun e => if e.1 = k then (e.1, r) else e) := by
      intro kvs es h
      unfold Mp at h ⊢
      induction h with
      | nil => exact .nil
      | cons q t ih =>
        rename_i kv en kvs es
        obtain ⟨q1, q2⟩ := q
        refine .cons ?_ ih
        dsimp only
        by_cases hk : en.1 = k
        · rw [if_pos hk, if_pos (q1.trans hk)]; exact ⟨q1, hv⟩
        · rw [if_neg hk, if_neg (fun z => hk (q1.symm.trans z))]; exact ⟨q1, q2⟩
    exact go h
  · exact h.snoc hv
theorem Mp.drop (h : Mp K G As kvs es) : Mp K G As (dropK kvs k) (dropM es k) := by
  unfold dropK dropM
  unfold Mp at h ⊢
  induction h with
  | nil => exact .nil
  | cons q t ih =>
    rename_i kv en kvs es
    obtain ⟨q1, q2⟩ := q
    rw [List.filter_cons, List.filter_cons, q1]
    split
    · exact .cons ⟨q1, q2⟩ ih
    · exact ih
end
section
variable {X : Cx} {pos : Pos}
theorem Step.more {G H : Hp} {As : List Addr} {q : Addr} {o : HO} (hq : H q = none) : Step G H As G (upd H q o) (As ++ [q]) :=
  ⟨Ex.refl G, ⟨[q], rfl⟩, fun a ha => by
    rcases List.mem_append.mp ha with z | z
    · exact .inl z
    · rw [List.mem_singleton] at z; subst z; exact .inr hq, (fun b u _ _ e => by rw [upd_ne (ne_of_none e hq)]; exact e), (fun b e => by
    by_cases q' : b = q
    · subst q'; exact hq
    · rw [upd_ne q'] at e; exact e), fun _ e => .inl e⟩
theorem RpA.dropLast {K : PySem.W.Frag} {G : Hp} {vs : List V} {ds : List PyData} (h : RpA K G vs ds) : RpA K G vs.dropLast ds.dropLast := by
  rw [List.dropLast_eq_take, List.dropLast_eq_take, h.len]
  exact h.take _
end
end DL
namespace DL
open PySem PySem.Spec PyProof.Rows L2
section
variable {K : PySem.W.Frag} {G H G' H' G1 H1 : Hp} {As As' As1 : List Addr} {κ κ' : Kap} {D : Addr} {o u : HO}
end
def hdats (κ : Kap) : List (Key × R) → Option (List (Key × PyData) × Kap)
  | [] => some ([], κ)
  | e :: es => match dat κ e.2 with
    | some (x, κ1) => match hdats κ1 es with
      | some (xs, κ2) => some ((e.1, x) :: xs, κ2)
      | none => none
    | none => none
section
variable {K : PySem.W.Frag} {G H G' H' G1 H1 : Hp} {As As' As1 : List Addr} {κ κ' : Kap}
abbrev EnH (K : PySem.W.Frag) (G : Hp) (kvs : List (Key × V)) (es : List (Key × PyData)) : Prop := Paired (fun (kv : Key × V) (e : Key × PyData) => kv.1 = e.1 ∧ Rp K G kv.2 e.2) kvs es
theorem EnH.mono {kvs : List (Key × V)} {es : List (Key × PyData)} (e : Ex G G') (h : EnH K G kvs es) : EnH K G' kvs es := Paired.mapP h fun _ _ z => ⟨z.1, Rp.mono e _ _ z.2⟩
theorem hdats_ok : ∀ {es : List (Key × R)} {kvs : List (Key × V)} {G : Hp} {κ : Kap} {xs : List (Key × PyData)}, Cells K G H As κ → Mp K G As kvs es → hdats κ es = some (xs, κ') → ∃ G', Step G H As G' H As ∧ Cells K G' H As κ' ∧ EnH K G' kvs xs
  | [], _, G, κ, xs, c, h, e => by
    cases h
    cases e
    exact ⟨G, Step.refl, c, .nil⟩
  | r :: rs, _, G, κ, xs, c, h, e => by
    cases h with
    | cons h1 h2 =>
      unfold hdats at e
      cases q : dat κ r.2 with
      | none => rw [q] at e; cases e
      | some p =>
        obtain ⟨x, κ1⟩ := p
        rw [q] at e
        simp only at e
        cases q2 : hdats κ1 rs with
        | none => rw [q2] at e; cases e
        | some p2 =>
          obtain ⟨ys, κ2⟩ := p2
          rw [q2] at e
          cases e
          obtain ⟨G1, s1, c1, r1⟩ := dat_ok c h1.2 q
          obtain ⟨G2, s2, c2, r2⟩ := hdats_ok c1 (Mp.mono s1.ex s1.pre h2) q2
          exact ⟨G2, s1.trans s2, c2, .cons ⟨h1.1, Rp.mono s2.ex _ _ r1⟩ r2⟩
theorem dat_keepM {r : R} {x : PyData} {k : Nat} {es : List (Key × R)} (e : dat κ r = some (x, κ')) (h : κ[k]? = some (.m es)) : κ'[k]? = some (.m es) := by
  cases r with
  | d y => cases e; exact h
  | f y => cases e; exact h
  | s y => cases e
  | b y => cases e
  | p y => cases e
  | h y => cases e
  | g y => cases e
  | q y => cases e
  | o y => cases e
  | c j =>
    unfold dat at e
    simp only at e
    cases q : κ[j]? with
    | none => rw [q] at e; cases e
    | some cc =>
      rw [q] at e
      cases cc with
      | l ds =>
        cases e
        have ne : j ≠ k := fun z => by subst z; rw [h] at q; cases q
        rw [List.getElem?_set_ne ne]; exact h
      | m es => cases e
      | k es => cases e
      | x u => cases e
      | z y => cases e; exact h
theorem hdats_keepM {k : Nat} {es0 : List (Key × R)} : ∀ {es : List (Key × R)} {κ : Kap} {xs : List (Key × PyData)}, hdats κ es = some (xs, κ') → κ[k]? = some (.m es0) → κ'[k]? = some (.m es0)
  | [], κ, xs, e, h => by cases e; exact h
  | r :: rs, κ, xs, e, h => by
    unfold hdats at e
    cases q : dat κ r.2 with
    | none => rw [q] at e; cases e
    | some p =>
      obtain ⟨x, κ1⟩ := p
      rw [q] at e
      simp only at e
      cases q2 : hdats κ1 rs with
      | none => rw [q2] at e; cases e
      | some p2 =>
        obtain ⟨ys, κ2⟩ := p2
        rw [q2] at e
        cases e
        exact hdats_keepM q2 (dat_keepM q h)
end
section
variable {X : Cx} {e tg : Expr} {t : TE} {we : DTE} {pos apos cpos : Pos}
end
section
variable {K : PySem.W.Frag} {G H : Hp} {As : List Addr} {a : Addr} {o : Obj} {kvs : List (Key × V)} {es : List (Key × PyData)}
end
section
variable {X : Cx} {e tg : Expr} {we : DTE} {pos apos cpos : Pos}
end
section
variable {X : Cx} {kx vx tg iter : Expr} {ifs : List Expr} {scope : Scope} {own : List (Str × Nat)} {pos : Pos} {wi : DTI} {g : DTG} {wt : DTT} {wk wv : DTE} {js : List Nat}
end
end DL
namespace DL
open PySem PySem.Spec PyProof.Rows L2
def cksR : List R → Option (List Nat)
  | [] => some []
  | .c k :: rs => match cksR rs with
    | some ks => some (k :: ks)
    | none => none
  | _ => none
def wLstB (wr : DTA) : DTE := fun ρ κ P => wr ρ κ fun rs κ1 => Opt (cksR rs) fun ks => ks.length ≤ sizeLine ∧ P (.b ks) κ1
section
variable {X : Cx} {es : List Expr} {wr : DTA} {pos : Pos}
end
@[simp] theorem s_lstB (wr : DTA) (ρ : Rho) (κ : Kap) (P : R → Kap → Prop) : wLstB wr ρ κ P = wr ρ κ fun rs κ1 => Opt (cksR rs) fun ks => ks.length ≤ sizeLine ∧ P (.b ks) κ1 := rfl
def forRL (g : DTG) (b : DTS) (E : DEnds) : List R → Rho → Kap → Prop
  | [], ρ, κ => E.nx ρ κ
  | x :: xs, ρ, κ => g x ρ κ fun ρ1 κ1 => b { nx := fun ρ2 κ2 => forRL g b E xs ρ2 κ2, rt := E.rt, bk := E.nx, ct := fun ρ2 κ2 => forRL g b E xs ρ2 κ2 } ρ1 κ1
def wForR (wi : DTIR) (g : DTG) (b : DTS) : DTS := fun E ρ κ => wi ρ κ fun xs κ1 => forRL g b E xs ρ κ1
@[simp] theorem s_forR (wi : DTIR) (g : DTG) (b : DTS) (E : DEnds) (ρ : Rho) (κ : Kap) : wForR wi g b E ρ κ = wi ρ κ fun xs κ1 => forRL g b E xs ρ κ1 := rfl
@[simp] theorem forRL_nil (g : DTG) (b : DTS) (E : DEnds) (ρ : Rho) (κ : Kap) : forRL g b E [] ρ κ = E.nx ρ κ := rfl
@[simp] theorem forRL_cons (g : DTG) (b : DTS) (E : DEnds) (x : R) (xs : List R) (ρ : Rho) (κ : Kap) : forRL g b E (x :: xs) ρ κ = g x ρ κ fun ρ1 κ1 => b { nx := fun ρ2 κ2 => forRL g b E xs ρ2 κ2, rt := E.rt, bk := E.nx, ct := fun ρ2 κ2 => forRL g b E xs ρ2 κ2 } ρ1 κ1 := rfl
section
variable {X : Cx} {tg it : Expr} {body : List Stmt} {wi : DTIR} {g : DTG} {b : DTS} {js : List Nat} {pos : Pos}
end
def lcRk (ok : Kap → Prop) (g : DTG) (t : DTT) (e : DTE) (ρw : Rho) (P : R → Kap → Prop) : List R → List PyData → Kap → Prop
  | [], acc, κ => P (.f acc) κ
  | x :: xs, acc, κ => g x ρw κ fun ρ1 κ1 => t ρ1 κ1 fun b κ2 => if b = true then e ρ1 κ2 fun r κ3 => Opt (dat κ3 r.st) fun q => acc.length < sizeLine ∧ ok q.2 ∧ lcRk ok g t e ρw P xs (acc ++ [q.1]) q.2 else ok κ2 ∧ lcRk ok g t e ρw P xs acc κ2
@[simp] theorem lcRk_nil (ok : Kap → Prop) (g : DTG) (t : DTT) (e : DTE) (ρ : Rho) (P : R → Kap → Prop) (acc : List PyData) (κ : Kap) : lcRk ok g t e ρ P [] acc κ = P (.f acc) κ := rfl
section
variable {X : Cx} {elt tg iter : Expr} {ifs : List Expr} {scope : Scope} {own : List (Str × Nat)} {pos : Pos} {g : DTG} {wt : DTT} {we : DTE} {js : List Nat}
end
end DL
namespace SH
open PySem PySem.Spec PyProof.Rows L2 DL
theorem lc_map {α : Type} {ok : Kap → Prop} {g : DTG} {we : DTE} {ρw : Rho} {P : R → Kap → Prop} {κ : Kap} (f e : α → PyData) (hok : ok κ) : ∀ (xs : List α) (acc : List PyData), acc.length + xs.length ≤ sizeLine →
    (∀ x ∈ xs, ∀ C : R → Kap → Prop, C (.d (e x)) κ → g (.d (f x)) ρw κ fun ρ1 κ1 => we ρ1 κ1 C) → P (.f (acc ++ xs.map e)) κ → lcL ok g wYes we ρw P (xs.map f) acc κ
  | [], acc, _, _, hp => by simpa using hp
  | x :: xs, acc, hl, h, hp => by
    rw [List.map_cons, lcL_cons]
    refine h x (List.mem_cons_self ..) _ ?_
    simp only [List.length_cons] at hl
    refine ⟨by omega, hok, lc_map f e hok xs _ (by rw [List.length_append, List.length_singleton]; omega) (fun y hy => h y (List.mem_cons_of_mem _ hy)) ?_⟩
    rw [List.append_assoc]
    exact hp
theorem lc_filter {α : Type} {ok : Kap → Prop} {g : DTG} {wt : DTT} {we : DTE} {ρw : Rho} {P : R → Kap → Prop} {κ : Kap} (f : α → PyData) (p : α → Bool) (e : α → PyData) (hok : ok κ) : ∀ (xs : List α) (acc : List PyData), acc.length + xs.length ≤ sizeLine →
    (∀ x ∈ xs, ∀ C : Bool → Rho → Kap → Prop, (∀ ρ1, (p x = true → ∀ D : R → Kap → Prop, D (.d (e x)) κ → we ρ1 κ D) → C (p x) ρ1 κ) → g (.d (f x)) ρw κ fun ρ1 κ1 => wt ρ1 κ1 fun b κ2 => C b ρ1 κ2) →
    P (.f (acc ++ (xs.filter p).map e)) κ → lcL ok g wt we ρw P (xs.map f) acc κ
  | [], acc, _, _, hp => by simpa using hp
  | x :: xs, acc, hl, h, hp => by
    rw [List.map_cons, lcL_cons]
    simp only [List.length_cons] at hl
    refine h x (List.mem_cons_self ..) (fun b ρ1 κ2 => if b = true then we ρ1 κ2 fun r κ3 => Opt (dat κ3 r.st) fun q => acc.length < sizeLine ∧ ok q.2 ∧ lcL ok g wt we ρw P (xs.map f) (acc ++ [q.1]) q.2 else ok κ2 ∧ lcL ok g wt we ρw P (xs.map f) acc κ2) fun ρ1 hw => ?_
    by_cases hb : p x = true
    · rw [if_pos hb]
      refine hw hb _ ⟨by omega, hok, lc_filter f p e hok xs _ (by rw [List.length_append, List.length_singleton]; omega) (fun y hy => h y (List.mem_cons_of_mem _ hy)) ?_⟩
      rw [List.filter_cons_of_pos hb] at hp
      rw [List.append_assoc]
      exact hp
    · rw [if_neg hb]
      refine ⟨hok, lc_filter f p e hok xs acc (by omega) (fun y hy => h y (List.mem_cons_of_mem _ hy)) ?_⟩
      rw [List.filter_cons_of_neg hb] at hp
      exact hp
abbrev Hook := Str × Str × Int
abbrev Row := List Hook
def hookD (h : Hook) : PyData := .tuple [.str h.1, .str h.2.1, .int h.2.2]
def turned (h : Hook) : Hook := (h.1, h.2.1, -h.2.2)
def back (r : Row) : Row := r.reverse.map turned
theorem back_len (r : Row) : (back r).length = r.length := by unfold back; rw [List.length_map, List.length_reverse]
def Box (N : Int) (bs : List PyData) : Prop := ∃ x c n : Int, bs = [.int x, .int c, .int n] ∧ 0 ≤ x ∧ 0 ≤ c ∧ c ≤ 2 ^ 40 ∧ 0 ≤ n ∧ n ≤ N
theorem Box.mono {N M : Int} {bs : List PyData} (h : Box N bs) (l : N ≤ M) : Box M bs := by
  obtain ⟨x, c, n, e, h1, h2, h3, h4, h5⟩ := h
  exact ⟨x, c, n, e, h1, h2, h3, h4, by omega⟩
def Ph_law_take (bs : List PyData) (rs : List R) (P : R → List PyData → Prop) : Prop := ∃ N b : Int, Box N bs ∧ N < 2 ^ 40 ∧ rs = [.d (.int b)] ∧ 0 < b ∧ b < 2 ^ 30 ∧ ∀ (r : Int) (bs' : List PyData), 0 ≤ r → r < b → Box (N + 1) bs' → P (.d (.int r)) bs'
def Ph_law_box (rs : List R) (P : R → Prop) : Prop := ∃ (ns : List Int) (k : Int), rs = [.s ns, .d (.int k)] ∧ 0 ≤ k ∧ k ≤ 1000 ∧ ∀ bs, Box 0 bs → P (.f bs)
end SH
namespace SH
open PySem PySem.Spec PyProof.Rows L2 DL
/-- _law_take -/
def w_law_take : DTS := (wSeq (wIfS (wB (wBin (ciD gtI) (wBin ixD (wVar 0) (wC (.int 0))) (wC (.int 0)))) (wSeq (wSet false 2 (wBin modD (wBin ixD (wVar 0) (wC (.int 0))) (wVar 1)))
  (wSeq (wAsg (wBin fdivD (wBin ixD (wVar 0) (wC (.int 0))) (wVar 1)) (wSub (wVar 0) (wC (.int 0))))
  (wRet (wVar 2)))) wNext)
  (wSeq (wAsg (wBin addD (wBin ixD (wVar 0) (wC (.int 2))) (wC (.int 1))) (wSub (wVar 0) (wC (.int 2))))
  (wSeq (wSet false 3 (wBin modD (wBin powD (wBin addD (wBin ixD (wVar 0) (wC (.int 1))) (wBin mulD (wC (.int 39373)) (wBin ixD (wVar 0) (wC (.int 2))))) (wC (.int 5))) (wC (.int 2147483647))))
  (wRet (wBin modD (wBin fdivD (wBin modD (wBin addD (wBin mulD (wVar 3) (wBin addD (wBin modD (wVar 3) (wC (.int 40009))) (wC (.int 7)))) (wBin mulD (wBin ixD (wVar 0) (wC (.int 2))) (wC (.int 7919)))) (wC (.int 2147483629))) (wC (.int 64))) (wVar 1))))))
theorem ix3_0 (a b c : PyData) : ixD (.list [a, b, c]) (.int 0) = some (.v a) := rfl
theorem ix3_1 (a b c : PyData) : ixD (.list [a, b, c]) (.int 1) = some (.v b) := rfl
theorem ix3_2 (a b c : PyData) : ixD (.list [a, b, c]) (.int 2) = some (.v c) := rfl
theorem ixN3_0 : ixN 3 0 = some 0 := rfl
theorem ixN3_2 : ixN 3 2 = some 2 := rfl
theorem r_law_take (bs : List PyData) (rs : List R) (Pd : R → List PyData → Prop) (h : Ph_law_take bs rs Pd) (hl : rs.length = 1) : w_law_take { nx := fun _ κ => endL κ (.d .none) Pd, rt := fun r κ => endL κ r Pd } (some (.c 0) :: (rs.map some ++ List.replicate 2 none)) [.l bs] := by
  obtain ⟨N, b, ⟨x, c, n, rfl, hx, hc, hc2, hn, hn2⟩, hN, rfl, hb, hb2, k⟩ := h
  have hp : (c + 39373 * (n + 1)).natAbs < 2 ^ 64 := by omega
  have hm : ∀ q : Int, 0 ≤ q % 2147483647 ∧ q % 2147483647 < 2147483647 := fun q => ⟨Int.emod_nonneg _ (by decide), Int.emod_lt_of_pos _ (by decide)⟩
  simp [w_law_take, ix3_0, ix3_1, ix3_2, ixN3_0, ixN3_2, gtI]
  by_cases h0 : 0 < x
  · rw [if_pos h0]
    rw [modD_int hb, Opt_some]
    simp [fdivD_int hb (by omega), ix3_0, ixN3_0]
    refine k _ _ (Int.emod_nonneg _ (by omega)) (Int.emod_lt_of_pos _ hb) ⟨_, c, n, rfl, Int.ediv_nonneg hx (by omega), hc, hc2, hn, by omega⟩
  · rw [if_neg h0]
    rw [mulD_int (.inl (by decide)), Opt_some]
    simp only [out_v, addD_int, Opt_some, st_d, val_d]
    rw [powD_int (by decide) (by decide) hp, Opt_some]
    simp only [out_v, Opt_some, st_d, val_d]
    rw [modD_int (by decide), Opt_some]
    obtain ⟨q1, q2⟩ := hm ((c + 39373 * (n + 1)) ^ (5 : Int).toNat)
    generalize (c + 39373 * (n + 1)) ^ (5 : Int).toNat % 2147483647 = o at q1 q2
    simp only [out_v, Opt_some, st_d, val_d, List.set_cons_succ, List.set_cons_zero, List.getElem?_cons_succ, List.getElem?_cons_zero]
    rw [modD_int (by decide), Opt_some]
    simp only [out_v, addD_int, Opt_some, st_d, val_d]
    rw [mulD_int (.inl (by omega)), Opt_some, mulD_int (.inl (by omega)), Opt_some]
    simp only [out_v, addD_int, Opt_some, st_d, val_d]
    rw [modD_int (by decide), Opt_some]
    simp only [out_v, Opt_some, st_d, val_d]
    rw [fdivD_int (by decide) (by decide), Opt_some]
    simp only [out_v, Opt_some, st_d, val_d]
    rw [modD_int hb, Opt_some]
    simp only [out_v, endL_d]
    exact k _ _ (Int.emod_nonneg _ (by omega)) (Int.emod_lt_of_pos _ hb) ⟨x, c, n + 1, rfl, hx, hc, hc2, by omega, by omega⟩
/-- _law_box -/
def w_law_box : DTS := (wSeq (wSet false 2 (wC (.int 0)))
  (wSeq (wIfS (wB (wBin (ordD ltI ltS) (wVar 1) (wLenS (wVar 0)))) (wSet false 2 (wScr (wVar 0) (wVar 1))) wNext)
  (wRet (wLst (wCons (wBin mulD (wCB absD (wCons (wVar 2) wNil)) (wCB intC (wCons (wBin (ciD geI) (wCB absD (wCons (wVar 2) wNil)) (wBin powD (wC (.int 10)) (wC (.int 18)))) wNil))) (wCons (wBin addD (wBin addD (wBin modD (wVar 2) (wC (.int 2147483629))) (wBin mulD (wC (.int 7919)) (wVar 1))) (wC (.int 11))) (wCons (wC (.int 0)) wNil)))))))
theorem r_law_box (rs : List R) (Pd : R → Prop) (h : Ph_law_box rs Pd) (hl : rs.length = 2) : w_law_box { nx := fun _ _ => Pd (.d .none), rt := fun r κ => Opt (outR κ 0 r) Pd } (rs.map some ++ List.replicate 1 none) [] := by
  obtain ⟨ns, k, rfl, h0, h1, q⟩ := h
  have fin : ∀ z : Int, wRet (wLst (wCons (wBin mulD (wCB absD (wCons (wVar 2) wNil)) (wCB intC (wCons (wBin (ciD geI) (wCB absD (wCons (wVar 2) wNil)) (wBin powD (wC (.int 10)) (wC (.int 18)))) wNil))) (wCons (wBin addD (wBin addD (wBin modD (wVar 2) (wC (.int 2147483629))) (wBin mulD (wC (.int 7919)) (wVar 1))) (wC (.int 11))) (wCons (wC (.int 0)) wNil)))) { nx := fun _ _ => Pd (.d .none), rt := fun r κ => Opt (outR κ 0 r) Pd } [some (.s ns), some (.d (.int k)), some (.d (.int z))] [] := fun z => by
    simp [geI, powD_int (i := 10) (j := 18) (by decide) (by decide) (by decide)]
    rw [mulD_int (.inr (by constructor <;> (repeat' split) <;> decide)), Opt_some]
    simp
    rw [modD_int (by decide), Opt_some, mulD_int (.inl (by decide)), Opt_some]
    simp [sizeLine_eq]
    refine q _ ⟨_, _, _, rfl, ?_, ?_, ?_, Int.le_refl 0, Int.le_refl 0⟩
    · split <;> split <;> omega
    · have := Int.emod_nonneg z (show (2147483629 : Int) ≠ 0 by decide)
      omega
    · have := Int.emod_lt_of_pos z (show (0 : Int) < 2147483629 by decide)
      omega
  simp only [w_law_box, s_seq, s_set, s_c, s_if, s_B, s_bin, s_var, s_lenS, s_scr, List.map_cons, List.map_nil, List.cons_append, List.nil_append, List.replicate_succ, List.replicate_zero, sto_f, st_d, val_d, Opt_some, List.set_cons_succ, List.set_cons_zero, List.getElem?_cons_succ, List.getElem?_cons_zero, ordD_int, out_v, s_next]
  by_cases hk : k < (ns.length : Int)
  · simp only [ltI, decide_eq_true hk, if_true]
    obtain ⟨j, rfl⟩ : ∃ j : Nat, k = (j : Int) := ⟨k.toNat, by omega⟩
    have hj : j < ns.length := by omega
    rw [atI_nat (List.getElem?_eq_getElem hj), Opt_some]
    exact fin _
  · simp only [ltI, decide_eq_false hk, Bool.false_eq_true, if_false]
    exact fin 0
end SH
namespace SH
open PySem PySem.Spec PyProof.Rows L2 DL
abbrev cs (z : Str) : List Nat := z.cps.toList
theorem cs_inj {x y : Str} (h : cs x = cs y) : x = y := PySem.W.str_of_cps h
theorem cs_app (x y : Str) : cs (x ++ y) = cs x ++ cs y := by
  show (x.cps ++ y.cps).toList = _
  rw [Array.toList_append]
theorem cs_len (x : Str) : (cs x).length = x.length := by show x.cps.toList.length = x.cps.size; rw [Array.length_toList]
theorem join_eq (sep : Str) (l : List Str) : Txt.join sep l = Str.join sep l := eq_of_beq (PyProof.Rows.join_plain_closes sep l)
theorem cs_join0 {e : Str} (he : cs e = []) : ∀ l : List Str, cs (Txt.join e l) = (l.map cs).flatten := by
  intro l
  rw [join_eq]
  induction l with
  | nil => rfl
  | cons x l ih =>
    cases l with
    | nil => show cs x = _; simp
    | cons y l =>
      show cs (x ++ e ++ Str.join e (y :: l)) = _
      rw [cs_app, cs_app, he, ih]
      simp
/-- a NAME: one to six letters -/
def IsName (z : Str) : Prop := 1 ≤ (cs z).length ∧ (cs z).length ≤ 6 ∧ ∀ c ∈ cs z, 97 ≤ c ∧ c ≤ 122
/-- rising names -/
def Names (ns : List Str) : Prop := (∀ z ∈ ns, IsName z) ∧ ns.Pairwise fun x y => cs x < cs y
theorem IsName.shaped {z : Str} (h : IsName z) : SeqAt.shaped (.str z) = true := by
  have e : z.cps.all (fun c => decide (c < 0x110000)) = true := by
    rw [← Array.all_toList]
    rw [List.all_eq_true]
    intro c hc
    have := (h.2.2 c hc).2
    exact decide_eq_true (by omega)
  unfold SeqAt.shaped PyData.canLay0
  rw [Bool.and_eq_true]
  exact ⟨e, by simp [PyData.depth]⟩
theorem shaped_strs : ∀ {ns : List Str}, (∀ z ∈ ns, IsName z) → SeqAt.shaped (.list (ns.map .str)) = true := by
  intro ns h
  unfold SeqAt.shaped PyData.canLay0
  rw [Bool.and_eq_true]
  have a1 : PyData.canLayAll0 (ns.map .str) = true ∧ PyData.depthAll (ns.map .str) = 0 := by
    induction ns with
    | nil => exact ⟨by simp [PyData.canLayAll0], by simp [PyData.depthAll]⟩
    | cons z ns ih =>
      obtain ⟨h1, h2⟩ := ih fun y hy => h y (List.mem_cons_of_mem _ hy)
      have q := (h z (List.mem_cons_self ..)).shaped
      unfold SeqAt.shaped at q
      rw [Bool.and_eq_true] at q
      rw [List.map_cons]
      exact ⟨by rw [PyData.canLayAll0, q.1, h1]; rfl, by rw [PyData.depthAll, h2]; simp [PyData.depth]⟩
  exact ⟨a1.1, by rw [PyData.depth, a1.2]; decide⟩
theorem eqv_str (x y : Str) : PyData.eqv (.str x) (.str y) = (x == y) := by rw [PyData.eqv]
theorem any_str (ns : List Str) (z : Str) : ((ns.map PyData.str).any fun y => PyData.eqv y (.str z)) = decide (z ∈ ns) := by
  rw [List.any_map]
  induction ns with
  | nil => rfl
  | cons y ns ih =>
    rw [List.any_cons, ih]
    show (PyData.eqv (.str y) (.str z) || _) = _
    rw [eqv_str]
    by_cases e : y = z
    · subst e; simp
    · have e' : ¬ z = y := fun q => e q.symm
      simp [e, e']
/-- more unlike ones than there is room for -/
theorem some_out : ∀ {l fs : List Str}, l.Nodup → fs.length < l.length → ∃ z ∈ l, z ∉ fs
  | [], fs, _, h => by simp at h
  | x :: l, fs, hn, h => by
    by_cases hx : x ∈ fs
    · have hn' := List.nodup_cons.mp hn
      have hl : (fs.erase x).length < l.length := by
        rw [List.length_erase_of_mem hx]
        have : 0 < fs.length := List.length_pos_of_mem hx
        simp only [List.length_cons] at h
        omega
      obtain ⟨z, hz, hz2⟩ := some_out hn'.2 hl
      refine ⟨z, List.mem_cons_of_mem _ hz, fun hm => hz2 ?_⟩
      have hne : z ≠ x := fun e => hn'.1 (by rw [← e]; exact hz)
      exact (List.mem_erase_of_ne hne).mpr hm
    · exact ⟨x, List.mem_cons_self .., hx⟩
abbrev letters : Str := "abcdefghijklmnopqrstuvwxyz"
theorem cs_letters : cs letters = (List.range 26).map (· + 97) := by decide +kernel
theorem letters_at {r : Int} (h0 : 0 ≤ r) (h1 : r < 26) : atI letters.cps.toList r = some (r.toNat + 97) := by
  obtain ⟨j, rfl⟩ : ∃ j : Nat, r = (j : Int) := ⟨r.toNat, by omega⟩
  refine atI_nat ?_
  show (cs letters)[j]? = _
  rw [cs_letters, List.getElem?_map, List.getElem?_range (by omega)]
  simp
theorem letters_len : letters.length ≤ sizeLine := by rw [← cs_len, cs_letters, sizeLine_eq]; simp
theorem cs_cut5 (z : Str) : cs (cutS z none (some 5)) = (cs z).take 5 := by
  have e : cutS z none (some 5) = ⟨((z.cps.toList.drop (HT.sIx z.length 0 none)).take (HT.sIx z.length z.length (some 5) - HT.sIx z.length 0 none)).toArray⟩ := rfl
  rw [e]
  show (((cs z).drop _).take _).toArray.toList = _
  rw [List.toList_toArray, HT.sIx_none, List.drop_zero]
  have e2 : HT.sIx z.length z.length (some 5) = min 5 z.length := HT.sIx_nat z.length z.length 5
  rw [e2, ← cs_len]
  rcases Nat.le_total 5 (cs z).length with h | h
  · rw [Nat.min_eq_left h]
  · rw [Nat.min_eq_right h, Nat.sub_zero, List.take_of_length_le (Nat.le_refl _), List.take_of_length_le h]
/-- what may be the next name -/
def cands (z : Str) : List Str := z :: (cs letters).map fun c => cutS z none (some 5) ++ (⟨#[c]⟩ : Str)
theorem cs_cand (z : Str) (c : Nat) : cs (cutS z none (some 5) ++ (⟨#[c]⟩ : Str)) = (cs z).take 5 ++ [c] := by rw [cs_app, cs_cut5]
theorem cands_name {z : Str} (h : IsName z) : ∀ y ∈ cands z, IsName y := by
  intro y hy
  rcases List.mem_cons.mp hy with rfl | hy
  · exact h
  · obtain ⟨c, hc, rfl⟩ := List.mem_map.mp hy
    rw [cs_letters] at hc
    obtain ⟨i, hi, rfl⟩ := List.mem_map.mp hc
    rw [List.mem_range] at hi
    unfold IsName
    rw [cs_cand]
    refine ⟨by simp, by simp; omega, fun d hd => ?_⟩
    rcases List.mem_append.mp hd with hd | hd
    · exact h.2.2 d (List.mem_of_mem_take hd)
    · rw [List.mem_singleton] at hd; omega
theorem cands_out {z : Str} {fs : List Str} (h : fs.length < 26) : ∃ y ∈ cands z, y ∉ fs := by
  have nd : ((cs letters).map fun c => cutS z none (some 5) ++ (⟨#[c]⟩ : Str)).Nodup := by
    rw [cs_letters, List.map_map]
    unfold List.Nodup
    rw [List.pairwise_map]
    refine List.Pairwise.imp ?_ List.nodup_range
    intro a b hab e
    have e' := congrArg cs e
    simp only [Function.comp_apply, cs_cand] at e'
    have := List.append_cancel_left e'
    simp at this
    exact hab this
  obtain ⟨y, h1, h2⟩ := some_out nd (fs := fs) (by rw [cs_letters]; simpa using h)
  exact ⟨y, List.mem_cons_of_mem _ h1, h2⟩
theorem head_filter {l : List Str} {fs : List Str} (h : ∃ y ∈ l, y ∉ fs) : ∃ y ys, l.filter (fun z => !decide (z ∈ fs)) = y :: ys ∧ y ∈ l ∧ y ∉ fs := by
  obtain ⟨y, h1, h2⟩ := h
  have hm : y ∈ l.filter (fun z => !decide (z ∈ fs)) := List.mem_filter.mpr ⟨h1, by simp [h2]⟩
  cases e : l.filter (fun z => !decide (z ∈ fs)) with
  | nil => rw [e] at hm; cases hm
  | cons x xs =>
    have hx : x ∈ l.filter (fun z => !decide (z ∈ fs)) := by rw [e]; exact List.mem_cons_self ..
    obtain ⟨q1, q2⟩ := List.mem_filter.mp hx
    exact ⟨x, xs, rfl, q1, by simpa using q2⟩
theorem sortOk_strs {ns : List Str} (hl : ns.length ≤ sizeLine) : SortOk (ns.map .str) :=
  ⟨PySem.W.AllAlike.of fun _ _ => by rw [PySem.W.alike], PySem.W.Sortable.others fun b => ⟨(fun z => nomatch z), (fun _ z => nomatch z)⟩, fun x hx => by
    obtain ⟨z, _, rfl⟩ := List.mem_map.mp hx
    simp [PyData.depth], by rw [List.length_map]; exact hl⟩
def strLe (x y : Str) : Bool := decide (cs x ≤ cs y)
theorem dLe_str (x y : Str) : dLe (.str x) (.str y) = strLe x y := by
  have h := congrFun (congrFun (PySem.W.dataLe_str (fun z : Str => z)) x) y
  exact h
theorem sort_strs (ns : List Str) : (ns.map PyData.str).mergeSort dLe = (ns.mergeSort strLe).map .str :=
  (List.map_mergeSort fun a _ b _ => (dLe_str a b).symm).symm
theorem sorted_names {ns : List Str} (h : ∀ z ∈ ns, IsName z) (nd : ns.Nodup) : Names (ns.mergeSort strLe) ∧ (ns.mergeSort strLe).length = ns.length := by
  have pm := List.mergeSort_perm ns strLe
  refine ⟨⟨fun z hz => h z (pm.mem_iff.mp hz), ?_⟩, pm.length_eq⟩
  have srt : (ns.mergeSort strLe).Pairwise fun a b => strLe a b = true := by
    refine List.pairwise_mergeSort (fun a b c h1 h2 => ?_) (fun a b => ?_) ns
    · unfold strLe at *
      exact decide_eq_true (List.le_trans (of_decide_eq_true h1) (of_decide_eq_true h2))
    · unfold strLe
      rcases List.le_total (cs a) (cs b) with q | q
      · simp [q]
      · simp [q]
  have nd' : (ns.mergeSort strLe).Nodup := pm.nodup_iff.mpr nd
  refine (List.Pairwise.and srt nd').imp fun {a b} ⟨h1, h2⟩ => ?_
  have h1 := of_decide_eq_true h1
  rcases List.le_iff_lt_or_eq.mp h1 with q | q
  · exact q
  · exact absurd (cs_inj q) h2
def IsLet (z : Str) : Prop := (cs z).length = 1 ∧ ∀ c ∈ cs z, 97 ≤ c ∧ c ≤ 122
/-- letters drawn one by one -/
theorem draw_letters {m k q a b : Option R} {fs : List PyData} {P : R → Kap → Prop} : ∀ (xs : List PyData) (zs : List Str) (bs : List PyData) (N : Int), Box N bs → N + (xs.length : Int) < 2 ^ 40 → (∀ z ∈ zs, IsLet z) → zs.length + xs.length ≤ 1000 →
    (∀ (zs' : List Str) (bs' : List PyData), zs'.length = zs.length + xs.length → (∀ z ∈ zs', IsLet z) → Box (N + (xs.length : Int)) bs' → P (.f (zs'.map .str)) [.l bs', .l fs]) →
    lcL (fun _ => True) (wName 6) wYes (wBin ixD (wVar 2) (wCallL Ph_law_take (wCons (wVar 0) (wCons (wC (.int 26)) wNil)))) [some (.c 0), m, some (.d (.str letters)), some (.c 1), k, q, none, a, b] P xs (zs.map .str) [.l bs, .l fs]
  | [], zs, bs, N, hb, _, hz, _, hp => by
    rw [lcL_nil]
    exact hp zs bs (by simp) hz (by simpa using hb)
  | x :: xs, zs, bs, N, hb, hN, hz, hl, hp => by
    simp only [List.length_cons] at hN hl
    rw [lcL_cons]
    simp
    refine ⟨N, 26, hb, by omega, rfl, by decide, by decide, fun r bs' h0 h1 hb' => ?_⟩
    have e : ixD (.str letters) (.int r) = some (.v (.str ⟨#[r.toNat + 97]⟩)) := by
      unfold ixD
      simp only [if_pos letters_len, letters_at h0 h1]
      rfl
    simp only [lab_d, st_d, val_d, Opt_some, e]
    simp
    refine ⟨by rw [sizeLine_eq]; omega, ?_⟩
    have z1 : (zs.map PyData.str) ++ [PyData.str ⟨#[r.toNat + 97]⟩] = (zs ++ [(⟨#[r.toNat + 97]⟩ : Str)]).map .str := by simp
    rw [z1]
    refine draw_letters xs _ bs' (N + 1) hb' (by omega) (fun z hm => ?_) (by simp; omega) fun zs' bs2 h2 h3 h4 => hp zs' bs2 (by simp at h2 ⊢; omega) h3 (h4.mono (by simp; omega))
    rcases List.mem_append.mp hm with hm | hm
    · exact hz z hm
    · rw [List.mem_singleton] at hm
      subst hm
      refine ⟨rfl, fun c hc => ?_⟩
      have : c = r.toNat + 97 := by simpa [cs] using hc
      omega
end SH
namespace SH
open PySem PySem.Spec PyProof.Rows L2 DL
def Ph_law_names (bs : List PyData) (rs : List R) (P : R → List PyData → Prop) : Prop := ∃ (N : Int) (m : Nat), Box N bs ∧ N ≤ 2 ^ 39 ∧ rs = [.d (.int m)] ∧ m ≤ 20 ∧ ∀ (ns : List Str) (bs' : List PyData), ns.length = m → Names ns → Box (N + 200) bs' → P (.f (ns.map .str)) bs'
def wb_names : DTS := (wSeq (wSet false 5 (wBM "str" joinC (wC (.str "")) (wCons (wLc (wRng1 (wCons (wBin ixD (wLst (wCons (wC (.int 1)) (wCons (wC (.int 1)) (wCons (wC (.int 2)) (wCons (wC (.int 6)) wNil))))) (wCallL Ph_law_take (wCons (wVar 0) (wCons (wC (.int 4)) wNil)))) wNil)) (wName 6) wYes (wBin ixD (wVar 2) (wCallL Ph_law_take (wCons (wVar 0) (wCons (wC (.int 26)) wNil)))) [6]) wNil)))
  (wDrop (wAppend (wVar 3) (wBin ixD (wLc (wSq (wBin addD (wLst (wCons (wVar 5) wNil)) (wLc (wSq (wVar 2)) (wName 8) wYes (wBin addD (wSl (wVar 5) wNoP (wP (wC (.int 5)))) (wVar 8)) [8]))) (wName 7) (wB (wBin (inD true) (wVar 7) (wVar 3))) (wVar 7) [7]) (wC (.int 0))))))
/-- _law_names -/
def w_law_names : DTS := (wSeq (wPar 2 3 (wConsM false (wC (.str "abcdefghijklmnopqrstuvwxyz")) (wConsM true (wLst wNil) wNil)))
  (wSeq (wFor (wRng1 (wCons (wVar 1) wNil)) (wName 4) wb_names)
  (wRet (wCB sortC (wCons (wVar 3) wNil)))))
theorem strL_map : ∀ zs : List Str, strL (zs.map PyData.str) = some zs
  | [] => rfl
  | z :: zs => by rw [List.map_cons]; unfold strL; rw [strL_map zs]; rfl
theorem sum_let : ∀ ys : List Str, (∀ z ∈ ys, IsLet z) → (ys.map (·.length)).sum = ys.length
  | [], _ => rfl
  | y :: ys, h => by rw [List.map_cons, List.sum_cons, sum_let ys fun z hz => h z (List.mem_cons_of_mem _ hz), ← cs_len, (h y (List.mem_cons_self ..)).1, List.length_cons, Nat.add_comm]
theorem join_let {zs : List Str} (h : ∀ z ∈ zs, IsLet z) (hl : zs.length ≤ 1000) : joinC (.str "") [.list (zs.map .str)] = some (.v (.str (Txt.join "" zs))) := by
  unfold joinC
  simp only [strL_map]
  rw [if_pos]
  rw [sum_let zs h]
  show zs.length + zs.length * 0 ≤ _
  omega
theorem name_let {zs : List Str} (h : ∀ z ∈ zs, IsLet z) (h1 : 1 ≤ zs.length) (h6 : zs.length ≤ 6) : IsName (Txt.join "" zs) := by
  have e1 : cs (Txt.join "" zs) = (zs.map cs).flatten := cs_join0 rfl zs
  unfold IsName
  rw [e1]
  have e2 : ∀ zs : List Str, (∀ z ∈ zs, IsLet z) → ((zs.map cs).flatten).length = zs.length := fun zs h => by
    induction zs with
    | nil => rfl
    | cons z zs ih =>
      rw [List.map_cons, List.flatten_cons, List.length_append, (h z (List.mem_cons_self ..)).1, List.length_cons]
      rw [ih (fun w hw => h w (List.mem_cons_of_mem _ hw)), Nat.add_comm]
  rw [e2 zs h]
  refine ⟨by omega, by omega, fun d hd => ?_⟩
  obtain ⟨l, hl1, hl2⟩ := List.mem_flatten.mp hd
  obtain ⟨z, hz1, rfl⟩ := List.mem_map.mp hl1
  exact (h z hz1).2 d hl2
theorem cands_map (y : Str) : [PyData.str y] ++ (cs letters).map (fun c => PyData.str (cutS y none (some 5) ++ (⟨#[c]⟩ : Str))) = (cands y).map .str := by
  unfold cands
  generalize cs letters = l
  rw [List.map_cons, List.map_map]
  rfl
theorem letters26 : (cs letters).length = 26 := by rw [cs_letters, List.length_map, List.length_range]
theorem cands_len (y : Str) : (cands y).length = 27 := by unfold cands; rw [List.length_cons, List.length_map, letters26]
theorem cands_fit (y : Str) : [PyData.str y].length + ((cs letters).map fun c => PyData.str (cutS y none (some 5) ++ (⟨#[c]⟩ : Str))).length ≤ sizeLine := by
  rw [List.length_map, letters26, sizeLine_eq, List.length_singleton]
  omega
theorem names_body {E : DEnds} {m x p5 : Option R} {fs : List Str} {bs : List PyData} {N : Int} (hb : Box N bs) (hN : N + 8 < 2 ^ 40) (hz : ∀ z ∈ fs, IsName z) (hl : fs.length < 26)
    (k : ∀ (y z : Str) (bs' : List PyData), IsName z → z ∉ fs → Box (N + 8) bs' → E.nx [some (.c 0), m, some (.d (.str letters)), some (.c 1), x, some (.d (.str y)), none, none, none] [.l bs', .l ((fs ++ [z]).map .str)]) :
    wb_names E [some (.c 0), m, some (.d (.str letters)), some (.c 1), x, p5, none, none, none] [.l bs, .l (fs.map .str)] := by
  simp [wb_names, sizeLine_eq, tyOk]
  refine ⟨N, 4, hb, by omega, rfl, by decide, by decide, fun r bs1 h0 h1 hb1 => ?_⟩
  obtain ⟨c, ec, hc0, hc6⟩ : ∃ c : Int, ixD (.list [.int 1, .int 1, .int 2, .int 6]) (.int r) = some (.v (.int c)) ∧ 1 ≤ c ∧ c ≤ 6 := by
    have : r = 0 ∨ r = 1 ∨ r = 2 ∨ r = 3 := by omega
    rcases this with rfl | rfl | rfl | rfl
    · exact ⟨1, rfl, by decide, by decide⟩
    · exact ⟨1, rfl, by decide, by decide⟩
    · exact ⟨2, rfl, by decide, by decide⟩
    · exact ⟨6, rfl, by decide, by decide⟩
  simp only [lab_d, st_d, val_d, Opt_some, ec]
  simp
  refine ⟨by omega, by omega, ?_⟩
  refine draw_letters _ [] bs1 (N + 1) hb1 ?_ (by simp) ?_ fun zs bs2 l1 l2 b2 => ?_
  · simp; omega
  · simp; omega
  simp at l1
  have ej := join_let l2 (by omega)
  have hy' := name_let l2 (by omega) (by omega)
  simp [ej]
  obtain ⟨y, ey⟩ : ∃ y, y = Txt.join "" zs := ⟨_, rfl⟩
  have hy : IsName y := by rw [ey]; exact hy'
  rw [← ey]
  have ly : y.length ≤ 6 := by rw [← cs_len]; exact hy.2.1
  have hl27 := cands_fit y
  have hcm := cands_map y
  have hcl := cands_len y
  have hcn := cands_name hy
  have hco := cands_out (z := y) hl
  have hl26 := letters26
  obtain ⟨C, hC⟩ : ∃ C, C = cands y := ⟨_, rfl⟩
  rw [← hC] at hcm hcl hcn hco
  have e1 : (List.map (fun c => PyData.str { cps := #[c] }) letters.cps.toList) = (cs letters).map fun c => PyData.str ⟨#[c]⟩ := rfl
  rw [e1]
  obtain ⟨L, hL⟩ : ∃ L, L = cs letters := ⟨_, rfl⟩
  rw [← hL] at hcm hl27 hl26 ⊢
  refine lc_map (fun c => PyData.str ⟨#[c]⟩) (fun c => PyData.str (cutS y none (some 5) ++ (⟨#[c]⟩ : Str))) trivial L [] (by rw [hl26, sizeLine_eq, List.length_nil]; omega) (fun c _ C hC => ?_) ?_
  · have l2 : (cutS y none (some 5)).length + (⟨#[c]⟩ : Str).length ≤ sizeLine := by
      rw [← cs_len, cs_cut5, sizeLine_eq]
      show ((cs y).take 5).length + 1 ≤ _
      rw [List.length_take]
      omega
    simp [slD_str none (some 5) (show y.length ≤ sizeLine by rw [sizeLine_eq]; omega), addD_str l2]
    exact hC
  simp only [List.nil_append, st_f, val_d, Opt_some, addD_list hl27, out_n]
  rw [hcm]
  refine lc_filter (κ := [Cell.l bs2, Cell.l (List.map PyData.str fs)]) PyData.str (fun z => !decide (z ∈ fs)) PyData.str trivial C [] (by rw [hcl, sizeLine_eq, List.length_nil]; omega) (fun z hz1 C hC => ?_) ?_
  · simp
    have sh := shaped_strs hz
    have sz := (hcn z hz1).shaped
    have ei : inD true (.str z) (.list (fs.map .str)) = some (.v (.bool (!decide (z ∈ fs)))) := by
      refine (show inD true (.str z) (.list (fs.map .str)) = some (.v (.bool (!(fs.map PyData.str).any fun y => PyData.eqv y (.str z)))) from ?_).trans (by rw [any_str])
      show (if SeqAt.shaped (.str z) = true ∧ SeqAt.shaped (.list (fs.map .str)) = true then _ else none) = _
      rw [if_pos ⟨sz, sh⟩]
      rfl
    rw [ei]
    simp
    refine hC _ fun _ D hD => ?_
    simp
    exact hD
  · obtain ⟨z, zs', ez, hz1, hz2⟩ := head_filter hco
    rw [ez]
    simp
    rw [ixD_list (i := 0) (x := .str z) (atI_nat (j := 0) rfl)]
    simp
    refine ⟨by omega, ?_⟩
    have e3 : fs.map PyData.str ++ [.str z] = (fs ++ [z]).map .str := by simp
    rw [e3]
    refine k y z bs2 (hcn z hz1) hz2 (b2.mono ?_)
    simp
    omega
theorem names_loop {E : DEnds} {m : Option R} : ∀ (xs : List PyData) (fs : List Str) (bs : List PyData) (N : Int) (p4 p5 : Option R), Box N bs → N + 8 * (xs.length : Int) < 2 ^ 40 → (∀ z ∈ fs, IsName z) → fs.Nodup → fs.length + xs.length ≤ 26 →
    (∀ (fs' : List Str) (bs' : List PyData) (q4 q5 : Option R), fs'.length = fs.length + xs.length → (∀ z ∈ fs', IsName z) → fs'.Nodup → Box (N + 8 * (xs.length : Int)) bs' → E.nx [some (.c 0), m, some (.d (.str letters)), some (.c 1), q4, q5, none, none, none] [.l bs', .l (fs'.map .str)]) →
    forL (fun _ => True) (wName 4) wb_names E xs [some (.c 0), m, some (.d (.str letters)), some (.c 1), p4, p5, none, none, none] [.l bs, .l (fs.map .str)]
  | [], fs, bs, N, p4, p5, hb, hN, hz, nd, hl, k => by
    rw [forL_nil]
    exact k fs bs p4 p5 (by simp) hz nd (by simpa using hb)
  | x :: xs, fs, bs, N, p4, p5, hb, hN, hz, nd, hl, k => by
    rw [forL_cons]
    simp only [List.length_cons] at hN hl k
    refine names_body (x := some (.d x)) hb (by omega) hz (by omega) fun y z bs' hz1 hz2 hb' => ⟨trivial, ?_⟩
    refine names_loop xs (fs ++ [z]) bs' (N + 8) _ _ hb' (by omega) (fun w hw => ?_) ?_ (by simp; omega) fun fs' bs2 q4 q5 h1 h2 h3 h4 => k fs' bs2 q4 q5 (by simp at h1; omega) h2 h3 (h4.mono (by omega))
    · rcases List.mem_append.mp hw with hw | hw
      · exact hz w hw
      · rw [List.mem_singleton] at hw; rw [hw]; exact hz1
    · rw [List.nodup_append]
      refine ⟨nd, by simp, fun a ha b hb2 => ?_⟩
      rw [List.mem_singleton] at hb2
      intro e
      exact hz2 (by rw [← hb2, ← e]; exact ha)
theorem r_law_names (bs : List PyData) (rs : List R) (Pd : R → List PyData → Prop) (h : Ph_law_names bs rs Pd) (hl : rs.length = 1) : w_law_names { nx := fun _ κ => endL κ (.d .none) Pd, rt := fun r κ => endL κ r Pd } (some (.c 0) :: (rs.map some ++ List.replicate 7 none)) [.l bs] := by
  obtain ⟨N, m, hb, hN, rfl, hm, k⟩ := h
  simp [w_law_names, sizeLine_eq]
  refine ⟨by omega, ?_⟩
  refine names_loop _ [] bs N none none hb ?_ (fun z hz => nomatch hz) List.nodup_nil ?_ fun fs' bs' q4 q5 h1 h2 h3 h4 => ?_
  · simp; omega
  · simp; omega
  simp at h1
  simp
  rw [sortC_list (sortOk_strs (by rw [sizeLine_eq]; omega))]
  obtain ⟨n1, n2⟩ := sorted_names h2 h3
  rw [sort_strs]
  simp
  refine k _ _ (by rw [n2, h1]) n1 (h4.mono ?_)
  simp
  omega
end SH
namespace SH
open PySem PySem.Spec PyProof.Rows L2 DL
def GoodN : Nat → PyData → Prop
  | 0, _ => False
  | n + 1, .list xs => xs.length ≤ sizeLine ∧ ∀ x ∈ xs, GoodN n x
  | n + 1, .tuple xs => xs.length ≤ sizeLine ∧ ∀ x ∈ xs, GoodN n x
  | _ + 1, .str z => SeqAt.shaped (.str z) = true
  | _ + 1, .int _ => True
  | _ + 1, .bool _ => True
  | _ + 1, .none => True
  | _, _ => False
def Ph_law_sameN (n : Nat) (rs : List R) (P : R → Prop) : Prop := ∃ x, rs = [.d x, .d x] ∧ GoodN n x ∧ P (.d (.bool true))
theorem n_law_same {rs : List R} {P : R → Prop} (h : Ph_law_sameN 0 rs P) : False := by
  obtain ⟨x, _, g, _⟩ := h
  cases x <;> exact g.elim
/-- _law_same -/
def w_law_same (Ph_law_same : List R → (R → Prop) → Prop) : DTS := (wSeq (wIfS (wTru (wIsi2 .list .tuple (wVar 1))) (wSeq (wIfS (wOr (wB (wBin (eqD true) (wIsi .list (wVar 0)) (wIsi .list (wVar 1)))) (wB (wBin (eqD true) (wIsi .tuple (wVar 0)) (wIsi .tuple (wVar 1))))) (wRet (wC (.bool false))) wNext)
  (wRet (wAndV (wBin (eqD false) (wCB lenD (wCons (wVar 0) wNil)) (wCB lenD (wCons (wVar 1) wNil))) (wCB (allC fun bs => bs.all id) (wCons (wLc (wZip (wCons (wVar 0) (wCons (wVar 1) wNil))) (wTupG 2 (wgCons (wName 2) (wgCons (wName 3) wgNil))) wYes (wCall Ph_law_same (wCons (wVar 2) (wCons (wVar 3) wNil))) [2, 3]) wNil))))) wNext)
  (wSeq (wIfS (wOr (wB (wBin (isND false) (wVar 1) (wC .none))) (wTru (wIsi .str (wVar 1)))) (wRet (wAndV (wBin (eqD false) (wVar 0) (wVar 1)) (wBin (eqD false) (wIsi .str (wVar 0)) (wIsi .str (wVar 1))))) wNext)
  (wRet (wAndV (wIsi .int (wVar 0)) (wAndV (wBin (eqD false) (wIsi .bool (wVar 0)) (wIsi .bool (wVar 1))) (wBin (eqD false) (wVar 0) (wVar 1)))))))
theorem eqD_bool (neg a b : Bool) : eqD neg (.bool a) (.bool b) = some (.v (.bool (if neg then !(a == b) else a == b))) := by
  cases a <;> cases b <;> cases neg <;> rfl
theorem eqD_int (i : Int) : eqD false (.int i) (.int i) = some (.v (.bool true)) := by
  rw [eqD_of (by unfold SeqAt.shaped PyData.canLay0; simp [PyData.depth]) (by unfold SeqAt.shaped PyData.canLay0; simp [PyData.depth])]
  simp [PyData.eqv]
theorem eqD_str {z : Str} (h : SeqAt.shaped (.str z) = true) : eqD false (.str z) (.str z) = some (.v (.bool true)) := by
  rw [eqD_of h h]
  simp [PyData.eqv]
theorem isND_none : isND false .none .none = some (.v (.bool true)) := rfl
theorem isND_str (z : Str) : isND false (.str z) .none = some (.v (.bool false)) := rfl
theorem isND_int (i : Int) : isND false (.int i) .none = some (.v (.bool false)) := rfl
theorem isND_bool (b : Bool) : isND false (.bool b) .none = some (.v (.bool false)) := rfl
theorem eqD_none : eqD false .none .none = some (.v (.bool true)) := rfl
theorem zip_self : ∀ xs : List PyData, zipD xs xs = xs.map fun x => .tuple [x, x]
  | [] => rfl
  | x :: xs => by rw [List.map_cons, ← zip_self xs]; rfl
theorem bools_map {α : Type} (b : Bool) : ∀ xs : List α, bools (xs.map fun _ => PyData.bool b) = some (xs.map fun _ => b)
  | [] => rfl
  | x :: xs => by rw [List.map_cons]; unfold bools; rw [bools_map b xs]; rfl
theorem all_map {α : Type} (xs : List α) : allC (fun bs => bs.all id) [.list (xs.map fun _ => PyData.bool true)] = some (.v (.bool true)) := by
  unfold allC
  simp [bools_map]
theorem same_in {ok : Kap → Prop} {n : Nat} {xs : List PyData} {p q : Option R} {P : R → Kap → Prop} {κ : Kap} (hok : ok κ) (hl : xs.length ≤ sizeLine) (h : ∀ x ∈ xs, GoodN n x) (k : P (.f (xs.map fun _ => .bool true)) κ) :
    lcL ok (wTupG 2 (wgCons (wName 2) (wgCons (wName 3) wgNil))) wYes (wCall (Ph_law_sameN n) (wCons (wVar 2) (wCons (wVar 3) wNil))) [p, q, none, none] P (zipD xs xs) [] κ := by
  rw [zip_self]
  refine lc_map (fun x => .tuple [x, x]) (fun _ => .bool true) hok xs [] (by simpa using hl) (fun x hx C hC => ?_) (by simpa using k)
  simp
  exact ⟨x, rfl, h x hx, hC⟩
theorem r_law_same (n : Nat) (rs : List R) (Pd : R → Prop) (h : Ph_law_sameN (n + 1) rs Pd) (hl : rs.length = 2) : w_law_same (Ph_law_sameN n) { nx := fun _ _ => Pd (.d .none), rt := fun r κ => Opt (outR κ 0 r) Pd } (rs.map some ++ List.replicate 2 none) [] := by
  obtain ⟨x, rfl, g, k⟩ := h
  cases x with
  | list xs =>
    simp [w_law_same, isi, truth, eqD_bool, eqD_int]
    refine same_in trivial g.1 g.2 ?_
    simp [all_map]
    exact k
  | tuple xs =>
    simp [w_law_same, isi, truth, eqD_bool, eqD_int]
    refine same_in trivial g.1 g.2 ?_
    simp [all_map]
    exact k
  | none =>
    simp [w_law_same, isi, truth, eqD_bool, eqD_int, isND_none, eqD_none]
    exact k
  | str z =>
    simp [w_law_same, isi, truth, eqD_bool, eqD_int, isND_str, eqD_str g]
    exact k
  | int i =>
    simp [w_law_same, isi, truth, eqD_bool, eqD_int, isND_int]
    exact k
  | bool b =>
    simp [w_law_same, isi, truth, eqD_bool, eqD_int, isND_bool]
    exact k
  | _ => exact g.elim
end SH
namespace SH
open PySem PySem.Spec PyProof.Rows L2 DL
def kstep (r : Row) (l x : Str) : Row := r ++ [(l, x, 1)] ++ back r ++ [(l, x, -1)]
def knotL : Row → Str → List Str → Row
  | r, _, [] => r
  | r, l, x :: xs => knotL (kstep r l x) x xs
def knot : List Str → Row
  | a :: b :: ns => knotL [(a, b, 1)] b ns
  | _ => []
end SH
namespace SH
open PySem PySem.Spec PyProof.Rows L2 DL
abbrev Ph_law_same := Ph_law_sameN 8
def RowOk (r : Row) : Prop := ∀ h ∈ r, IsName h.1 ∧ IsName h.2.1
theorem RowOk.back {r : Row} (h : RowOk r) : RowOk (back r) := fun x hx => by
  obtain ⟨y, hy, rfl⟩ := List.mem_map.mp hx
  exact h y (List.mem_reverse.mp hy)
theorem RowOk.step {r : Row} {l x : Str} (h : RowOk r) (hl : IsName l) (hx : IsName x) : RowOk (kstep r l x) := fun y hy => by
  unfold kstep at hy
  simp only [List.mem_append, List.mem_singleton] at hy
  rcases hy with ((hy | rfl) | hy) | rfl
  · exact h y hy
  · exact ⟨hl, hx⟩
  · exact h.back y hy
  · exact ⟨hl, hx⟩
theorem for_each {ok : Kap → Prop} {g : DTG} {b : DTS} {E : DEnds} (Inv : Rho → Kap → Prop) (hok : ∀ κ, ok κ) : ∀ (xs : List PyData) (ρ : Rho) (κ : Kap), Inv ρ κ →
    (∀ x ∈ xs, ∀ ρ κ, Inv ρ κ → ∀ E' : DEnds, E'.rt = E.rt → E'.bk = E.nx → (∀ ρ' κ', Inv ρ' κ' → E'.nx ρ' κ') → (∀ ρ' κ', Inv ρ' κ' → E'.ct ρ' κ') → g (.d x) ρ κ fun ρ1 κ1 => b E' ρ1 κ1) →
    (∀ ρ κ, Inv ρ κ → E.nx ρ κ) → forL ok g b E xs ρ κ
  | [], ρ, κ, h, _, k => by rw [forL_nil]; exact k ρ κ h
  | x :: xs, ρ, κ, h, hb, k => by
    rw [forL_cons]
    exact hb x (List.mem_cons_self ..) ρ κ h _ rfl rfl (fun ρ' κ' h' => ⟨hok _, for_each Inv hok xs ρ' κ' h' (fun y hy => hb y (List.mem_cons_of_mem _ hy)) k⟩)
      (fun ρ' κ' h' => ⟨hok _, for_each Inv hok xs ρ' κ' h' (fun y hy => hb y (List.mem_cons_of_mem _ hy)) k⟩)
end SH
namespace DL
open PySem PySem.Spec PyProof.Rows L2
section
variable {X : Cx}
/-- the values of a dict, all known for good -/
def datM : List (Key × R) → Option (List PyData)
  | [] => some []
  | (_, .d x) :: es => match datM es with
    | some xs => some (x :: xs)
    | none => none
  | _ => none
theorem Mp.dats {K : PySem.W.Frag} {G : Hp} {As : List Addr} : ∀ {kvs : List (Key × V)} {es : List (Key × R)} {xs : List PyData}, Mp K G As kvs es → datM es = some xs → RpA K G (kvs.map (·.2)) xs
  | _, _, _, .nil, e => by cases e; exact .nil
  | _, _, _, .cons (b := en) q t, e => by
    obtain ⟨k, r⟩ := en
    cases r with
    | d x =>
      unfold datM at e
      split at e
      · rename_i ys ey
        cases e
        exact .cons q.2 (Mp.dats t ey)
      · cases e
    | _ => cases e
end
end DL
namespace SH
open PySem PySem.Spec PyProof.Rows L2 DL
abbrev KR := List (Nat × Hook)
def touches (r : Str) (h : Hook) : Bool := decide (h.1 = r) || decide (h.2.1 = r)
def posOf (r : Str) (ks : KR) : List Nat := (ks.filter fun p => touches r p.2).map (·.1)
def sStep (row : Row) (ks : KR) (i : Nat) (h : Hook) : KR :=
  match (posOf h.1 ks).getLast?, (posOf h.2.1 ks).getLast? with
  | some p, some q => if p = q ∧ row[p]? = some (turned h) then ks.filter (fun e => decide (e.1 ≠ p)) else ks ++ [(i, h)]
  | _, _ => ks ++ [(i, h)]
def sLoop (row : Row) : KR → Nat → Row → KR
  | ks, _, [] => ks
  | ks, i, h :: hs => sLoop row (sStep row ks i h) (i + 1) hs
def settledF (row : Row) : Row := (sLoop row [] 0 row).map (·.2)
/-- hooks of unlike ropes -/
def RowIn (r : Row) : Prop := ∀ h ∈ r, IsName h.1 ∧ IsName h.2.1 ∧ h.1 ≠ h.2.1
def natsD (l : List Nat) : List PyData := l.map fun (i : Nat) => .int (i : Int)
def keptE (f : Hook → PyData) (ks : KR) : List (Key × R) := ks.map fun p => (Sum.inl (p.1 : Int), R.d (f p.2))
/-- the stacks and what is kept, as they stand -/
structure SInv (f : Hook → PyData) (n : Nat) (κ : Kap) (st : List (Key × R)) (ks : KR) : Prop where
  s0 : κ[0]? = some (.m st)
  s1 : κ[1]? = some (.m (keptE f ks))
  ln : st.length ≤ n
  at_ : ∀ r j, lookM st (.inr r) = some (.c j) → 2 ≤ j ∧ κ[j]? = some (.l (natsD (posOf r ks)))
  no : ∀ r, lookM st (.inr r) = none → posOf r ks = []
  only : ∀ r x, lookM st (.inr r) = some x → ∃ j, x = .c j
  apart : ∀ r r' j, lookM st (.inr r) = some (.c j) → lookM st (.inr r') = some (.c j) → r = r'
variable {f : Hook → PyData}
theorem SInv.grow {n m : Nat} {κ : Kap} {st : List (Key × R)} {ks : KR} (I : SInv f n κ st ks) (h : n ≤ m) : SInv f m κ st ks := ⟨I.s0, I.s1, Nat.le_trans I.ln h, I.at_, I.no, I.only, I.apart⟩
/-- what is kept stands in the row at its place -/
structure KOk (row : Row) (i : Nat) (ks : KR) : Prop where
  lt : ∀ p ∈ ks, p.1 < i
  inr : ∀ p ∈ ks, row[p.1]? = some p.2
  nd : (ks.map (·.1)).Nodup
theorem posOf_app (r : Str) (ks : KR) (i : Nat) (h : Hook) : posOf r (ks ++ [(i, h)]) = if touches r h then posOf r ks ++ [i] else posOf r ks := by
  unfold posOf
  rw [List.filter_append]
  by_cases e : touches r h = true
  · rw [if_pos e, List.filter_cons_of_pos (by simpa using e)]; simp
  · rw [if_neg e, List.filter_cons_of_neg (by simpa using e)]; simp
theorem posOf_mem {r : Str} {ks : KR} {p : Nat} (h : p ∈ posOf r ks) : ∃ g, (p, g) ∈ ks ∧ touches r g = true := by
  unfold posOf at h
  obtain ⟨q, hq, rfl⟩ := List.mem_map.mp h
  obtain ⟨h1, h2⟩ := List.mem_filter.mp hq
  exact ⟨q.2, h1, h2⟩
theorem posOf_drop (r : Str) (ks : KR) (p : Nat) : posOf r (ks.filter fun e => decide (e.1 ≠ p)) = (posOf r ks).filter fun i => decide (i ≠ p) := by
  unfold posOf
  rw [List.filter_map, List.filter_filter, List.filter_filter]
  congr 1
  refine List.filter_congr fun q _ => ?_
  simp only [Function.comp_apply]
  rw [Bool.and_comm]
theorem posOf_nd {r : Str} {ks : KR} (h : (ks.map (·.1)).Nodup) : (posOf r ks).Nodup := by
  unfold posOf
  exact h.sublist (List.Sublist.map _ List.filter_sublist)
theorem filter_last {l : List Nat} {p : Nat} (nd : l.Nodup) (e : l.getLast? = some p) : l.filter (fun i => decide (i ≠ p)) = l.dropLast := by
  obtain ⟨l', rfl⟩ := List.getLast?_eq_some_iff.mp e
  rw [List.dropLast_concat, List.filter_append, List.filter_cons_of_neg (by simp)]
  rw [List.nodup_append] at nd
  have : l'.filter (fun i => decide (i ≠ p)) = l' := by
    rw [List.filter_eq_self]
    intro a ha
    exact decide_eq_true (nd.2.2 a ha p (by simp))
  rw [this]
  simp
theorem KOk.get {row : Row} {i p : Nat} {ks : KR} {r : Str} (K : KOk row i ks) (h : p ∈ posOf r ks) : ∃ g, (p, g) ∈ ks ∧ row[p]? = some g ∧ touches r g = true ∧ p < i := by
  obtain ⟨g, h1, h2⟩ := posOf_mem h
  exact ⟨g, h1, K.inr _ h1, h2, K.lt _ h1⟩
theorem KOk.app {row : Row} {i : Nat} {ks : KR} {h : Hook} (K : KOk row i ks) (e : row[i]? = some h) : KOk row (i + 1) (ks ++ [(i, h)]) where
  lt := fun p hp => by
    rcases List.mem_append.mp hp with hp | hp
    · have := K.lt p hp; omega
    · rw [List.mem_singleton.mp hp]; exact Nat.lt_succ_self _
  inr := fun p hp => by
    rcases List.mem_append.mp hp with hp | hp
    · exact K.inr p hp
    · rw [List.mem_singleton.mp hp]; exact e
  nd := by
    rw [List.map_append, List.nodup_append]
    refine ⟨K.nd, by simp, fun a ha b hb => ?_⟩
    obtain ⟨q, hq, rfl⟩ := List.mem_map.mp ha
    have := K.lt q hq
    simp at hb
    omega
theorem KOk.del {row : Row} {i p : Nat} {ks : KR} (K : KOk row i ks) : KOk row (i + 1) (ks.filter fun e => decide (e.1 ≠ p)) where
  lt := fun q hq => by have := K.lt q (List.mem_filter.mp hq).1; omega
  inr := fun q hq => K.inr q (List.mem_filter.mp hq).1
  nd := K.nd.sublist (List.Sublist.map _ List.filter_sublist)
end SH
namespace SH
open PySem PySem.Spec PyProof.Rows L2 DL
theorem SInv.upd {f : Hook → PyData} {n : Nat} {κ κ' : Kap} {st : List (Key × R)} {ks ks' : KR} (I : SInv f n κ st ks) (h0 : κ'[0]? = κ[0]?) (h1 : κ'[1]? = some (.m (keptE f ks'))) (ha : ∀ r j, lookM st (.inr r) = some (.c j) → κ'[j]? = some (.l (natsD (posOf r ks'))))
    (hn : ∀ r, lookM st (.inr r) = none → posOf r ks' = []) : SInv f n κ' st ks' :=
  ⟨h0.trans I.s0, h1, I.ln, fun r j h => ⟨(I.at_ r j h).1, ha r j h⟩, hn, I.only, I.apart⟩
theorem natsD_snoc (l : List Nat) (i : Nat) : natsD l ++ [.int (i : Int)] = natsD (l ++ [i]) := by unfold natsD; rw [List.map_append]; rfl
theorem SInv.app {f : Hook → PyData} {n i : Nat} {κ : Kap} {st : List (Key × R)} {ks : KR} {h : Hook} {j1 j2 : Nat} (I : SInv f n κ st ks) (l1 : lookM st (.inr h.1) = some (.c j1)) (l2 : lookM st (.inr h.2.1) = some (.c j2)) :
    SInv f n (((κ.set j1 (Cell.l (natsD (posOf h.1 ks) ++ [.int (i : Int)]))).set j2 (Cell.l (natsD (posOf h.2.1 ks) ++ [.int (i : Int)]))).set 1 (Cell.m (keptE f (ks ++ [(i, h)])))) st (ks ++ [(i, h)]) := by
  obtain ⟨g1, a1⟩ := I.at_ _ _ l1
  obtain ⟨g2, a2⟩ := I.at_ _ _ l2
  have b2 : ((κ.set j1 (Cell.l (natsD (posOf h.1 ks) ++ [.int (i : Int)]))).set j2 (Cell.l (natsD (posOf h.2.1 ks) ++ [.int (i : Int)])))[1]? = some (.m (keptE f ks)) := by
    rw [List.getElem?_set_ne (by omega), List.getElem?_set_ne (by omega)]; exact I.s1
  refine I.upd ?_ ?_ (fun r j lr => ?_) fun r lr => ?_
  · rw [List.getElem?_set_ne (by decide), List.getElem?_set_ne (by omega), List.getElem?_set_ne (by omega)]
  · rw [List.getElem?_set_self]
    have := (List.getElem?_eq_some_iff.mp b2).1
    exact this
  · obtain ⟨gj, aj⟩ := I.at_ r j lr
    rw [List.getElem?_set_ne (by omega), posOf_app]
    by_cases e2 : j = j2
    · subst e2
      have er := I.apart _ _ _ lr l2
      subst er
      rw [List.getElem?_set_self (by rw [List.length_set]; exact (List.getElem?_eq_some_iff.mp a2).1), if_pos (by simp [touches]), natsD_snoc]
    · rw [List.getElem?_set_ne (fun z => e2 z.symm)]
      by_cases e1 : j = j1
      · subst e1
        have er := I.apart _ _ _ lr l1
        subst er
        rw [List.getElem?_set_self (List.getElem?_eq_some_iff.mp a1).1, if_pos (by simp [touches]), natsD_snoc]
      · rw [List.getElem?_set_ne (fun z => e1 z.symm), aj, if_neg]
        intro ht
        unfold touches at ht
        rw [Bool.or_eq_true] at ht
        rcases ht with ht | ht
        · have := of_decide_eq_true ht
          subst this
          rw [l1] at lr; cases lr; exact e1 rfl
        · have := of_decide_eq_true ht
          subst this
          rw [l2] at lr; cases lr; exact e2 rfl
  · rw [posOf_app, if_neg, I.no r lr]
    intro ht
    unfold touches at ht
    rw [Bool.or_eq_true] at ht
    rcases ht with ht | ht
    · have := of_decide_eq_true ht
      subst this
      rw [l1] at lr; cases lr
    · have := of_decide_eq_true ht
      subst this
      rw [l2] at lr; cases lr
theorem SInv.del {f : Hook → PyData} {n i p : Nat} {κ : Kap} {st : List (Key × R)} {ks : KR} {h g : Hook} {row : Row} {j1 j2 : Nat} (I : SInv f n κ st ks) (K : KOk row i ks) (l1 : lookM st (.inr h.1) = some (.c j1)) (l2 : lookM st (.inr h.2.1) = some (.c j2)) (hne : h.1 ≠ h.2.1)
    (e1 : (posOf h.1 ks).getLast? = some p) (e2 : (posOf h.2.1 ks).getLast? = some p) (hg : (p, g) ∈ ks) (hgt : g = turned h) :
    SInv f n (((κ.set j1 (Cell.l (natsD (posOf h.1 ks).dropLast))).set 1 (Cell.m (keptE f (ks.filter fun e => decide (e.1 ≠ p))))).set j2 (Cell.l (natsD (posOf h.2.1 ks).dropLast))) st (ks.filter fun e => decide (e.1 ≠ p)) := by
  obtain ⟨g1, a1⟩ := I.at_ _ _ l1
  obtain ⟨g2, a2⟩ := I.at_ _ _ l2
  have j12 : j1 ≠ j2 := fun e => by
    subst e
    exact hne (I.apart _ _ _ l1 l2)
  have b1 : (κ.set j1 (Cell.l (natsD (posOf h.1 ks).dropLast)))[1]? = some (.m (keptE f ks)) := by rw [List.getElem?_set_ne (by omega)]; exact I.s1
  have b2 : ((κ.set j1 (Cell.l (natsD (posOf h.1 ks).dropLast))).set 1 (Cell.m (keptE f (ks.filter fun e => decide (e.1 ≠ p)))))[j2]? = some (.l (natsD (posOf h.2.1 ks))) := by
    rw [List.getElem?_set_ne (by omega), List.getElem?_set_ne j12]; exact a2
  have nd := K.nd
  have fl1 : (posOf h.1 ks).filter (fun i => decide (i ≠ p)) = (posOf h.1 ks).dropLast := filter_last (posOf_nd nd) e1
  have fl2 : (posOf h.2.1 ks).filter (fun i => decide (i ≠ p)) = (posOf h.2.1 ks).dropLast := filter_last (posOf_nd nd) e2
  refine I.upd ?_ ?_ (fun r j lr => ?_) fun r lr => ?_
  · rw [List.getElem?_set_ne (by omega), List.getElem?_set_ne (by decide), List.getElem?_set_ne (by omega)]
  · rw [List.getElem?_set_ne (by omega), List.getElem?_set_self (by
      have := (List.getElem?_eq_some_iff.mp b1).1
      exact this)]
  · obtain ⟨gj, aj⟩ := I.at_ r j lr
    rw [posOf_drop]
    by_cases q2 : j = j2
    · subst q2
      have er := I.apart _ _ _ lr l2
      subst er
      rw [List.getElem?_set_self (by have := (List.getElem?_eq_some_iff.mp b2).1; exact this), fl2]
    · rw [List.getElem?_set_ne (fun z => q2 z.symm), List.getElem?_set_ne (by omega)]
      by_cases q1 : j = j1
      · subst q1
        have er := I.apart _ _ _ lr l1
        subst er
        rw [List.getElem?_set_self (List.getElem?_eq_some_iff.mp a1).1, fl1]
      · rw [List.getElem?_set_ne (fun z => q1 z.symm), aj]
        have : (posOf r ks).filter (fun i => decide (i ≠ p)) = posOf r ks := by
          rw [List.filter_eq_self]
          intro a ha
          refine decide_eq_true fun z => ?_
          subst z
          obtain ⟨g', hg', ht⟩ := posOf_mem ha
          have eg : g' = g := by
            have x1 := K.inr _ hg'
            have x2 := K.inr _ hg
            rw [x1] at x2
            exact Option.some.inj x2
          rw [eg, hgt] at ht
          unfold touches turned at ht
          rw [Bool.or_eq_true] at ht
          rcases ht with ht | ht
          · have ht := of_decide_eq_true ht
            have ht : h.1 = r := ht
            subst ht
            rw [l1] at lr; cases lr; exact q1 rfl
          · have ht := of_decide_eq_true ht
            have ht : h.2.1 = r := ht
            subst ht
            rw [l2] at lr; cases lr; exact q2 rfl
        rw [this]
  · rw [posOf_drop, I.no r lr]
    rfl
theorem eqD_int3 (i j : Int) : eqD false (.int i) (.int j) = some (.v (.bool (decide (i = j)))) := by
  rw [eqD_of (by unfold SeqAt.shaped PyData.canLay0; simp [PyData.depth]) (by unfold SeqAt.shaped PyData.canLay0; simp [PyData.depth])]
  have e : PyData.eqv (.int i) (.int j) = decide (i = j) := by
    rw [PyData.eqv]
    by_cases q : i = j <;> simp [q]
  rw [e]
  rfl
theorem sStep_true {row : Row} {ks : KR} {i p : Nat} {h : Hook} (e1 : (posOf h.1 ks).getLast? = some p) (e2 : (posOf h.2.1 ks).getLast? = some p) (e3 : row[p]? = some (turned h)) : sStep row ks i h = ks.filter fun e => decide (e.1 ≠ p) := by
  unfold sStep
  rw [e1, e2]
  simp only
  rw [if_pos ⟨trivial, e3⟩]
theorem sStep_false {row : Row} {ks : KR} {i : Nat} {h : Hook} (e : ¬ ∃ p, (posOf h.1 ks).getLast? = some p ∧ (posOf h.2.1 ks).getLast? = some p ∧ row[p]? = some (turned h)) : sStep row ks i h = ks ++ [(i, h)] := by
  unfold sStep
  cases e1 : (posOf h.1 ks).getLast? with
  | none => rfl
  | some p =>
    cases e2 : (posOf h.2.1 ks).getLast? with
    | none => rfl
    | some q =>
      simp only
      rw [if_neg]
      intro z
      obtain ⟨z1, z2⟩ := z
      subst z1
      exact e ⟨p, e1, e2, z2⟩
theorem sStep_ok {row : Row} {ks : KR} {i : Nat} {h : Hook} (K : KOk row i ks) (e : row[i]? = some h) : KOk row (i + 1) (sStep row ks i h) := by
  by_cases q : ∃ p, (posOf h.1 ks).getLast? = some p ∧ (posOf h.2.1 ks).getLast? = some p ∧ row[p]? = some (turned h)
  · obtain ⟨p, e1, e2, e3⟩ := q
    rw [sStep_true e1 e2 e3]
    exact K.del
  · rw [sStep_false q]
    exact K.app e
theorem nd_len : ∀ (i : Nat) (l : List Nat), l.Nodup → (∀ x ∈ l, x < i) → l.length ≤ i
  | 0, [], _, _ => Nat.le_refl _
  | 0, x :: l, _, h => absurd (h x (List.mem_cons_self ..)) (by omega)
  | i + 1, l, nd, h => by
    have ih := nd_len i (l.erase i) (nd.sublist List.erase_sublist) fun x hx => by
      have h1 := h x (List.mem_of_mem_erase hx)
      have h2 : x ≠ i := fun e => by
        subst e
        exact nd.not_mem_erase hx
      omega
    by_cases hm : i ∈ l
    · rw [List.length_erase_of_mem hm] at ih
      omega
    · rw [List.erase_of_not_mem hm] at ih
      omega
theorem KOk.len {row : Row} {i : Nat} {ks : KR} (K : KOk row i ks) : ks.length ≤ i := by
  have := nd_len i (ks.map (·.1)) K.nd fun x hx => by
    obtain ⟨q, hq, rfl⟩ := List.mem_map.mp hx
    exact K.lt q hq
  rwa [List.length_map] at this
end SH
namespace DL
open PySem PySem.Spec PyProof.Rows L2
/-- xs.pop(i), i from the front -/
def wPop1 (wo wi : DTE) : DTE := fun ρ κ P => wo ρ κ fun ro κ1 => match ro with
  | .c k => (∃ zs, κ1[k]? = some (.l zs)) ∧ wi ρ κ1 fun ri κ2 => match ri, κ2[k]? with
    | .d (.int i), some (.l xs) => 0 ≤ i ∧ i < 2 ^ 62 ∧ Opt (xs[i.toNat]?) fun y => P (.d y) (κ2.set k (Cell.l (xs.eraseIdx i.toNat)))
    | _, _ => False
  | _ => False
theorem RpA.erase {K : PySem.W.Frag} {G : Hp} : ∀ {vs : List V} {ds : List PyData} (i : Nat), RpA K G vs ds → RpA K G (vs.eraseIdx i) (ds.eraseIdx i)
  | _, _, _, .nil => .nil
  | _, _, 0, .cons _ t => t
  | _, _, i + 1, .cons r t => .cons r (RpA.erase i t)
section
variable {X : Cx} {o e : Expr} {wo we : DTE} {apos cpos : Pos}
theorem de_pop1 (ho : DE X o wo) (ha : DE X e we) (hbase : attributeBase o "pop" X.env (eval o X.env) = eval o X.env := by rfl)
    (hfew : ((backTo cpos (starEach [e] X.env)).all (fun x => !x.1) && (backToKw cpos (keywordEach [] X.env)).all (fun x => x.1.isSome) && decide (([e] : List Expr).length + ([] : List Keyword).length + (if ([] : List Keyword).isEmpty then 0 else 1) < 30)) = true := by rfl)
    (hline : (apos.endLine == cpos.line) = true := by rfl) (hs : starEach [e] X.env = (false, eval e X.env) :: starEach [] X.env := by rfl) (hplain : (backTo cpos (starEach [] X.env)).any (·.1) = false := by rfl) :
    DE X (.Call (.Attribute o "pop" apos) [e] [] cpos) (wPop1 wo we) := by
  obtain ⟨to, po, ho⟩ := ho
  obtain ⟨ta, pa, ha⟩ := ha
  refine ⟨_, pe_bm PySem.F.plainAttrs_list PySem.F.slot_list_pop PySem.F.type_list_pop mt_popAt po (pa_cons pa pa_nil hs) hbase hfew hline hs hplain, fun G H As σ ρ κ P Q c p w k => ?_⟩
  refine ho G H As σ ρ κ _ _ c p w fun v1 r1 G1 H1 As1 κ1 s1 c1 p1 i1 w1 => ?_
  cases r1 with
  | c kk =>
    obtain ⟨l, hl, rfl⟩ := i1
    obtain ⟨⟨zs, ez⟩, w1⟩ := w1
    obtain ⟨_, zv, z2, _⟩ := c1.ok kk _ l ez hl
    refine ⟨.inl ⟨rfl, zv, sql_of z2⟩, ?_⟩
    refine ha G1 H1 As1 σ ρ κ1 _ _ c1 p1 w1 fun v2 r2 G2 H2 As2 κ2 s2 c2 p2 i2 w2 => ?_
    split at w2
    · rename_i o1 o2 i xs hk
      obtain ⟨h0, h1, w3⟩ := w2
      obtain ⟨y, ey, w4⟩ := w3.ex
      have i2 : Rp X.K G2 v2 (.int i) := i2
      cases i2
      obtain ⟨bs, eb⟩ := s2.pre
      have hl2 : As2[kk]? = some l := by rw [eb, List.getElem?_append_left (List.getElem?_eq_some_iff.mp hl).1]; exact hl
      obtain ⟨g0, vs, hq, rp⟩ := c2.ok kk _ l hk hl2
      obtain ⟨v, e1, e2⟩ := rp.get ey
      have hlt : i.toNat < vs.length := (List.getElem?_eq_some_iff.mp e1).1
      refine ⟨l, vs, i, i.toNat, v, rfl, rfl, hq, by omega, by omega, seqIndex_of h0 (by omega), e1, ?_⟩
      have sw : Step G2 H2 As2 G2 (upd H2 l (.lst (vs.eraseIdx i.toNat))) As2 := Step.write (List.mem_of_getElem? hl2) hq
      have sa := (s1.trans s2).trans sw
      exact k v (.d y) G2 _ As2 _ sa (c2.write hk hl2 (rp.erase _)) (p.step sa) e2 w4
    · exact w2.elim
  | _ => exact w1.elim
end
end DL
namespace DL
open PySem PySem.Spec PyProof.Rows L2
def wPar3 (i j l : Nat) (wa : DTA) : DTS := fun E ρ κ => wa ρ κ fun rs κ1 => match rs with
  | [q1, q2, q3] => E.nx (((ρ.set i (some q1)).set j (some q2)).set l (some q3)) κ1
  | _ => False
section
variable {X : Cx} {a b c : Expr} {wr : DTA} {pos : Pos}
end
end DL
namespace SH
open PySem PySem.Spec PyProof.Rows L2 DL
/-- a hook of these names -/
def HookOf (ns : List Str) (h : Hook) : Prop := h.1 ∈ ns ∧ h.2.1 ∈ ns ∧ cs h.1 < cs h.2.1 ∧ (h.2.2 = 1 ∨ h.2.2 = -1)
def Ph_law_hook (bs : List PyData) (rs : List R) (P : R → List PyData → Prop) : Prop := ∃ (N : Int) (ns : List Str), Box N bs ∧ N ≤ 2 ^ 39 ∧ rs = [.d (.list (ns.map .str))] ∧ 2 ≤ ns.length ∧ ns.length ≤ 1000 ∧ Names ns ∧ ∀ (h : Hook) (bs' : List PyData), HookOf ns h → Box (N + 3) bs' → P (.d (hookD h)) bs'
def Ph_law_some (bs : List PyData) (rs : List R) (P : R → List PyData → Prop) : Prop := ∃ (N : Int) (ns : List Str) (few : Nat), Box N bs ∧ N ≤ 2 ^ 39 ∧ rs = [.d (.list (ns.map .str)), .d (.int few)] ∧ few ≤ ns.length ∧ ns.length ≤ 1000 ∧ Names ns ∧
  ∀ (ms : List Str) (bs' : List PyData), Names ms → few ≤ ms.length → ms.length ≤ ns.length → (∀ z ∈ ms, z ∈ ns) → Box (N + 1001) bs' → P (.f (ms.map .str)) bs'
def wb_some : DTS := (wDrop (wAppend (wVar 4) (wPop1 (wVar 3) (wCallL Ph_law_take (wCons (wVar 0) (wCons (wCB lenD (wCons (wVar 3) wNil)) wNil))))))
/-- _law_some -/
def w_law_some : DTS := (wSeq (wPar 3 4 (wConsM true (wCB listC (wCons (wVar 1) wNil)) (wConsM true (wLst wNil) wNil)))
  (wSeq (wFor (wRng1 (wCons (wBin addD (wVar 2) (wCallL Ph_law_take (wCons (wVar 0) (wCons (wBin addD (wBin subD (wCB lenD (wCons (wVar 1) wNil)) (wVar 2)) (wC (.int 1))) wNil)))) wNil)) (wName 5) wb_some)
  (wRet (wCB sortC (wCons (wVar 4) wNil)))))
@[simp] theorem s_pop1 (wo wi : DTE) (ρ : Rho) (κ : Kap) (P : R → Kap → Prop) : wPop1 wo wi ρ κ P = wo ρ κ fun ro κ1 => match ro with
  | .c k => (∃ zs, κ1[k]? = some (.l zs)) ∧ wi ρ κ1 fun ri κ2 => match ri, κ2[k]? with
    | .d (.int i), some (.l xs) => 0 ≤ i ∧ i < 2 ^ 62 ∧ Opt (xs[i.toNat]?) fun y => P (.d y) (κ2.set k (Cell.l (xs.eraseIdx i.toNat)))
    | _, _ => False
  | _ => False := rfl
theorem erase_map {α β : Type} (f : α → β) : ∀ (xs : List α) (i : Nat), (xs.map f).eraseIdx i = (xs.eraseIdx i).map f
  | [], _ => rfl
  | _ :: _, 0 => rfl
  | x :: xs, i + 1 => by
    show f x :: (xs.map f).eraseIdx i = f x :: (xs.eraseIdx i).map f
    rw [erase_map f xs i]
theorem el_perm {α : Type} : ∀ (st : List α) (i : Nat) (hi : i < st.length), (st[i] :: st.eraseIdx i).Perm st
  | x :: st, 0, _ => List.Perm.refl _
  | x :: st, i + 1, hi => by
    have ih := el_perm st i (by simpa using hi)
    exact (List.Perm.swap x _ _).trans (ih.cons x)
theorem val_c2 (c d : Cell) (xs : List PyData) (κ : Kap) : val (c :: d :: .l xs :: κ) (.c 2) = some (.list xs) := rfl
theorem some_loop {E : DEnds} {p1 p2 : Option R} {ns : List Str} (hns : ns.length ≤ 1000) : ∀ (xs : List PyData) (st fs : List Str) (bs : List PyData) (N : Int) (p5 : Option R), Box N bs → N + (xs.length : Int) < 2 ^ 40 → xs.length ≤ st.length → (fs ++ st).Perm ns →
    (∀ (st' fs' : List Str) (bs' : List PyData) (p5 : Option R), (fs' ++ st').Perm ns → fs'.length = fs.length + xs.length → Box (N + (xs.length : Int)) bs' → E.nx [some (.c 0), p1, p2, some (.c 1), some (.c 2), p5] [.l bs', .l (st'.map .str), .l (fs'.map .str)]) →
    forL (fun _ => True) (wName 5) wb_some E xs [some (.c 0), p1, p2, some (.c 1), some (.c 2), p5] [.l bs, .l (st.map .str), .l (fs.map .str)]
  | [], st, fs, bs, N, p5, hb, _, _, hp, k => by
    rw [forL_nil]
    exact k st fs bs p5 hp (by simp) (by simpa using hb)
  | x :: xs, st, fs, bs, N, p5, hb, hN, hl, hp, k => by
    rw [forL_cons]
    simp only [List.length_cons] at hN hl k
    have hlen : fs.length + st.length = ns.length := by
      have := hp.length_eq
      simpa using this
    simp [wb_some]
    refine ⟨N, st.length, hb, by omega, rfl, by omega, by omega, fun r bs' r0 r1 hb' => ?_⟩
    obtain ⟨i, rfl⟩ : ∃ i : Nat, r = (i : Int) := ⟨r.toNat, by omega⟩
    have hi : i < st.length := by omega
    have e1 : (st.map PyData.str)[i]? = some (.str st[i]) := by rw [List.getElem?_map, List.getElem?_eq_getElem hi]; rfl
    simp [e1, erase_map]
    refine ⟨by omega, by rw [sizeLine_eq]; omega, ?_⟩
    have e2 : fs.map PyData.str ++ [.str st[i]] = (fs ++ [st[i]]).map .str := by simp
    rw [e2]
    have pm : (fs ++ [st[i]] ++ st.eraseIdx i).Perm ns := by
      refine List.Perm.trans ?_ hp
      rw [List.append_assoc]
      refine List.Perm.append_left fs ?_
      exact el_perm st i hi
    refine some_loop hns xs (st.eraseIdx i) (fs ++ [st[i]]) bs' (N + 1) _ hb' (by omega) ?_ pm fun st' fs' bs2 p5 q1 q2 q3 => k st' fs' bs2 p5 q1 (by simp at q2; omega) (q3.mono (by omega))
    rw [List.length_eraseIdx, if_pos hi]
    omega
theorem r_law_some (bs : List PyData) (rs : List R) (Pd : R → List PyData → Prop) (h : Ph_law_some bs rs Pd) (hl : rs.length = 2) : w_law_some { nx := fun _ κ => endL κ (.d .none) Pd, rt := fun r κ => endL κ r Pd } (some (.c 0) :: (rs.map some ++ List.replicate 3 none)) [.l bs] := by
  obtain ⟨N, ns, few, hb, hN, rfl, hf, hl1, hn, k⟩ := h
  clear hl
  simp [w_law_some, sizeLine_eq]
  refine ⟨N, (ns.length : Int) - few + 1, hb, by omega, rfl, by omega, by omega, fun r bs1 r0 r1 hb1 => ?_⟩
  simp
  obtain ⟨m, hm⟩ : ∃ m : Nat, (few : Int) + r = (m : Int) := ⟨((few : Int) + r).toNat, by omega⟩
  rw [hm]
  refine ⟨by omega, by omega, ?_⟩
  have e0 : ([] : List PyData) = (([] : List Str).map .str) := rfl
  rw [e0]
  refine some_loop (ns := ns) hl1 _ ns [] bs1 (N + 1) _ hb1 (by simp; omega) (by simp; omega) (List.Perm.refl _) fun st' fs' bs2 p5 q1 q2 q3 => ?_
  simp at q2
  have nd : (fs' ++ st').Nodup := q1.nodup_iff.mpr (hn.2.imp fun {a b} z e => by subst e; exact absurd z (List.lt_irrefl _))
  have nd1 : fs'.Nodup := (List.nodup_append.mp nd).1
  have sub : ∀ z ∈ fs', z ∈ ns := fun z hz => q1.mem_iff.mp (List.mem_append_left _ hz)
  have ll := q1.length_eq
  rw [List.length_append] at ll
  obtain ⟨n1, n2⟩ := sorted_names (fun z hz => hn.1 z (sub z hz)) nd1
  simp [val_c2]
  rw [sortC_list (sortOk_strs (by rw [sizeLine_eq]; omega)), sort_strs]
  simp
  refine k _ bs2 n1 (by omega) (by omega) (fun z hz => sub z ((List.mergeSort_perm _ _).mem_iff.mp hz)) (q3.mono (by simp; omega))
end SH
namespace SH
open PySem PySem.Spec PyProof.Rows L2 DL
def RowOf (ns : List Str) (r : Row) : Prop := ∀ h ∈ r, HookOf ns h
theorem HookOf.turn {ns : List Str} {h : Hook} (a : HookOf ns h) : HookOf ns (turned h) := ⟨a.1, a.2.1, a.2.2.1, by
  show -h.2.2 = 1 ∨ -h.2.2 = -1
  rcases a.2.2.2 with e | e <;> rw [e] <;> simp⟩
theorem RowOf.back {ns : List Str} {r : Row} (a : RowOf ns r) : RowOf ns (back r) := fun x hx => by
  obtain ⟨y, hy, rfl⟩ := List.mem_map.mp hx
  exact (a y (List.mem_reverse.mp hy)).turn
theorem RowOf.app {ns : List Str} {r q : Row} (a : RowOf ns r) (b : RowOf ns q) : RowOf ns (r ++ q) := fun x hx => by
  rcases List.mem_append.mp hx with h | h
  · exact a x h
  · exact b x h
theorem RowOf.mono {ns ms : List Str} {r : Row} (a : RowOf ms r) (h : ∀ z ∈ ms, z ∈ ns) : RowOf ns r := fun x hx => ⟨h _ (a x hx).1, h _ (a x hx).2.1, (a x hx).2.2⟩
theorem knotL_of {ns : List Str} : ∀ (xs : List Str) (r : Row) (l : Str), RowOf ns r → l ∈ ns → (∀ z ∈ xs, z ∈ ns) → (l :: xs).Pairwise (fun x y => cs x < cs y) → RowOf ns (knotL r l xs)
  | [], r, l, h, _, _, _ => h
  | x :: xs, r, l, h, hl, hn, hp => by
    rw [knotL]
    have hp' := List.pairwise_cons.mp hp
    have hx := hn x (List.mem_cons_self ..)
    have one : HookOf ns (l, x, 1) := ⟨hl, hx, hp'.1 x (List.mem_cons_self ..), .inl rfl⟩
    have two : HookOf ns (l, x, -1) := ⟨hl, hx, hp'.1 x (List.mem_cons_self ..), .inr rfl⟩
    refine knotL_of xs _ x ?_ hx (fun z hz => hn z (List.mem_cons_of_mem _ hz)) hp'.2
    unfold kstep
    refine ((h.app fun y hy => ?_).app h.back).app fun y hy => ?_
    · rw [List.mem_singleton.mp hy]; exact one
    · rw [List.mem_singleton.mp hy]; exact two
theorem knot_of {a b : Str} {xs : List Str} (h : Names (a :: b :: xs)) : RowOf (a :: b :: xs) (knot (a :: b :: xs)) := by
  have hp := List.pairwise_cons.mp h.2
  refine knotL_of xs _ b (fun y hy => ?_) (by simp) (fun z hz => by simp [hz]) hp.2
  rw [List.mem_singleton.mp hy]
  exact ⟨by simp, by simp, hp.1 b (List.mem_cons_self ..), .inl rfl⟩
@[simp] theorem s_par3 (i j l : Nat) (wa : DTA) (E : DEnds) (ρ : Rho) (κ : Kap) : wPar3 i j l wa E ρ κ = wa ρ κ fun rs κ1 => match rs with
  | [q1, q2, q3] => E.nx (((ρ.set i (some q1)).set j (some q2)).set l (some q3)) κ1
  | _ => False := rfl
theorem eqD_ii (i j : Int) : eqD false (.int i) (.int j) = some (.v (.bool (decide (i = j)))) := by
  rw [eqD_of (by unfold SeqAt.shaped PyData.canLay0; simp [PyData.depth]) (by unfold SeqAt.shaped PyData.canLay0; simp [PyData.depth])]
  have e : PyData.eqv (.int i) (.int j) = decide (i = j) := by
    rw [PyData.eqv]
    by_cases q : i = j <;> simp [q]
  rw [e]
  rfl
theorem cut_take {α : Type} (xs : List α) (m : Nat) : cut xs none (some (m : Int)) = xs.take m := by
  unfold cut
  rw [show HT.sIx xs.length xs.length (some (m : Int)) = min m xs.length from HT.sIx_nat _ _ m, HT.sIx_none, List.drop_zero, Nat.sub_zero]
  rcases Nat.le_total m xs.length with h | h
  · rw [Nat.min_eq_left h]
  · rw [Nat.min_eq_right h, List.take_of_length_le (Nat.le_refl _), List.take_of_length_le h]
end SH
namespace SH
open PySem PySem.Spec PyProof.Rows L2 DL
theorem cut_sub {α : Type} (xs : List α) (lo hi : Option Int) : (∀ y ∈ cut xs lo hi, y ∈ xs) ∧ (cut xs lo hi).length ≤ xs.length := by
  unfold cut
  refine ⟨fun y hy => List.mem_of_mem_drop (List.mem_of_mem_take hy), ?_⟩
  rw [List.length_take, List.length_drop]
  omega
end SH
namespace DL
open PySem PySem.Spec PyProof.Rows L2
section
variable {prog : Program} {w : World} {A : Around} {E : Value → Shared → Prop} {s : Shared}
end
section
variable {X : Cx}
end
end DL
namespace DL
open PySem PySem.Spec PyProof.Rows L2
section
variable {X : Cx} {o i e : Expr} {wo wi we : DTE} {pos tpos : Pos}
/-- d[k], it is there -/
def wGetD (wo wi : DTE) : DTE := fun ρ κ P => wo ρ κ fun ro κ1 => match ro with
  | .c d => wi ρ κ1 fun ri κ2 => match ri, κ2[d]? with
    | .d x, some (.m es) => Opt (keyD x) fun q => Opt (lookM es q) fun r => P r κ2
    | _, _ => False
  | _ => False
theorem de_getD (hu : X.A.units + 65 < cLine) (ho : DE X o wo) (hi : DE X i wi) (hs : NoSl i := by intro _ _; rfl) : DE X (.Subscript o i pos) (wGetD wo wi) := by
  obtain ⟨to, po, ho⟩ := ho
  obtain ⟨ti, pi, hi⟩ := hi
  refine ⟨_, pe_dget (by omega) po pi hs, fun G H As σ ρ κ P Q c p w k => ?_⟩
  refine ho G H As σ ρ κ _ _ c p w fun v1 r1 G1 H1 As1 κ1 s1 c1 p1 i1 w1 => ?_
  cases r1 with
  | c kk =>
    obtain ⟨l, hl, rfl⟩ := i1
    refine hi G1 H1 As1 σ ρ κ1 _ _ c1 p1 w1 fun v2 r2 G2 H2 As2 κ2 s2 c2 p2 i2 w2 => ?_
    split at w2
    · rename_i o1 o2 y es hk
      obtain ⟨q, eq, w3⟩ := w2.ex
      obtain ⟨rr, lk, w4⟩ := w3.ex
      have i2 : Rp X.K G2 v2 y := i2
      have ek := key_rel eq i2
      obtain ⟨bs, eb⟩ := s2.pre
      have hl2 : As2[kk]? = some l := by rw [eb, List.getElem?_append_left (List.getElem?_eq_some_iff.mp hl).1]; exact hl
      obtain ⟨g0, kvs, hq, mp⟩ := c2.ok kk _ l hk hl2
      obtain ⟨v', z1, z2⟩ := mp.look lk
      refine ⟨l, v', rfl, by rw [ek, ← z1]; exact DGet.k hq, ?_⟩
      have sa := s1.trans s2
      cases rr with
      | f ys => exact z2.elim
      | d y => exact k v' (.d y) G2 H2 As2 κ2 sa c2 p2 z2 w4
      | c j => exact k v' (.c j) G2 H2 As2 κ2 sa c2 p2 z2 w4
      | s y => exact k v' (.s y) G2 H2 As2 κ2 sa c2 p2 z2 w4
      | p y => exact k v' (.p y) G2 H2 As2 κ2 sa c2 p2 z2 w4
      | b y => exact k v' (.b y) G2 H2 As2 κ2 sa c2 p2 z2 w4
      | h y => exact k v' (.h y) G2 H2 As2 κ2 sa c2 p2 z2 w4
      | g y => exact k v' (.g y) G2 H2 As2 κ2 sa c2 p2 z2 w4
      | q y => exact k v' (.q y) G2 H2 As2 κ2 sa c2 p2 z2 w4
      | o y => exact k v' (.o y) G2 H2 As2 κ2 sa c2 p2 z2 w4
    · exact w2.elim
  | _ => exact w1.elim
end
end DL
namespace SH
open PySem PySem.Spec PyProof.Rows L2 DL
end SH
namespace SH
open PySem PySem.Spec PyProof.Rows L2 DL
/-- the hooks of a row with their places -/
def enR : Nat → Row → KR
  | _, [] => []
  | i, h :: hs => (i, h) :: enR (i + 1) hs
def ltN (a b : Str) : Prop := a.cps.toList < b.cps.toList
instance (a b : Str) : Decidable (ltN a b) := inferInstanceAs (Decidable (a.cps.toList < b.cps.toList))
def ltH (g h : Hook) : Prop := ltN g.1 h.1 ∨ (¬ ltN h.1 g.1 ∧ (ltN g.2.1 h.2.1 ∨ (¬ ltN h.2.1 g.2.1 ∧ g.2.2 < h.2.2)))
instance (g h : Hook) : Decidable (ltH g h) := by unfold ltH; infer_instance
theorem lex_i (i j : Int) (r t : List (Int ⊕ List Nat)) : PyProof.Rows.lexLt PyProof.Rows.itemOrd (Sum.inl i :: r) (Sum.inl j :: t) = (decide (i < j) || (!decide (j < i) && PyProof.Rows.lexLt PyProof.Rows.itemOrd r t)) := rfl
theorem lex_s (i j : List Nat) (r t : List (Int ⊕ List Nat)) : PyProof.Rows.lexLt PyProof.Rows.itemOrd (Sum.inr i :: r) (Sum.inr j :: t) = (decide (i < j) || (!decide (j < i) && PyProof.Rows.lexLt PyProof.Rows.itemOrd r t)) := rfl
theorem dataLt_hook (g h : Hook) : PySem.W.dataLt (hookD g) (hookD h) = decide (ltH g h) := by
  obtain ⟨a, b, c⟩ := g
  obtain ⟨a', b', c'⟩ := h
  unfold PySem.W.dataLt hookD
  simp only [PySem.W.keyToks, PySem.W.keyToksAll, List.nil_append, List.cons_append]
  rw [lex_i, lex_s, lex_i, lex_s, lex_i, lex_i, lex_i]
  unfold ltH ltN
  by_cases h1 : a.cps.toList < a'.cps.toList <;> by_cases h2 : a'.cps.toList < a.cps.toList <;> by_cases h3 : b.cps.toList < b'.cps.toList <;> by_cases h4 : b'.cps.toList < b.cps.toList <;> by_cases h5 : c < c' <;> simp [h1, h2, h3, h4, h5, PyProof.Rows.lexLt]
def minH (x : Hook) (xs : Row) : Hook := xs.foldl (fun a y => if ltH y a then y else a) x
abbrev tkH (g : Hook) : List (Int ⊕ List Nat) := PySem.W.keyToks (hookD g)
theorem ltH_iff (g h : Hook) : ltH g h ↔ PyProof.Rows.lexLt PyProof.Rows.itemOrd (tkH g) (tkH h) = true := by
  have e := dataLt_hook g h
  unfold PySem.W.dataLt at e
  rw [show PyProof.Rows.lexLt PyProof.Rows.itemOrd (tkH g) (tkH h) = decide (ltH g h) from e]
  exact decide_eq_true_iff.symm
theorem ltH_false (g h : Hook) : ¬ ltH g h ↔ PyProof.Rows.lexLt PyProof.Rows.itemOrd (tkH g) (tkH h) = false := by
  rw [ltH_iff, Bool.not_eq_true]
theorem tkH_inj {g h : Hook} (e : tkH g = tkH h) : g = h := by
  obtain ⟨a, b, c⟩ := g
  obtain ⟨a', b', c'⟩ := h
  unfold tkH hookD at e
  simp only [PySem.W.keyToks, PySem.W.keyToksAll, List.nil_append, List.cons_append] at e
  injection e with _ e
  injection e with e1 e
  injection e with _ e
  injection e with e2 e
  injection e with _ e
  injection e with e3 e
  have q1 := PySem.W.str_of_cps (Sum.inr.inj e1)
  have q2 := PySem.W.str_of_cps (Sum.inr.inj e2)
  have q3 : c = c' := Sum.inl.inj e3
  rw [q1, q2, q3]
theorem ltH_irrefl (g : Hook) : ¬ ltH g g := (ltH_false g g).mpr (PyProof.Rows.lex_irrefl _)
theorem ltH_neg {a c : Hook} (b : Hook) (h : ltH a c) : ltH a b ∨ ltH b c := by
  rw [ltH_iff, ltH_iff]
  exact PyProof.Rows.lex_negTrans _ (tkH b) _ ((ltH_iff _ _).mp h)
theorem ltH_total {a b : Hook} (h : ¬ ltH a b) (h' : ¬ ltH b a) : a = b := tkH_inj (PyProof.Rows.lex_total _ _ ((ltH_false _ _).mp h) ((ltH_false _ _).mp h'))
theorem ltH_asymm {a b : Hook} (h : ltH a b) : ¬ ltH b a := fun h' => ltH_irrefl a ((ltH_iff _ _).mpr (PyProof.Rows.lex_trans _ _ _ ((ltH_iff _ _).mp h) ((ltH_iff _ _).mp h')))
theorem leH_trans {a b c : Hook} (h : ¬ ltH b a) (h' : ¬ ltH c b) : ¬ ltH c a := fun w => by
  rcases ltH_neg b w with q | q
  · exact h' q
  · exact h q
theorem minH_spec : ∀ (xs : Row) (x : Hook), minH x xs ∈ x :: xs ∧ ∀ y ∈ x :: xs, ¬ ltH y (minH x xs)
  | [], x => ⟨List.mem_cons_self .., fun y hy => by rw [List.mem_singleton.mp hy]; exact ltH_irrefl x⟩
  | z :: zs, x => by
    have e : minH x (z :: zs) = minH (if ltH z x then z else x) zs := rfl
    obtain ⟨h1, h2⟩ := minH_spec zs (if ltH z x then z else x)
    rw [e]
    by_cases q : ltH z x
    · rw [if_pos q] at h1 h2 ⊢
      refine ⟨List.mem_cons_of_mem _ h1, fun y hy => ?_⟩
      rcases List.mem_cons.mp hy with rfl | hy
      · exact leH_trans (h2 z (List.mem_cons_self ..)) (ltH_asymm q)
      · exact h2 y hy
    · rw [if_neg q] at h1 h2 ⊢
      refine ⟨?_, fun y hy => ?_⟩
      · rcases List.mem_cons.mp h1 with h1 | h1
        · rw [h1]; exact List.mem_cons_self ..
        · exact List.mem_cons_of_mem _ (List.mem_cons_of_mem _ h1)
      · rcases List.mem_cons.mp hy with rfl | hy
        · exact h2 y (List.mem_cons_self ..)
        rcases List.mem_cons.mp hy with rfl | hy
        · exact leH_trans (h2 x (List.mem_cons_self ..)) q
        · exact h2 y (List.mem_cons_of_mem _ hy)
/-- what stands first on both its ropes -/
def avail (K : KR) : KR := K.filter fun p => decide ((posOf p.2.1 K).head? = some p.1) && decide ((posOf p.2.2.1 K).head? = some p.1)
def firstG : Nat → KR → Row
  | 0, _ => []
  | n + 1, K => match (avail K).map (·.2) with
    | [] => []
    | x :: xs => minH x xs :: firstG n (K.filter fun e => decide (some e.1 ≠ (posOf (minH x xs).1 K).head?))
def firstF (row : Row) : Row := firstG row.length (enR 0 row)
theorem enR_len : ∀ (i : Nat) (row : Row), (enR i row).length = row.length
  | _, [] => rfl
  | i, _ :: hs => congrArg (· + 1) (enR_len (i + 1) hs)
theorem enR_get : ∀ (row : Row) (i p : Nat) (h : Hook), (p, h) ∈ enR i row → i ≤ p ∧ row[p - i]? = some h
  | [], _, _, _, q => by cases q
  | g :: gs, i, p, h, q => by
    rcases List.mem_cons.mp q with q | q
    · cases q
      exact ⟨Nat.le_refl _, by rw [Nat.sub_self]; rfl⟩
    · obtain ⟨h1, h2⟩ := enR_get gs (i + 1) p h q
      refine ⟨by omega, ?_⟩
      rw [show p - i = (p - (i + 1)) + 1 by omega]
      exact h2
theorem enR_nd : ∀ (row : Row) (i : Nat), ((enR i row).map (·.1)).Nodup
  | [], _ => List.nodup_nil
  | g :: gs, i => by
    show (i :: (enR (i + 1) gs).map (·.1)).Nodup
    rw [List.nodup_cons]
    refine ⟨fun h => ?_, enR_nd gs (i + 1)⟩
    obtain ⟨e, he, q⟩ := List.mem_map.mp h
    obtain ⟨h1, _⟩ := enR_get gs (i + 1) e.1 e.2 he
    omega
/-- what is left of the row's hooks -/
structure KSt (row : Row) (K : KR) : Prop where
  sub : K.Sublist (enR 0 row)
  suf : ∀ r, ∃ t, posOf r (enR 0 row) = t ++ posOf r K
theorem KSt.nd {row : Row} {K : KR} (h : KSt row K) : (K.map (·.1)).Nodup := (enR_nd row 0).sublist (h.sub.map _)
theorem KSt.get {row : Row} {K : KR} {p : Nat} {h : Hook} (s : KSt row K) (m : (p, h) ∈ K) : row[p]? = some h := by
  have := (enR_get row 0 p h (s.sub.subset m)).2
  rwa [Nat.sub_zero] at this
theorem avail_mem {K : KR} {p : Nat} {h : Hook} : (p, h) ∈ avail K ↔ (p, h) ∈ K ∧ (posOf h.1 K).head? = some p ∧ (posOf h.2.1 K).head? = some p := by
  unfold avail
  rw [List.mem_filter, Bool.and_eq_true, decide_eq_true_iff, decide_eq_true_iff]
theorem touches_iff {r : Str} {h : Hook} : touches r h = true ↔ h.1 = r ∨ h.2.1 = r := by
  unfold touches
  rw [Bool.or_eq_true, decide_eq_true_iff, decide_eq_true_iff]
theorem posOf_cons (r : Str) (p : Nat) (h : Hook) (K : KR) : posOf r ((p, h) :: K) = if touches r h = true then p :: posOf r K else posOf r K := by
  unfold posOf
  by_cases q : touches r h = true
  · rw [if_pos q, List.filter_cons_of_pos (by exact q)]; rfl
  · rw [if_neg q, List.filter_cons_of_neg (by exact q)]
theorem avail_ne {p : Nat} {h : Hook} {K : KR} : (p, h) ∈ avail ((p, h) :: K) := by
  rw [avail_mem, posOf_cons, posOf_cons, if_pos (touches_iff.mpr (.inl rfl)), if_pos (touches_iff.mpr (.inr rfl))]
  exact ⟨List.mem_cons_self .., rfl, rfl⟩
theorem filter_head {l : List Nat} {p : Nat} (nd : l.Nodup) (e : l.head? = some p) : l.filter (fun i => decide (i ≠ p)) = l.tail := by
  cases l with
  | nil => cases e
  | cons x xs =>
    cases e
    rw [List.nodup_cons] at nd
    rw [List.filter_cons_of_neg (by simp), List.tail_cons, List.filter_eq_self]
    intro a ha
    exact decide_eq_true fun z => nd.1 (z ▸ ha)
/-- the hook at p is taken -/
theorem KSt.take {row : Row} {K : KR} {p : Nat} {m : Hook} (s : KSt row K) (h : (p, m) ∈ avail K) : KSt row (K.filter fun e => decide (e.1 ≠ p)) ∧
    (∀ r, posOf r (K.filter fun e => decide (e.1 ≠ p)) = if touches r m = true then (posOf r K).tail else posOf r K) ∧ (∀ r, touches r m = true → (posOf r K).head? = some p) ∧ (K.filter fun e => decide (e.1 ≠ p)).length + 1 = K.length := by
  obtain ⟨h1, h2, h3⟩ := avail_mem.mp h
  have hd : ∀ r, touches r m = true → (posOf r K).head? = some p := fun r t => by
    rcases touches_iff.mp t with rfl | rfl
    · exact h2
    · exact h3
  have po : ∀ r, posOf r (K.filter fun e => decide (e.1 ≠ p)) = if touches r m = true then (posOf r K).tail else posOf r K := fun r => by
    rw [posOf_drop]
    by_cases t : touches r m = true
    · rw [if_pos t, filter_head (posOf_nd s.nd) (hd r t)]
    · rw [if_neg t, List.filter_eq_self]
      intro a ha
      refine decide_eq_true fun z => ?_
      subst z
      obtain ⟨g, hg, tg⟩ := posOf_mem ha
      have e1 := s.get hg
      have e2 := s.get h1
      rw [e1] at e2
      cases e2
      exact t tg
  refine ⟨⟨List.filter_sublist.trans s.sub, fun r => ?_⟩, po, hd, ?_⟩
  · obtain ⟨t, et⟩ := s.suf r
    rw [po r]
    by_cases q : touches r m = true
    · rw [if_pos q]
      have hh := hd r q
      cases e : posOf r K with
      | nil => rw [e] at hh; cases hh
      | cons x xs => exact ⟨t ++ [x], by rw [et, e]; simp⟩
    · rw [if_neg q]; exact ⟨t, et⟩
  · have nd := s.nd
    clear po hd h h2 h3 s
    induction K with
    | nil => cases h1
    | cons x xs ih =>
      have nd : (x.1 :: xs.map (·.1)).Nodup := nd
      rw [List.nodup_cons] at nd
      rcases List.mem_cons.mp h1 with rfl | h1
      · rw [List.filter_cons_of_neg (by simp)]
        have : xs.filter (fun e => decide (e.1 ≠ p)) = xs := by
          rw [List.filter_eq_self]
          intro a ha
          exact decide_eq_true fun z => nd.1 (List.mem_map.mpr ⟨a, ha, z⟩)
        rw [this]
        rfl
      · have ne : x.1 ≠ p := fun z => nd.1 (List.mem_map.mpr ⟨(p, m), h1, z.symm⟩)
        rw [List.filter_cons_of_pos (by simpa using ne), List.length_cons, List.length_cons, ih h1 nd.2]
def gK (row : Row) (K : KR) (r : Str) : Nat := (posOf r (enR 0 row)).length - (posOf r K).length
theorem KSt.drop {row : Row} {K : KR} (s : KSt row K) (r : Str) : (posOf r (enR 0 row)).drop (gK row K r) = posOf r K ∧ gK row K r + (posOf r K).length = (posOf r (enR 0 row)).length := by
  obtain ⟨t, et⟩ := s.suf r
  unfold gK
  rw [et, List.length_append, Nat.add_sub_cancel]
  exact ⟨List.drop_left .., rfl⟩
end SH
namespace SH
open PySem PySem.Spec PyProof.Rows L2 DL
end SH
namespace DL
open PySem PySem.Spec PyProof.Rows L2
section
variable {X : Cx} {elt tg iter tg1 iter1 : Expr} {ifs ifs1 : List Expr} {scope : Scope} {own : List (Str × Nat)} {pos : Pos} {wi wi1 : DTI} {g g1 : DTG} {wt wt1 : DTT} {we : DTE} {js js1 : List Nat}
end
end DL
namespace DL
open PySem PySem.Spec PyProof.Rows L2
def kOf (e : Int × Value) : Key := match e.2 with
  | .int i _ => .inl i
  | .str z _ => .inr z
  | _ => .inl 0
def OkE (w : World) (e : Int × Value) : Prop := ∃ k, keyIs k e.2 = true ∧ e.1 = keyH w k
/-- the set at a holds the keys ks, and it can be walked -/
def SetM (w : World) (h : Heap) (a : Addr) (S : Key → Bool) (n : Nat) : Prop :=
  ∃ o es ep t, h.get? a = some o ∧ o.ExactSet ∧ o.data = .set es ep t ∧ (∀ e ∈ es.toList, OkE w e) ∧ (es.toList.map kOf).Nodup ∧ (∀ k, S k = true ↔ k ∈ es.toList.map kOf) ∧
    (es.size < scanBound ∧ t.fits es.size = true) ∧ es.size = n ∧ Ris t.place.toList ∧ (w.params.followText "set-order" = true ∨ t.led = true)
section
variable {P : Program} {w : World} {h h' : Heap} {a : Addr} {S : Key → Bool} {n : Nat}
theorem SetM.keep (R : SetM w h a S n) (k : ∀ o, h.get? a = some o → h'.get? a = some o) : SetM w h' a S n := by
  obtain ⟨o, es, ep, t, ho, r⟩ := R
  exact ⟨o, es, ep, t, k o ho, r⟩
end
section
variable {P : Program} {w : World} {A : Around} {E : Value → Shared → Prop} {s : Shared} {a : Addr} {S : Key → Bool} {n : Nat}
end
end DL
namespace DL
open PySem PySem.Spec PyProof.Rows L2
section
variable {P : Program} {w : World} {A : Around} {E : Value → Shared → Prop} {s : Shared}
def inK (ks : List Key) (k : Key) : Bool := ks.any fun x => decide (x = k)
theorem inK_iff {ks : List Key} {k : Key} : inK ks k = true ↔ k ∈ ks := by
  unfold inK
  rw [List.any_eq_true]
  exact ⟨fun ⟨x, hx, q⟩ => (of_decide_eq_true q) ▸ hx, fun h => ⟨k, h, decide_eq_true rfl⟩⟩
def leK (a b : Key) : Bool := !PySem.W.dataLt (keyP b) (keyP a)
end
end DL
namespace DL
open PySem PySem.Spec PyProof.Rows L2
section
variable {X : Cx} {elt : Expr} {gs : List Comprehension} {scope : Scope} {cpos p : Pos} {tg : Expr} {ifs : List Expr} {k : Nat} {acc : Value} {body : Sem PySem.Fin} {g : TG} {tt : TT}
end
section
variable {X : Cx} {pins : List (Addr × Obj)} {σ : L2.St} {H : Hp} {s : Shared}
end
section
variable {prog : Program} {w : World} {A : Around} {R : Result → Shared → Prop} {s : Shared}
end
section
variable {X : Cx} {elt tg iter tg1 iter1 : Expr} {ifs ifs1 : List Expr} {scope : Scope} {own : List (Str × Nat)} {vs1 : List Nat} {cpos : Pos} {wi wi1 : TI} {g g1 : TG} {tt tt1 : TT} {te : TE}
end
end DL
namespace DL
open PySem PySem.Spec PyProof.Rows L2
abbrev tkK (k : Key) : List (Int ⊕ List Nat) := PySem.W.keyToks (keyP k)
theorem leK_eq (a b : Key) : leK a b = !PyProof.Rows.lexLt PyProof.Rows.itemOrd (tkK b) (tkK a) := rfl
theorem tkK_inj {a b : Key} (e : tkK a = tkK b) : a = b := by
  cases a <;> cases b <;> simp only [tkK, keyP, PySem.W.keyToks] at e
  · injection e with e _
    cases e
    rfl
  · injection e with e _
    cases e
  · injection e with e _
    cases e
  · injection e with e _
    rw [PySem.W.str_of_cps (Sum.inr.inj e)]
theorem leK_trans (a b c : Key) (h : leK a b = true) (h' : leK b c = true) : leK a c = true := by
  rw [leK_eq, Bool.not_eq_true'] at h h' ⊢
  cases q : PyProof.Rows.lexLt PyProof.Rows.itemOrd (tkK c) (tkK a) with
  | false => rfl
  | true =>
    rcases PyProof.Rows.lex_negTrans _ (tkK b) _ q with z | z
    · rw [h'] at z; cases z
    · rw [h] at z; cases z
theorem leK_total (a b : Key) : (leK a b || leK b a) = true := by
  rw [leK_eq, leK_eq]
  cases q : PyProof.Rows.lexLt PyProof.Rows.itemOrd (tkK b) (tkK a) with
  | false => rfl
  | true =>
    cases q2 : PyProof.Rows.lexLt PyProof.Rows.itemOrd (tkK a) (tkK b) with
    | false => rfl
    | true =>
      have := PyProof.Rows.lex_trans _ _ _ q q2
      rw [PyProof.Rows.lex_irrefl] at this
      cases this
theorem leK_anti {a b : Key} (h : leK a b = true) (h' : leK b a = true) : a = b := by
  rw [leK_eq, Bool.not_eq_true'] at h h'
  exact tkK_inj (PyProof.Rows.lex_total _ _ h' h)
theorem sorted_uniq {α : Type} {le : α → α → Bool} (anti : ∀ {a b}, le a b = true → le b a = true → a = b) : ∀ {l1 l2 : List α}, l1.Perm l2 → l1.Pairwise (fun a b => le a b = true) → l2.Pairwise (fun a b => le a b = true) → l1 = l2
  | [], l2, p, _, _ => (List.nil_perm.mp p).symm
  | a :: l1, [], p, _, _ => by
    have := p.length_eq
    simp at this
  | a :: l1, b :: l2, p, h1, h2 => by
    obtain ⟨a1, a2⟩ := List.pairwise_cons.mp h1
    obtain ⟨b1, b2⟩ := List.pairwise_cons.mp h2
    have ab : a = b := by
      rcases List.mem_cons.mp (p.mem_iff.mp (List.mem_cons_self ..)) with z | z
      · exact z
      · rcases List.mem_cons.mp (p.mem_iff.mpr (List.mem_cons_self ..)) with y | y
        · exact y.symm
        · exact anti (a1 b y) (b1 a z)
    subst ab
    rw [sorted_uniq anti (List.Perm.cons_inv p) a2 b2]
theorem sortK_uniq {ks ls : List Key} (n1 : ks.Nodup) (n2 : ls.Nodup) (h : ∀ k, k ∈ ks ↔ k ∈ ls) : ks.mergeSort leK = ls.mergeSort leK := by
  have p : ks.Perm ls := (List.perm_ext_iff_of_nodup n1 n2).mpr h
  exact sorted_uniq (le := leK) leK_anti (((List.mergeSort_perm ks leK).trans p).trans (List.mergeSort_perm ls leK).symm) (List.pairwise_mergeSort leK_trans leK_total ks) (List.pairwise_mergeSort leK_trans leK_total ls)
def addK (acc : List Key) (k : Key) : List Key := if inK acc k = true then acc else acc ++ [k]
theorem addK_nd {acc : List Key} {k : Key} (h : acc.Nodup) : (addK acc k).Nodup := by
  unfold addK
  split
  · exact h
  · rename_i q
    rw [List.nodup_append]
    refine ⟨h, by simp, fun a ha b hb e => ?_⟩
    rw [List.mem_singleton.mp hb] at e
    exact q (inK_iff.mpr (e ▸ ha))
theorem addK_in (acc : List Key) (k j : Key) : inK (addK acc k) j = (inK acc j || decide (j = k)) := by
  have e : inK (addK acc k) j = true ↔ (inK acc j || decide (j = k)) = true := by
    rw [inK_iff, Bool.or_eq_true, inK_iff, decide_eq_true_iff]
    unfold addK
    split
    · rename_i q
      exact ⟨.inl, fun z => z.elim id fun z => z ▸ inK_iff.mp q⟩
    · rw [List.mem_append, List.mem_singleton]
  exact Bool.eq_iff_iff.mpr e
section
variable {X : Cx}
end
section
variable {X : Cx} {elt tg iter tg1 iter1 : Expr} {ifs ifs1 : List Expr} {scope : Scope} {own : List (Str × Nat)} {pos : Pos} {wi wi1 : DTI} {g g1 : DTG} {wt wt1 : DTT} {we : DTE} {js js1 : List Nat}
end
end DL
namespace SH
open PySem PySem.Spec PyProof.Rows L2 DL
def ropesK (row : Row) : List Key := row.foldl (fun acc h => addK (addK acc (.inr h.1)) (.inr h.2.1)) []
def unK : Key → Str
  | .inr s => s
  | .inl _ => ""
/-- the ropes of a row, rising -/
def ropesF (row : Row) : List Str := ((ropesK row).mergeSort leK).map unK
theorem foldR_mem : ∀ (row : Row) (acc : List Key) (k : Key), k ∈ row.foldl (fun acc h => addK (addK acc (.inr h.1)) (.inr h.2.1)) acc ↔ k ∈ acc ∨ ∃ h ∈ row, k = .inr h.1 ∨ k = .inr h.2.1
  | [], acc, k => by simp
  | h :: hs, acc, k => by
    rw [List.foldl_cons, foldR_mem hs, ← inK_iff, addK_in, addK_in, Bool.or_eq_true, Bool.or_eq_true, inK_iff, decide_eq_true_iff, decide_eq_true_iff]
    constructor
    · rintro (((z | z) | z) | ⟨x, hx, z⟩)
      · exact .inl z
      · exact .inr ⟨h, List.mem_cons_self .., .inl z⟩
      · exact .inr ⟨h, List.mem_cons_self .., .inr z⟩
      · exact .inr ⟨x, List.mem_cons_of_mem _ hx, z⟩
    · rintro (z | ⟨x, hx, z⟩)
      · exact .inl (.inl (.inl z))
      · rcases List.mem_cons.mp hx with rfl | hx
        · rcases z with z | z
          · exact .inl (.inl (.inr z))
          · exact .inl (.inr z)
        · exact .inr ⟨x, hx, z⟩
theorem foldR_nd : ∀ (row : Row) (acc : List Key), acc.Nodup → (row.foldl (fun acc h => addK (addK acc (.inr h.1)) (.inr h.2.1)) acc).Nodup
  | [], _, h => h
  | _ :: hs, _, h => foldR_nd hs _ (addK_nd (addK_nd h))
theorem ropesK_mem (row : Row) (k : Key) : k ∈ ropesK row ↔ ∃ h ∈ row, k = .inr h.1 ∨ k = .inr h.2.1 := by
  unfold ropesK
  rw [foldR_mem]
  simp
theorem ropesK_nd (row : Row) : (ropesK row).Nodup := foldR_nd row [] List.nodup_nil
theorem ropesF_mem (row : Row) (r : Str) : r ∈ ropesF row ↔ ∃ h ∈ row, touches r h = true := by
  unfold ropesF
  rw [List.mem_map]
  constructor
  · rintro ⟨k, hk, rfl⟩
    obtain ⟨h, hh, z⟩ := (ropesK_mem row k).mp ((List.mergeSort_perm _ _).mem_iff.mp hk)
    refine ⟨h, hh, touches_iff.mpr ?_⟩
    rcases z with rfl | rfl
    · exact .inl rfl
    · exact .inr rfl
  · rintro ⟨h, hh, t⟩
    refine ⟨.inr r, (List.mergeSort_perm _ _).mem_iff.mpr ((ropesK_mem row _).mpr ⟨h, hh, ?_⟩), rfl⟩
    rcases touches_iff.mp t with rfl | rfl
    · exact .inl rfl
    · exact .inr rfl
theorem ropesF_keys (row : Row) : ((ropesK row).mergeSort leK).map keyP = (ropesF row).map .str := by
  unfold ropesF
  rw [List.map_map]
  refine List.map_congr_left fun k hk => ?_
  obtain ⟨h, hh, z⟩ := (ropesK_mem row k).mp ((List.mergeSort_perm _ _).mem_iff.mp hk)
  rcases z with rfl | rfl <;> rfl
end SH
namespace SH
open PySem PySem.Spec PyProof.Rows L2 DL
/-- names as a list or a tuple -/
def NmD (D : PyData) (ss : List Str) : Prop := (D = .list (ss.map .str) ∨ D = .tuple (ss.map .str)) ∧ ∀ z ∈ ss, IsName z
theorem flat_strs (ss : List Str) : (ss.map PyData.str).all flatD = true := by
  rw [List.all_eq_true]
  intro x hx
  obtain ⟨z, _, rfl⟩ := List.mem_map.mp hx
  rfl
theorem in_names {D : PyData} {ss : List Str} {z : Str} (neg : Bool) (h : NmD D ss) (hz : IsName z) : inD neg (.str z) D = some (.v (.bool (if neg then !decide (z ∈ ss) else decide (z ∈ ss)))) := by
  obtain ⟨h, hs⟩ := h
  rcases h with rfl | rfl
  · show (if SeqAt.shaped (.str z) = true ∧ SeqAt.shaped (.list (ss.map .str)) = true then some (Out.v (.bool (if neg then !(ss.map PyData.str).any fun y => PyData.eqv y (.str z) else (ss.map PyData.str).any fun y => PyData.eqv y (.str z)))) else none) = _
    rw [if_pos ⟨hz.shaped, shaped_strs hs⟩, any_str]
  · show (if flatD (.str z) = true ∧ (ss.map PyData.str).all flatD = true then some (Out.v (.bool (if neg then !(ss.map PyData.str).any fun y => PyData.eqv y (.str z) else (ss.map PyData.str).any fun y => PyData.eqv y (.str z)))) else none) = _
    rw [if_pos ⟨rfl, flat_strs ss⟩, any_str]
def drawnF (row : Row) (ss : List Str) : Row := row.filter fun h => !decide (h.1 ∈ ss) && !decide (h.2.1 ∈ ss)
def keptF (row : Row) (ss : List Str) : Row := row.filter fun h => decide (h.1 ∈ ss) && decide (h.2.1 ∈ ss)
def leastF (row : Row) : Row := firstF (settledF row)
def heldF (row : Row) : List Str := ropesF (settledF row)
theorem sLoop_ok : ∀ (hs : Row) (row : Row) (ks : KR) (i : Nat), row.drop i = hs → KOk row i ks → KOk row (i + hs.length) (sLoop row ks i hs)
  | [], row, ks, i, _, K => K
  | h :: hs, row, ks, i, hd, K => by
    have hi : row[i]? = some h := by
      have := congrArg List.head? hd
      rw [List.head?_drop] at this
      exact this
    have hd2 : row.drop (i + 1) = hs := by
      have := congrArg List.tail hd
      rw [List.tail_drop] at this
      exact this
    rw [List.length_cons, show i + (hs.length + 1) = i + 1 + hs.length by omega]
    exact sLoop_ok hs row _ (i + 1) hd2 (sStep_ok K hi)
theorem settled_kok (row : Row) : KOk row row.length (sLoop row [] 0 row) := by
  have := sLoop_ok row row [] 0 rfl ⟨(fun p h => nomatch h), (fun p h => nomatch h), List.nodup_nil⟩
  rwa [Nat.zero_add] at this
theorem settled_mem {row : Row} {h : Hook} (m : h ∈ settledF row) : h ∈ row := by
  obtain ⟨p, hp, rfl⟩ := List.mem_map.mp m
  exact List.mem_of_getElem? ((settled_kok row).inr p hp)
theorem settled_len (row : Row) : (settledF row).length ≤ row.length := by
  unfold settledF
  rw [List.length_map]
  exact (settled_kok row).len
theorem RowIn.settled {row : Row} (h : RowIn row) : RowIn (settledF row) := fun x hx => h x (settled_mem hx)
theorem RowIn.filter {row : Row} {p : Hook → Bool} (h : RowIn row) : RowIn (row.filter p) := fun x hx => h x (List.mem_filter.mp hx).1
end SH
namespace SH
open PySem PySem.Spec PyProof.Rows L2 DL
theorem layAll_of {xs : List PyData} (h : ∀ x ∈ xs, x.canLay0 = true) : PyData.canLayAll0 xs = true := by
  induction xs with
  | nil => simp [PyData.canLayAll0]
  | cons x xs ih => rw [PyData.canLayAll0, h x (List.mem_cons_self ..), ih fun y hy => h y (List.mem_cons_of_mem _ hy)]; rfl
theorem depthAll_of {xs : List PyData} {n : Nat} (h : ∀ x ∈ xs, x.depth ≤ n) : PyData.depthAll xs ≤ n := by
  induction xs with
  | nil => simp [PyData.depthAll]
  | cons x xs ih =>
    rw [PyData.depthAll]
    have := h x (List.mem_cons_self ..)
    have := ih fun y hy => h y (List.mem_cons_of_mem _ hy)
    omega
theorem good_lay : ∀ (n : Nat) (x : PyData), GoodN n x → x.canLay0 = true ∧ x.depth ≤ n
  | 0, _, h => h.elim
  | n + 1, .list xs, h => by
    refine ⟨?_, ?_⟩
    · rw [PyData.canLay0]; exact layAll_of fun x hx => (good_lay n x (h.2 x hx)).1
    · rw [PyData.depth]; have := depthAll_of fun x hx => (good_lay n x (h.2 x hx)).2; omega
  | n + 1, .tuple xs, h => by
    refine ⟨?_, ?_⟩
    · rw [PyData.canLay0]; exact layAll_of fun x hx => (good_lay n x (h.2 x hx)).1
    · rw [PyData.depth]; have := depthAll_of fun x hx => (good_lay n x (h.2 x hx)).2; omega
  | n + 1, .str z, h => ⟨SeqAt.canLay_of_shaped h, by simp [PyData.depth]⟩
  | n + 1, .int i, _ => ⟨by simp [PyData.canLay0], by simp [PyData.depth]⟩
  | n + 1, .bool i, _ => ⟨by simp [PyData.canLay0], by simp [PyData.depth]⟩
  | n + 1, .none, _ => ⟨by simp [PyData.canLay0], by simp [PyData.depth]⟩
theorem good_shaped {n : Nat} {x : PyData} (h : GoodN n x) (hn : n ≤ 64) : SeqAt.shaped x = true := by
  obtain ⟨a, b⟩ := good_lay n x h
  unfold SeqAt.shaped
  rw [a, Bool.true_and]
  exact decide_eq_true (by omega)
theorem leK_lt {x y : Str} (h : cs x < cs y) : leK (.inr x) (.inr y) = true := by
  have t := leK_total (.inr x) (.inr y)
  rw [Bool.or_eq_true] at t
  rcases t with t | t
  · exact t
  · rw [leK_eq, Bool.not_eq_true'] at t
    have e : PyProof.Rows.lexLt PyProof.Rows.itemOrd (tkK (.inr x)) (tkK (.inr y)) = true := by
      show PyProof.Rows.lexLt PyProof.Rows.itemOrd [Sum.inr x.cps.toList] [Sum.inr y.cps.toList] = true
      rw [lex_s]
      have : x.cps.toList < y.cps.toList := h
      simp [this]
    rw [e] at t; cases t
theorem cs_ne {x y : Str} (h : cs x < cs y) : x ≠ y := fun e => by
  subst e
  exact List.lt_irrefl _ h
/-- the ropes of a row are known by what they are -/
theorem ropesF_eq {row : Row} {ns : List Str} (h1 : ns.Pairwise fun x y => cs x < cs y) (h2 : ∀ r, r ∈ ns ↔ ∃ h ∈ row, touches r h = true) : ropesF row = ns := by
  have nd : (ns.map Sum.inr : List Key).Nodup := by
    rw [List.nodup_iff_pairwise_ne, List.pairwise_map]
    exact h1.imp fun {a b} q e => cs_ne q (Sum.inr.inj e)
  have pw : (ns.map Sum.inr : List Key).Pairwise fun a b => leK a b = true := by
    rw [List.pairwise_map]
    exact h1.imp fun {a b} q => leK_lt q
  have e1 : (ropesK row).mergeSort leK = ns.map Sum.inr := by
    rw [sortK_uniq (ropesK_nd row) nd fun k => ?_]
    · exact sorted_uniq (le := leK) leK_anti (List.mergeSort_perm _ _) (List.pairwise_mergeSort leK_trans leK_total _) pw
    · rw [ropesK_mem, List.mem_map]
      constructor
      · rintro ⟨h, hh, rfl | rfl⟩
        · exact ⟨h.1, (h2 _).mpr ⟨h, hh, touches_iff.mpr (.inl rfl)⟩, rfl⟩
        · exact ⟨h.2.1, (h2 _).mpr ⟨h, hh, touches_iff.mpr (.inr rfl)⟩, rfl⟩
      · rintro ⟨r, hr, rfl⟩
        obtain ⟨h, hh, t⟩ := (h2 r).mp hr
        exact ⟨h, hh, (touches_iff.mp t).imp (fun e => by rw [e]) fun e => by rw [e]⟩
  unfold ropesF
  rw [e1, List.map_map]
  exact List.map_id _
end SH
namespace DL
open PySem PySem.Spec PyProof.Rows L2
theorem mp_keys {K : PySem.W.Frag} {G : Hp} {As : List Addr} : ∀ {kvs : List (Key × V)} {es : List (Key × R)}, Mp K G As kvs es → kvs.map (·.1) = es.map (·.1)
  | _, _, .nil => rfl
  | _, _, .cons q t => by rw [List.map_cons, List.map_cons, mp_keys t, q.1]
section
variable {X : Cx}
end
section
variable {X : Cx} {e : Expr} {we : DTE} {p pos : Pos}
end
end DL
namespace SH
open PySem PySem.Spec PyProof.Rows L2 DL
/-- what is kept stands in order -/
theorem sStep_pw {row : Row} {ks : KR} {i : Nat} {h : Hook} (lt : ∀ p ∈ ks, p.1 < i) (pw : (ks.map (·.1)).Pairwise (· < ·)) : ((sStep row ks i h).map (·.1)).Pairwise (· < ·) := by
  by_cases q : ∃ p, (posOf h.1 ks).getLast? = some p ∧ (posOf h.2.1 ks).getLast? = some p ∧ row[p]? = some (turned h)
  · obtain ⟨p, e1, e2, e3⟩ := q
    rw [sStep_true e1 e2 e3]
    exact pw.sublist (List.Sublist.map _ List.filter_sublist)
  · rw [sStep_false q, List.map_append, List.pairwise_append]
    refine ⟨pw, by simp, fun a ha b hb => ?_⟩
    obtain ⟨p, hp, rfl⟩ := List.mem_map.mp ha
    have hb : b = i := by simpa using hb
    rw [hb]
    exact lt p hp
end SH
namespace DL
open PySem PySem.Spec PyProof.Rows L2
def dedupK (ks : List Key) : List Key := ks.foldl addK []
theorem foldK_nd : ∀ (ks acc : List Key), acc.Nodup → (ks.foldl addK acc).Nodup
  | [], _, h => h
  | k :: ks, acc, h => foldK_nd ks _ (addK_nd h)
theorem foldK_mem : ∀ (ks acc : List Key) (j : Key), j ∈ ks.foldl addK acc ↔ j ∈ acc ∨ j ∈ ks
  | [], acc, j => by simp
  | k :: ks, acc, j => by
    rw [List.foldl_cons, foldK_mem ks (addK acc k) j, ← inK_iff, addK_in, Bool.or_eq_true, inK_iff, decide_eq_true_iff, List.mem_cons]
    exact ⟨fun h => h.elim (fun h => h.elim .inl fun h => .inr (.inl h)) fun h => .inr (.inr h), fun h => h.elim (fun h => .inl (.inl h)) fun h => h.elim (fun h => .inl (.inr h)) .inr⟩
theorem dedupK_nd (ks : List Key) : (dedupK ks).Nodup := foldK_nd ks [] List.nodup_nil
theorem dedupK_mem (ks : List Key) (j : Key) : j ∈ dedupK ks ↔ j ∈ ks := by
  unfold dedupK
  rw [foldK_mem]
  simp
theorem SetM.len {w : World} {h : Heap} {a : Addr} {ks : List Key} {n : Nat} (R : SetM w h a (inK ks) n) : n = (dedupK ks).length ∧ n < scanBound := by
  obtain ⟨o, es, ep, t, ho, hex, hd, g, nd, hm, ⟨hb, hf⟩, hn, _⟩ := R
  refine ⟨?_, by omega⟩
  have p : (es.toList.map kOf).Perm (dedupK ks) := (List.perm_ext_iff_of_nodup nd (dedupK_nd ks)).mpr fun k => by rw [← hm k, dedupK_mem, inK_iff]
  rw [← p.length_eq, List.length_map, Array.length_toList]
  exact hn.symm
section
variable {X : Cx}
end
section
variable {X : Cx} {e : Expr} {we : DTE} {p p2 pos cpos : Pos}
end
end DL
namespace SH
open PySem PySem.Spec PyProof.Rows L2 DL
theorem RowOf.inn {ns : List Str} {r : Row} (hn : Names ns) (h : RowOf ns r) : RowIn r := fun x hx => ⟨hn.1 _ (h x hx).1, hn.1 _ (h x hx).2.1, cs_ne (h x hx).2.2.1⟩
end SH
namespace SH
open PySem PySem.Spec PyProof.Rows L2 DL
theorem s_names {a b : Nat} {N : Int} {bs : List PyData} {ρ : Rho} {P : R → Kap → Prop} (h0 : ρ[0]? = some (some (.c 0))) (hb : Box N bs) (hN : N ≤ 2 ^ 38) (b0 : 0 < b) (ab : a + b ≤ 21)
    (k : ∀ (ns : List Str) (bs' : List PyData), a ≤ ns.length → ns.length < a + b → Names ns → Box (N + 201) bs' → P (.f (ns.map .str)) [.l bs']) :
    wCallL Ph_law_names (wCons (wVar 0) (wCons (wBin addD (wC (.int (a : Int))) (wCallL Ph_law_take (wCons (wVar 0) (wCons (wC (.int (b : Int))) wNil)))) wNil)) ρ [.l bs] P := by
  simp only [s_bin, s_c, s_callL, s_cons, s_nil, s_var, h0, st_c, st_d, lend_c, args_d, DL.args_nil, Opt_some, List.getElem?_cons_zero]
  refine ⟨N, (b : Int), hb, by omega, rfl, by omega, by omega, fun r bs1 r0 r1 hb1 => ?_⟩
  simp only [lab_d, st_d, val_d, addD_int, Opt_some, out_v, args_d, DL.args_nil, List.set_cons_zero, List.getElem?_cons_zero]
  obtain ⟨m, rfl⟩ : ∃ m : Nat, r = (m : Int) := ⟨r.toNat, by omega⟩
  refine ⟨N + 1, a + m, hb1, by omega, by rw [Int.natCast_add], by omega, fun ns bs2 nl hn hb2 => ?_⟩
  simp only [lab_f, List.set_cons_zero]
  exact k ns bs2 (by omega) (by omega) hn (hb2.mono (by omega))
end SH
namespace SH
open PySem PySem.Spec PyProof.Rows L2 DL
def Ph_law (rs : List R) (P : R → Prop) : Prop := ∃ ns : List Int, rs = [.s ns] ∧ P (.d (.bool true))
/-- one that's asked with a box says True and goes on with the box -/
def RightOk (Ph : List PyData → List R → (R → List PyData → Prop) → Prop) (c : Int) : Prop := 0 < c ∧ c ≤ 2 ^ 26 ∧ ∀ (N : Int) (bs : List PyData) (Q : R → List PyData → Prop), Box N bs → 0 ≤ N → N ≤ 2 ^ 30 → (∀ bs', Box (N + c) bs' → Q (.d (.bool true)) bs') → Ph bs [] Q
section
variable {Ph : List PyData → List R → (R → List PyData → Prop) → Prop} {c : Int}
theorem rng_C (l M : Nat) : (if 1 < (if l < M then (l : Int) else (M : Int)) then (if l < M then (l : Int) else (M : Int)) else 1).toNat = max 1 (min M l) := by
  by_cases h : l < M
  · simp only [if_pos h]
    split <;> omega
  · simp only [if_neg h]
    split <;> omega
end
end SH
namespace SH
open PySem PySem.Spec PyProof.Rows L2 DL
end SH
namespace SH
open PySem PySem.Spec PyProof.Rows L2 DL
abbrev RowT := List Hook
/-- g shares a rope with h -/
def hits (h g : Hook) : Bool := touches h.1 g || touches h.2.1 g
theorem touch_t (r : Str) (h : Hook) : touches r (turned h) = touches r h := rfl
theorem turned2 (h : Hook) : turned (turned h) = h := by
  obtain ⟨a, b, s⟩ := h
  show (a, b, -(-s)) = (a, b, s)
  rw [Int.neg_neg]
theorem hits_t (h g : Hook) : hits h (turned g) = hits h g := rfl
theorem hits_iff {h g : Hook} : hits h g = true ↔ ∃ r, touches r h = true ∧ touches r g = true := by
  unfold hits
  rw [Bool.or_eq_true]
  constructor
  · rintro (q | q)
    · exact ⟨h.1, touches_iff.mpr (.inl rfl), q⟩
    · exact ⟨h.2.1, touches_iff.mpr (.inr rfl), q⟩
  · rintro ⟨r, a, b⟩
    rcases touches_iff.mp a with rfl | rfl
    · exact .inl b
    · exact .inr b
theorem hits_symm (h g : Hook) : hits h g = hits g h := by
  rw [Bool.eq_iff_iff, hits_iff, hits_iff]
  exact ⟨fun ⟨r, a, b⟩ => ⟨r, b, a⟩, fun ⟨r, a, b⟩ => ⟨r, b, a⟩⟩
theorem hits_self (h : Hook) : hits h h = true := by
  unfold hits touches
  simp
theorem hits_false {h g : Hook} (e : hits h g = false) : touches h.1 g = false ∧ touches h.2.1 g = false := by
  unfold hits at e
  rwa [Bool.or_eq_false_iff] at e
theorem touch_both {r : Str} {h g : Hook} (a : touches r h = true) (b : touches r g = true) : hits h g = true := by
  unfold hits
  rw [Bool.or_eq_true]
  rcases touches_iff.mp a with rfl | rfl
  · exact .inl b
  · exact .inr b
def lineR (r : Str) (ρ : RowT) : RowT := ρ.filter (touches r)
abbrev Pile := Str → RowT
def linesP (ρ : RowT) : Pile := fun r => lineR r ρ
theorem lineR_app (r : Str) (x y : RowT) : lineR r (x ++ y) = lineR r x ++ lineR r y := List.filter_append ..
theorem lineR_cons (r : Str) (h : Hook) (x : RowT) : lineR r (h :: x) = if touches r h = true then h :: lineR r x else lineR r x := by
  unfold lineR
  by_cases q : touches r h = true
  · rw [if_pos q, List.filter_cons_of_pos q]
  · rw [if_neg q, List.filter_cons_of_neg q]
theorem lineR_free {r : Str} {h : Hook} {y : RowT} (t : touches r h = true) (f : ∀ g ∈ y, hits h g = false) : lineR r y = [] := by
  unfold lineR
  rw [List.filter_eq_nil_iff]
  intro g hg q
  have := touch_both t q
  rw [f g hg] at this
  cases this
def top2 (h : Hook) (S : Pile) : Prop := (S h.1).head? = some (turned h) ∧ (S h.2.1).head? = some (turned h)
instance (h : Hook) (S : Pile) : Decidable (top2 h S) := by unfold top2; infer_instance
def act (h : Hook) (S : Pile) : Pile := if top2 h S then fun r => if touches r h = true then (S r).tail else S r else fun r => if touches r h = true then h :: S r else S r
def stripR (h : Hook) : RowT → Option RowT
  | [] => none
  | g :: gs => if hits h g = true then (if g = turned h then some gs else none) else (stripR h gs).map (g :: ·)
def cstep (h : Hook) (ρ : RowT) : RowT := match stripR h ρ with
  | some ρ' => ρ'
  | none => h :: ρ
theorem strip_some {h : Hook} : ∀ {ρ ρ' : RowT}, stripR h ρ = some ρ' → ∃ y x, ρ = y ++ turned h :: x ∧ ρ' = y ++ x ∧ ∀ g ∈ y, hits h g = false
  | g :: gs, ρ', e => by
    unfold stripR at e
    by_cases q : hits h g = true
    · rw [if_pos q] at e
      by_cases q2 : g = turned h
      · rw [if_pos q2] at e
        cases e
        exact ⟨[], gs, by rw [q2]; rfl, rfl, fun g hg => nomatch hg⟩
      · rw [if_neg q2] at e; cases e
    · rw [if_neg q] at e
      cases q2 : stripR h gs with
      | none => rw [q2] at e; cases e
      | some ρ1 =>
        rw [q2] at e
        cases e
        obtain ⟨y, x, e1, e2, e3⟩ := strip_some q2
        refine ⟨g :: y, x, by rw [e1]; rfl, by rw [e2]; rfl, fun k hk => ?_⟩
        rcases List.mem_cons.mp hk with rfl | hk
        · exact (Bool.not_eq_true _).mp q
        · exact e3 k hk
theorem strip_none {h : Hook} : ∀ {ρ : RowT}, stripR h ρ = none → (∀ g ∈ ρ, hits h g = false) ∨ ∃ y g x, ρ = y ++ g :: x ∧ (∀ k ∈ y, hits h k = false) ∧ hits h g = true ∧ g ≠ turned h
  | [], _ => .inl fun g hg => nomatch hg
  | g :: gs, e => by
    unfold stripR at e
    by_cases q : hits h g = true
    · rw [if_pos q] at e
      by_cases q2 : g = turned h
      · rw [if_pos q2] at e; cases e
      · exact .inr ⟨[], g, gs, rfl, (fun k hk => nomatch hk), q, q2⟩
    · rw [if_neg q] at e
      cases q2 : stripR h gs with
      | some ρ1 => rw [q2] at e; cases e
      | none =>
        have qf := (Bool.not_eq_true _).mp q
        rcases strip_none q2 with f | ⟨y, k, x, e1, e2, e3, e4⟩
        · refine .inl fun k hk => ?_
          rcases List.mem_cons.mp hk with rfl | hk
          · exact qf
          · exact f k hk
        · refine .inr ⟨g :: y, k, x, by rw [e1]; rfl, fun z hz => ?_, e3, e4⟩
          rcases List.mem_cons.mp hz with rfl | hz
          · exact qf
          · exact e2 z hz
theorem t1 (h : Hook) : touches h.1 h = true := touches_iff.mpr (.inl rfl)
theorem t2 (h : Hook) : touches h.2.1 h = true := touches_iff.mpr (.inr rfl)
theorem act_lines (h : Hook) (ρ : RowT) : linesP (cstep h ρ) = act h (linesP ρ) := by
  unfold cstep
  cases e : stripR h ρ with
  | some ρ' =>
    obtain ⟨y, x, rfl, rfl, f⟩ := strip_some e
    have lt : ∀ r, touches r h = true → linesP (y ++ turned h :: x) r = turned h :: lineR r x := fun r t => by
      show lineR r _ = _
      rw [lineR_app, lineR_free t f, lineR_cons, if_pos (by rw [touch_t]; exact t), List.nil_append]
    have tp : top2 h (linesP (y ++ turned h :: x)) := ⟨by rw [lt _ (t1 h)]; rfl, by rw [lt _ (t2 h)]; rfl⟩
    unfold act
    rw [if_pos tp]
    funext r
    by_cases q : touches r h = true
    · rw [if_pos q, lt r q]
      show lineR r _ = _
      rw [lineR_app, lineR_free q f, List.nil_append]
      rfl
    · rw [if_neg q]
      show lineR r _ = lineR r _
      rw [lineR_app, lineR_app, lineR_cons, if_neg (by rw [touch_t]; exact q)]
  | none =>
    have tp : ¬ top2 h (linesP ρ) := by
      rcases strip_none e with f | ⟨y, g, x, rfl, f, hg, ne⟩
      · rintro ⟨z, _⟩
        have : linesP ρ h.1 = [] := lineR_free (t1 h) f
        rw [this] at z
        cases z
      · have lt : ∀ r, touches r h = true → touches r g = true → (linesP (y ++ g :: x) r).head? = some g := fun r t u => by
          show (lineR r _).head? = _
          rw [lineR_app, lineR_free t f, lineR_cons, if_pos u]
          rfl
        rintro ⟨z1, z2⟩
        unfold hits at hg
        rw [Bool.or_eq_true] at hg
        rcases hg with u | u
        · rw [lt _ (t1 h) u] at z1
          exact ne (Option.some.inj z1)
        · rw [lt _ (t2 h) u] at z2
          exact ne (Option.some.inj z2)
    unfold act
    rw [if_neg tp]
    funext r
    show lineR r (h :: ρ) = _
    rw [lineR_cons]
    rfl
theorem act_at (h : Hook) (S : Pile) (r : Str) : act h S r = if touches r h = true then (if top2 h S then (S r).tail else h :: S r) else S r := by
  unfold act
  by_cases c : top2 h S
  · rw [if_pos c, if_pos c]
  · rw [if_neg c, if_neg c]
theorem act_off {h : Hook} {r : Str} (n : ¬ touches r h = true) (S : Pile) : act h S r = S r := by rw [act_at, if_neg n]
theorem top2_congr {h : Hook} {S T : Pile} (e1 : S h.1 = T h.1) (e2 : S h.2.1 = T h.2.1) : top2 h S ↔ top2 h T := by
  unfold top2
  rw [e1, e2]
theorem act_congr {h : Hook} {S T : Pile} {r : Str} (e : ∀ r, touches r h = true → S r = T r) (t : touches r h = true) : act h S r = act h T r := by
  rw [act_at, act_at, if_pos t, if_pos t, e r t]
  have c := top2_congr (e _ (t1 h)) (e _ (t2 h))
  by_cases q : top2 h T
  · rw [if_pos q, if_pos (c.mpr q)]
  · rw [if_neg q, if_neg (fun z => q (c.mp z))]
theorem off_of {h g : Hook} {r : Str} (e : hits h g = false) (t : touches r h = true) : ¬ touches r g = true := fun u => by
  have := touch_both t u
  rw [e] at this; cases this
/-- hooks that share no rope may change places -/
theorem act_comm {h g : Hook} (e : hits h g = false) (S : Pile) : act h (act g S) = act g (act h S) := by
  have e' : hits g h = false := by rw [hits_symm]; exact e
  funext r
  by_cases th : touches r h = true
  · rw [act_off (off_of e th) (act h S), act_congr (fun r t => act_off (off_of e t) S) th]
  · rw [act_off th (act g S)]
    by_cases tg : touches r g = true
    · rw [act_congr (fun r t => act_off (off_of e' t) S) tg]
    · rw [act_off tg, act_off tg, act_off th]
end SH
namespace SH
open PySem PySem.Spec PyProof.Rows L2 DL
def acts (r : RowT) (S : Pile) : Pile := r.foldl (fun S h => act h S) S
def pile (r : RowT) : Pile := acts r fun _ => []
def nfL (r : RowT) (ρ : RowT) : RowT := r.foldl (fun ρ h => cstep h ρ) ρ
def nfR (r : RowT) : RowT := nfL r []
theorem acts_app (x y : RowT) (S : Pile) : acts (x ++ y) S = acts y (acts x S) := by unfold acts; rw [List.foldl_append]
theorem pile_app (x y : RowT) : pile (x ++ y) = acts y (pile x) := acts_app x y _
theorem acts_lines : ∀ (r ρ : RowT), linesP (nfL r ρ) = acts r (linesP ρ)
  | [], ρ => rfl
  | h :: r, ρ => by
    show linesP (nfL r (cstep h ρ)) = acts r (act h (linesP ρ))
    rw [acts_lines r, act_lines]
theorem pile_nf (r : RowT) : linesP (nfR r) = pile r := acts_lines r []
/-- nothing goes -/
def Red (ρ : RowT) : Prop := ∀ x g y z, ρ = x ++ g :: (y ++ turned g :: z) → ∃ k ∈ y, hits g k = true
theorem strip_of {h : Hook} : ∀ {y x : RowT}, (∀ g ∈ y, hits h g = false) → stripR h (y ++ turned h :: x) = some (y ++ x)
  | [], x, _ => by
    show (if hits h (turned h) = true then (if turned h = turned h then some x else none) else _) = _
    rw [if_pos (by rw [hits_t]; exact hits_self h), if_pos rfl]
    rfl
  | g :: y, x, f => by
    show (if hits h g = true then _ else (stripR h (y ++ turned h :: x)).map (g :: ·)) = _
    rw [if_neg (by rw [f g (List.mem_cons_self ..)]; decide), strip_of fun k hk => f k (List.mem_cons_of_mem _ hk)]
    rfl
theorem red_cons {h : Hook} {ρ : RowT} (R : Red ρ) (e : stripR h ρ = none) : Red (h :: ρ) := by
  intro x g y z hd
  cases x with
  | nil =>
    injection hd with h1 h2
    subst h1
    by_cases q : ∃ k ∈ y, hits h k = true
    · exact q
    · have f : ∀ g ∈ y, hits h g = false := fun k hk => (Bool.not_eq_true _).mp fun t => q ⟨k, hk, t⟩
      rw [h2, strip_of f] at e
      cases e
  | cons w x =>
    injection hd with h1 h2
    exact R x g y z h2
theorem red_del {h : Hook} {y0 x0 : RowT} (R : Red (y0 ++ turned h :: x0)) (f : ∀ g ∈ y0, hits h g = false) : Red (y0 ++ x0) := by
  intro x g y z hd
  have no : ∀ g ∈ y0, hits g (turned h) = true → False := fun g hg t => by
    rw [hits_t, hits_symm, f g hg] at t
    cases t
  rcases List.append_eq_append_iff.mp hd with ⟨a, e1, e2⟩ | ⟨c, e1, e2⟩
  · exact R (y0 ++ turned h :: a) g y z (by rw [e2, List.append_assoc]; rfl)
  · cases c with
    | nil =>
      rw [List.append_nil] at e1
      refine R (y0 ++ [turned h]) g y z ?_
      have : x0 = g :: (y ++ turned g :: z) := e2.symm
      rw [this, List.append_assoc]
      rfl
    | cons w c =>
      injection e2 with h1 h2
      subst h1
      have gy : g ∈ y0 := by rw [e1]; simp
      rcases List.append_eq_append_iff.mp h2 with ⟨a, q1, q2⟩ | ⟨d, q1, q2⟩
      · cases a with
        | nil =>
          rw [List.append_nil] at q1
          have q3 : x0 = turned g :: z := q2.symm
          obtain ⟨k, hk, t⟩ := R x g (y ++ [turned h]) z (by rw [e1, q1, q3]; simp)
          rcases List.mem_append.mp hk with hk | hk
          · exact ⟨k, hk, t⟩
          · rw [List.mem_singleton.mp hk] at t
            exact (no g gy t).elim
        | cons w' a =>
          injection q2 with h3 h4
          subst h3
          exact R x g y (a ++ turned h :: x0) (by rw [e1, q1]; simp)
      · obtain ⟨k, hk, t⟩ := R x g (c ++ turned h :: d) z (by rw [e1, q2]; simp)
        refine ⟨k, ?_, t⟩
        rw [q1]
        rcases List.mem_append.mp hk with hk | hk
        · exact List.mem_append_left _ hk
        · rcases List.mem_cons.mp hk with rfl | hk
          · exact (no g gy t).elim
          · exact List.mem_append_right _ hk
theorem red_step {h : Hook} {ρ : RowT} (R : Red ρ) : Red (cstep h ρ) := by
  unfold cstep
  cases e : stripR h ρ with
  | none => exact red_cons R e
  | some ρ' =>
    obtain ⟨y, x, rfl, rfl, f⟩ := strip_some e
    exact red_del R f
theorem red_nfL : ∀ (r : RowT) {ρ : RowT}, Red ρ → Red (nfL r ρ)
  | [], _, R => R
  | h :: r, _, R => red_nfL r (red_step R)
theorem red_nil : Red [] := fun x g y z e => by
  have := congrArg List.length e
  simp at this
theorem red_nf (r : RowT) : Red (nfR r) := red_nfL r red_nil
/-- a hook and its turned one behind it go -/
theorem cancel_red {h : Hook} {ρ : RowT} (R : Red ρ) : act (turned h) (act h (linesP ρ)) = linesP ρ := by
  rw [← act_lines, ← act_lines]
  unfold cstep
  cases e : stripR h ρ with
  | none =>
    have : stripR (turned h) (h :: ρ) = some ρ := by
      show (if hits (turned h) h = true then (if h = turned (turned h) then some ρ else none) else _) = _
      rw [if_pos (by rw [hits_symm, hits_t]; exact hits_self h), if_pos (turned2 h).symm]
    simp only [this]
  | some ρ' =>
    obtain ⟨y, x, rfl, rfl, f⟩ := strip_some e
    have f' : ∀ g ∈ y, hits (turned h) g = false := fun g hg => by rw [hits_symm, hits_t, hits_symm]; exact f g hg
    cases e2 : stripR (turned h) (y ++ x) with
    | some ρ2 =>
      obtain ⟨y', x', q1, q2, f2⟩ := strip_some e2
      rw [turned2] at q1
      rcases List.append_eq_append_iff.mp q1 with ⟨a, e1, e3⟩ | ⟨c, e1, e3⟩
      · obtain ⟨k, hk, t⟩ := R y (turned h) a x' (by rw [turned2, e3])
        rw [f2 k (by rw [e1]; exact List.mem_append_right _ hk)] at t
        cases t
      · cases c with
        | nil =>
          have e3 : x = h :: x' := e3.symm
          obtain ⟨k, hk, t⟩ := R y (turned h) [] x' (by rw [turned2, e3]; rfl)
          cases hk
        | cons w c =>
          injection e3 with h1 h2
          subst h1
          have := f h (by rw [e1]; simp)
          rw [hits_self] at this
          cases this
    | none =>
      simp only
      funext r
      show lineR r _ = lineR r _
      rw [lineR_cons, lineR_app, lineR_app, lineR_cons, touch_t]
      by_cases t : touches r h = true
      · rw [if_pos t, if_pos t, lineR_free t f]
        rfl
      · rw [if_neg t, if_neg t]
theorem cancel (h : Hook) (r : RowT) : act (turned h) (act h (pile r)) = pile r := by
  rw [← pile_nf]
  exact cancel_red (red_nf r)
theorem cancel2 (h : Hook) (r : RowT) : act h (act (turned h) (pile r)) = pile r := by
  have := cancel (turned h) r
  rwa [turned2] at this
theorem acts_free {h : Hook} : ∀ {u : RowT}, (∀ g ∈ u, hits h g = false) → ∀ S, act h (acts u S) = acts u (act h S)
  | [], _, S => rfl
  | g :: u, f, S => by
    show act h (acts u (act g S)) = acts u (act g (act h S))
    rw [acts_free (fun k hk => f k (List.mem_cons_of_mem _ hk)), act_comm (f g (List.mem_cons_self ..))]
theorem lines_nil {r : RowT} (e : linesP r = linesP []) : r = [] := by
  cases r with
  | nil => rfl
  | cons h r =>
    have := congrFun e h.1
    have : lineR h.1 (h :: r) = [] := this
    rw [lineR_cons, if_pos (t1 h)] at this
    cases this
/-- a row whose lines begin like h's -/
theorem lines_cons {h : Hook} {r r' : RowT} (e : linesP (h :: r) = linesP r') : ∃ u v, r' = u ++ h :: v ∧ (∀ g ∈ u, hits h g = false) ∧ linesP r = linesP (u ++ v) := by
  have a1 : lineR h.1 r' = h :: lineR h.1 r := by
    have := congrFun e h.1
    have : lineR h.1 (h :: r) = lineR h.1 r' := this
    rw [← this, lineR_cons, if_pos (t1 h)]
  have a2 : lineR h.2.1 r' = h :: lineR h.2.1 r := by
    have := congrFun e h.2.1
    have : lineR h.2.1 (h :: r) = lineR h.2.1 r' := this
    rw [← this, lineR_cons, if_pos (t2 h)]
  obtain ⟨u, v, rfl, hu, _, _⟩ := List.filter_eq_cons_iff.mp a1
  have f : ∀ g ∈ u, hits h g = false := fun g hg => by
    refine (Bool.not_eq_true _).mp fun t => ?_
    unfold hits at t
    rw [Bool.or_eq_true] at t
    rcases t with t | t
    · exact hu g hg t
    · rw [lineR_app] at a2
      cases q : lineR h.2.1 u with
      | nil =>
        have : g ∈ lineR h.2.1 u := List.mem_filter.mpr ⟨hg, t⟩
        rw [q] at this; cases this
      | cons k ks =>
        rw [q] at a2
        injection a2 with b1 b2
        have km : k ∈ lineR h.2.1 u := by rw [q]; exact List.mem_cons_self ..
        have := hu k (List.mem_filter.mp km).1
        rw [b1] at this
        exact this (t1 h)
  refine ⟨u, v, rfl, f, ?_⟩
  funext r0
  have e0 : lineR r0 (h :: r) = lineR r0 (u ++ h :: v) := congrFun e r0
  show lineR r0 r = lineR r0 (u ++ v)
  rw [lineR_app]
  rw [lineR_app, lineR_cons, lineR_cons] at e0
  by_cases t : touches r0 h = true
  · rw [if_pos t, if_pos t, lineR_free t f] at e0
    rw [lineR_free t f]
    injection e0
  · rwa [if_neg t, if_neg t] at e0
/-- rows of the same lines do the same -/
theorem acts_same : ∀ {r r' : RowT}, linesP r = linesP r' → ∀ S, acts r S = acts r' S
  | [], r', e, S => by rw [lines_nil e.symm]
  | h :: r, r', e, S => by
    obtain ⟨u, v, rfl, f, e2⟩ := lines_cons e
    show acts r (act h S) = _
    rw [acts_same e2 (act h S), acts_app, acts_app, ← acts_free f]
    rfl
theorem nf_red : ∀ {ρ : RowT}, Red ρ → nfR ρ.reverse = ρ
  | [], _ => rfl
  | h :: ρ, R => by
    have R' : Red ρ := fun x g y z e => R (h :: x) g y z (by rw [e]; rfl)
    have e : nfR (h :: ρ).reverse = cstep h (nfR ρ.reverse) := by
      unfold nfR nfL
      rw [List.reverse_cons, List.foldl_append]
      rfl
    rw [e, nf_red R']
    unfold cstep
    cases q : stripR h ρ with
    | none => rfl
    | some ρ' =>
      obtain ⟨y, x, e1, _, f⟩ := strip_some q
      obtain ⟨k, hk, t⟩ := R [] h y x (by rw [e1]; rfl)
      rw [f k hk] at t
      cases t
theorem filt_step {p : Hook → Bool} (hp : ∀ h, p (turned h) = p h) (h : Hook) (ρ : RowT) : pile ((cstep h ρ).reverse.filter p) = if p h = true then act h (pile (ρ.reverse.filter p)) else pile (ρ.reverse.filter p) := by
  unfold cstep
  cases e : stripR h ρ with
  | none =>
    simp only
    rw [List.reverse_cons, List.filter_append, pile_app]
    by_cases q : p h = true
    · rw [if_pos q, List.filter_cons_of_pos q]; rfl
    · rw [if_neg q, List.filter_cons_of_neg q]; rfl
  | some ρ' =>
    obtain ⟨y, x, rfl, rfl, f⟩ := strip_some e
    simp only
    rw [List.reverse_append, List.reverse_append, List.reverse_cons, List.filter_append, List.filter_append, List.filter_append]
    by_cases q : p h = true
    · rw [if_pos q, List.filter_cons_of_pos (by rw [hp]; exact q)]
      rw [pile_app, pile_app, pile_app]
      have f' : ∀ g ∈ y.reverse.filter p, hits h g = false := fun g hg => f g (List.mem_reverse.mp (List.mem_filter.mp hg).1)
      rw [acts_free f']
      show _ = acts _ (act h (act (turned h) (pile _)))
      rw [cancel2]
    · rw [if_neg q, List.filter_cons_of_neg (by rw [hp]; exact q)]
      simp
theorem filt_nf {p : Hook → Bool} (hp : ∀ h, p (turned h) = p h) : ∀ (r ρ : RowT), acts (r.filter p) (pile (ρ.reverse.filter p)) = pile ((nfL r ρ).reverse.filter p)
  | [], ρ => rfl
  | h :: r, ρ => by
    have ih := filt_nf hp r (cstep h ρ)
    show _ = pile ((nfL r (cstep h ρ)).reverse.filter p)
    rw [← ih, filt_step hp]
    by_cases q : p h = true
    · rw [if_pos q, List.filter_cons_of_pos q]; rfl
    · rw [if_neg q, List.filter_cons_of_neg q]
theorem lines_rev {x y : RowT} (e : linesP x = linesP y) : linesP x.reverse = linesP y.reverse := by
  funext r
  have : lineR r x = lineR r y := congrFun e r
  show lineR r _ = lineR r _
  unfold lineR at *
  rw [List.filter_reverse, List.filter_reverse, this]
theorem lines_filter {x y : RowT} (p : Hook → Bool) (e : linesP x = linesP y) : linesP (x.filter p) = linesP (y.filter p) := by
  funext r
  have : lineR r x = lineR r y := congrFun e r
  show lineR r _ = lineR r _
  unfold lineR at *
  have c : ∀ z : RowT, (z.filter p).filter (touches r) = (z.filter (touches r)).filter p := fun z => by
    rw [List.filter_filter, List.filter_filter]
    congr 1
    funext h
    rw [Bool.and_comm]
  rw [c, c, this]
/-- alike rows stay alike when hooks are struck -/
theorem pile_filter {p : Hook → Bool} (hp : ∀ h, p (turned h) = p h) {r r' : RowT} (e : pile r = pile r') : pile (r.filter p) = pile (r'.filter p) := by
  have e1 := filt_nf hp r []
  have e2 := filt_nf hp r' []
  have e1 : pile (r.filter p) = pile ((nfR r).reverse.filter p) := e1
  have e2 : pile (r'.filter p) = pile ((nfR r').reverse.filter p) := e2
  rw [e1, e2]
  rw [← pile_nf, ← pile_nf] at e
  exact acts_same (lines_filter p (lines_rev e)) _
end SH
namespace SH
open PySem PySem.Spec PyProof.Rows L2 DL
theorem posOf_free {h : Hook} {r : Str} {ks : KR} (t : touches r h = true) (f : ∀ e ∈ ks, hits h e.2 = false) : posOf r ks = [] := by
  unfold posOf
  have : ks.filter (fun p => touches r p.2) = [] := by
    rw [List.filter_eq_nil_iff]
    intro e he q
    have := touch_both t q
    rw [f e he] at this
    cases this
  rw [this]
  rfl
theorem posOf_split (r : Str) (x y : KR) : posOf r (x ++ y) = posOf r x ++ posOf r y := by
  unfold posOf
  rw [List.filter_append, List.map_append]
theorem rev_free {h : Hook} {k : KR} (f : ∀ e ∈ k, hits h e.2 = false) : ∀ g ∈ (k.map (·.2)).reverse, hits h g = false := fun g hg => by
  obtain ⟨e, he, rfl⟩ := List.mem_map.mp (List.mem_reverse.mp hg)
  exact f e he
theorem sStep_c {row : RowT} {i : Nat} {ks : KR} {h : Hook} (K : KOk row i ks) (pw : (ks.map (·.1)).Pairwise (· < ·)) : ((sStep row ks i h).map (·.2)).reverse = cstep h (ks.map (·.2)).reverse := by
  by_cases q : ∃ p, (posOf h.1 ks).getLast? = some p ∧ (posOf h.2.1 ks).getLast? = some p ∧ row[p]? = some (turned h)
  · obtain ⟨p, e1, e2, e3⟩ := q
    rw [sStep_true e1 e2 e3]
    obtain ⟨g, hg, hrow, _, _⟩ := K.get (List.mem_of_getLast? e1)
    have eg : g = turned h := by
      rw [hrow] at e3
      exact Option.some.inj e3
    subst eg
    obtain ⟨k1, k2, rfl⟩ := List.append_of_mem hg
    rw [List.map_append, List.map_cons, List.pairwise_append, List.pairwise_cons] at pw
    have f : ∀ e ∈ k2, hits h e.2 = false := fun e he => by
      refine (Bool.not_eq_true _).mp fun t => ?_
      have lt : p < e.1 := pw.2.1.1 e.1 (List.mem_map.mpr ⟨e, he, rfl⟩)
      have last : ∀ r, touches r e.2 = true → (posOf r (k1 ++ (p, turned h) :: k2)).getLast? = some p → False := fun r tr el => by
        rw [posOf_split, show (p, turned h) :: k2 = [(p, turned h)] ++ k2 from rfl, posOf_split] at el
        have ne : posOf r k2 ≠ [] := fun z => by
          have : e.1 ∈ posOf r k2 := List.mem_map.mpr ⟨e, List.mem_filter.mpr ⟨he, tr⟩, rfl⟩
          rw [z] at this; cases this
        rw [List.getLast?_append, List.getLast?_append] at el
        have hm : p ∈ posOf r k2 := by
          cases q2 : (posOf r k2).getLast? with
          | none => exact (ne (List.getLast?_eq_none_iff.mp q2)).elim
          | some x =>
            rw [q2] at el
            have : x = p := by simpa using el
            rw [← this]
            exact List.mem_of_getLast? q2
        obtain ⟨e', he', _⟩ := List.mem_map.mp hm
        have := pw.2.1.1 p (List.mem_map.mpr ⟨e', (List.mem_filter.mp he').1, by assumption⟩)
        omega
      unfold hits at t
      rw [Bool.or_eq_true] at t
      rcases t with t | t
      · exact last _ t e1
      · exact last _ t e2
    have ef : (k1 ++ (p, turned h) :: k2).filter (fun e => decide (e.1 ≠ p)) = k1 ++ k2 := by
      rw [List.filter_append, List.filter_cons_of_neg (by simp)]
      have g1 : k1.filter (fun e => decide (e.1 ≠ p)) = k1 := by
        rw [List.filter_eq_self]
        intro a ha
        have := pw.2.2 a.1 (List.mem_map.mpr ⟨a, ha, rfl⟩) p (List.mem_cons_self ..)
        exact decide_eq_true (by omega)
      have g2 : k2.filter (fun e => decide (e.1 ≠ p)) = k2 := by
        rw [List.filter_eq_self]
        intro a ha
        have := pw.2.1.1 a.1 (List.mem_map.mpr ⟨a, ha, rfl⟩)
        exact decide_eq_true (by omega)
      rw [g1, g2]
    rw [ef]
    unfold cstep
    have : ((k1 ++ (p, turned h) :: k2).map (·.2)).reverse = (k2.map (·.2)).reverse ++ turned h :: (k1.map (·.2)).reverse := by simp
    rw [this, strip_of (rev_free f)]
    simp
  · rw [sStep_false q]
    unfold cstep
    cases e : stripR h (ks.map (·.2)).reverse with
    | none => simp
    | some ρ' =>
      obtain ⟨y, x, e1, _, f⟩ := strip_some e
      have e2 : ks.map (·.2) = x.reverse ++ turned h :: y.reverse := by
        have := congrArg List.reverse e1
        simpa using this
      obtain ⟨k1, k2', rfl, m1, m2⟩ := List.map_eq_append_iff.mp e2
      obtain ⟨⟨p, g⟩, k2, rfl, m3, m4⟩ := List.map_eq_cons_iff.mp m2
      have m3 : g = turned h := m3
      subst m3
      refine (q ⟨p, ?_, ?_, K.inr (p, turned h) (by simp)⟩).elim
      all_goals
        have f2 : ∀ e ∈ k2, hits h e.2 = false := fun e he => f e.2 (by
          have : e.2 ∈ y.reverse := by rw [← m4]; exact List.mem_map.mpr ⟨e, he, rfl⟩
          exact List.mem_reverse.mp this)
      · rw [posOf_split, posOf_cons, if_pos (by rw [touch_t]; exact t1 h), posOf_free (t1 h) f2]
        simp
      · rw [posOf_split, posOf_cons, if_pos (by rw [touch_t]; exact t2 h), posOf_free (t2 h) f2]
        simp
theorem sLoop_nf : ∀ (hs row : RowT) (ks : KR) (i : Nat), row.drop i = hs → KOk row i ks → (ks.map (·.1)).Pairwise (· < ·) → ((sLoop row ks i hs).map (·.2)).reverse = nfL hs (ks.map (·.2)).reverse
  | [], row, ks, i, _, _, _ => rfl
  | h :: hs, row, ks, i, hd, K, pw => by
    have hi : row[i]? = some h := by
      have := congrArg List.head? hd
      rw [List.head?_drop] at this
      exact this
    have hd2 : row.drop (i + 1) = hs := by
      have := congrArg List.tail hd
      rw [List.tail_drop] at this
      exact this
    show ((sLoop row (sStep row ks i h) (i + 1) hs).map (·.2)).reverse = nfL hs (cstep h _)
    rw [sLoop_nf hs row _ (i + 1) hd2 (sStep_ok K hi) (sStep_pw K.lt pw), sStep_c K pw]
theorem settled_nf (row : RowT) : settledF row = (nfR row).reverse := by
  have := sLoop_nf row row [] 0 rfl ⟨(fun p h => nomatch h), (fun p h => nomatch h), List.nodup_nil⟩ List.Pairwise.nil
  have e : (settledF row).reverse = nfR row := this
  rw [← e, List.reverse_reverse]
theorem pile_settled (r : RowT) : pile (settledF r) = pile r := by
  rw [settled_nf, ← pile_nf, nf_red (red_nf r), pile_nf]
theorem settled_lines {r r' : RowT} (e : pile r = pile r') : linesP (settledF r) = linesP (settledF r') := by
  rw [settled_nf, settled_nf]
  rw [← pile_nf, ← pile_nf] at e
  exact lines_rev e
theorem lines_move {m : Hook} {u v : RowT} (f : ∀ g ∈ u, hits m g = false) : linesP (u ++ m :: v) = linesP (m :: (u ++ v)) := by
  funext r
  show lineR r _ = lineR r _
  rw [lineR_app, lineR_cons, lineR_cons, lineR_app]
  by_cases t : touches r m = true
  · rw [if_pos t, if_pos t, lineR_free t f]
    rfl
  · rw [if_neg t, if_neg t]
theorem lines_inj {m : Hook} {x y : RowT} (e : linesP (m :: x) = linesP (m :: y)) : linesP x = linesP y := by
  funext r
  have e0 : lineR r (m :: x) = lineR r (m :: y) := congrFun e r
  show lineR r _ = lineR r _
  rw [lineR_cons, lineR_cons] at e0
  by_cases t : touches r m = true
  · rw [if_pos t, if_pos t] at e0
    injection e0
  · rwa [if_neg t, if_neg t] at e0
theorem lines_cong {m : Hook} {x y : RowT} (e : linesP x = linesP y) : linesP (m :: x) = linesP (m :: y) := by
  funext r
  have e0 : lineR r x = lineR r y := congrFun e r
  show lineR r _ = lineR r _
  rw [lineR_cons, lineR_cons, e0]
/-- m may stand first -/
def AvR (r : RowT) (m : Hook) : Prop := ∃ u v, r = u ++ m :: v ∧ ∀ g ∈ u, hits m g = false
theorem avR_same {r r' : RowT} {m : Hook} (e : linesP r = linesP r') (a : AvR r m) : AvR r' m := by
  obtain ⟨u, v, rfl, f⟩ := a
  rw [lines_move f] at e
  obtain ⟨u', v', e1, f1, _⟩ := lines_cons e
  exact ⟨u', v', e1, f1⟩
theorem avail_split {K : KR} (nd : (K.map (·.1)).Nodup) {p : Nat} {m : Hook} (h : (p, m) ∈ avail K) : ∃ k1 k2, K = k1 ++ (p, m) :: k2 ∧ (∀ e ∈ k1, hits m e.2 = false) ∧ K.filter (fun e => decide (e.1 ≠ p)) = k1 ++ k2 := by
  obtain ⟨h1, h2, h3⟩ := avail_mem.mp h
  obtain ⟨k1, k2, rfl⟩ := List.append_of_mem h1
  rw [List.map_append, List.map_cons, List.nodup_append, List.nodup_cons] at nd
  have f : ∀ e ∈ k1, hits m e.2 = false := fun e he => by
    refine (Bool.not_eq_true _).mp fun t => ?_
    have no : ∀ r, touches r e.2 = true → (posOf r (k1 ++ (p, m) :: k2)).head? = some p → False := fun r tr el => by
      rw [posOf_split] at el
      cases q : posOf r k1 with
      | nil =>
        have : e.1 ∈ posOf r k1 := List.mem_map.mpr ⟨e, List.mem_filter.mpr ⟨he, tr⟩, rfl⟩
        rw [q] at this; cases this
      | cons x xs =>
        rw [q] at el
        have ex : x = p := by simpa using el
        have hm : x ∈ posOf r k1 := by rw [q]; exact List.mem_cons_self ..
        obtain ⟨e', he', e1⟩ := List.mem_map.mp hm
        exact nd.2.2 x (List.mem_map.mpr ⟨e', (List.mem_filter.mp he').1, e1⟩) p (List.mem_cons_self ..) ex
    unfold hits at t
    rw [Bool.or_eq_true] at t
    rcases t with t | t
    · exact no _ t h2
    · exact no _ t h3
  refine ⟨k1, k2, rfl, f, ?_⟩
  rw [List.filter_append, List.filter_cons_of_neg (by simp)]
  have g1 : k1.filter (fun e => decide (e.1 ≠ p)) = k1 := by
    rw [List.filter_eq_self]
    intro a ha
    exact decide_eq_true fun z => nd.2.2 a.1 (List.mem_map.mpr ⟨a, ha, rfl⟩) p (List.mem_cons_self ..) z
  have g2 : k2.filter (fun e => decide (e.1 ≠ p)) = k2 := by
    rw [List.filter_eq_self]
    intro a ha
    exact decide_eq_true fun z => nd.2.1.1 (z ▸ List.mem_map.mpr ⟨a, ha, rfl⟩)
  rw [g1, g2]
theorem avail_iff {K : KR} (nd : (K.map (·.1)).Nodup) {m : Hook} : (∃ p, (p, m) ∈ avail K) ↔ AvR (K.map (·.2)) m := by
  constructor
  · rintro ⟨p, h⟩
    obtain ⟨k1, k2, rfl, f, _⟩ := avail_split nd h
    refine ⟨k1.map (·.2), k2.map (·.2), by simp, fun g hg => ?_⟩
    obtain ⟨e, he, rfl⟩ := List.mem_map.mp hg
    exact f e he
  · rintro ⟨u, v, e, f⟩
    obtain ⟨k1, k2', rfl, m1, m2⟩ := List.map_eq_append_iff.mp e
    obtain ⟨⟨p, g⟩, k2, rfl, m3, m4⟩ := List.map_eq_cons_iff.mp m2
    have m3 : g = m := m3
    subst m3
    have f2 : ∀ e ∈ k1, hits g e.2 = false := fun e he => f e.2 (by rw [← m1]; exact List.mem_map.mpr ⟨e, he, rfl⟩)
    refine ⟨p, avail_mem.mpr ⟨by simp, ?_, ?_⟩⟩
    · rw [posOf_split, posOf_free (t1 g) f2, posOf_cons, if_pos (t1 g)]; rfl
    · rw [posOf_split, posOf_free (t2 g) f2, posOf_cons, if_pos (t2 g)]; rfl
/-- one turn of the first order -/
theorem firstG_one {n : Nat} {K : KR} (nd : (K.map (·.1)).Nodup) (hn : K.length = n + 1) : ∃ p m k1 k2, (p, m) ∈ avail K ∧ K = k1 ++ (p, m) :: k2 ∧ (∀ e ∈ k1, hits m e.2 = false) ∧ firstG (n + 1) K = m :: firstG n (k1 ++ k2) ∧ ∀ z, AvR (K.map (·.2)) z → ¬ ltH z m := by
  cases e : (avail K).map (·.2) with
  | nil =>
    cases K with
    | nil => cases hn
    | cons e0 K0 =>
      have : e0.2 ∈ (avail (e0 :: K0)).map (·.2) := List.mem_map.mpr ⟨e0, avail_ne, rfl⟩
      rw [e] at this; cases this
  | cons x xs =>
    obtain ⟨m1, m2⟩ := minH_spec xs x
    have hm := m1
    rw [← e] at hm
    obtain ⟨⟨p, m⟩, hp, em⟩ := List.mem_map.mp hm
    have em : m = minH x xs := em
    obtain ⟨k1, k2, ek, f, ef⟩ := avail_split nd hp
    refine ⟨p, m, k1, k2, hp, ek, f, ?_, fun z hz => ?_⟩
    · show (match (avail K).map (·.2) with
        | [] => []
        | x :: xs => minH x xs :: firstG n (K.filter fun e => decide (some e.1 ≠ (posOf (minH x xs).1 K).head?))) = _
      rw [e]
      simp only
      rw [← em, (avail_mem.mp hp).2.1]
      have eq : (K.filter fun e => decide (some e.1 ≠ some p)) = K.filter fun e => decide (e.1 ≠ p) := by
        refine List.filter_congr fun a _ => ?_
        by_cases q : a.1 = p <;> simp [q]
      rw [eq, ef]
    · obtain ⟨q, hq⟩ := (avail_iff nd).mpr hz
      have : z ∈ x :: xs := by rw [← e]; exact List.mem_map.mpr ⟨(q, z), hq, rfl⟩
      rw [em]
      exact m2 z this
theorem nd_del {k1 k2 : KR} {e : Nat × Hook} (nd : ((k1 ++ e :: k2).map (·.1)).Nodup) : ((k1 ++ k2).map (·.1)).Nodup := nd.sublist ((List.Sublist.append_left (List.sublist_cons_self e k2) k1).map _)
theorem firstG_lines : ∀ (n : Nat) (K : KR), (K.map (·.1)).Nodup → K.length = n → linesP (firstG n K) = linesP (K.map (·.2))
  | 0, K, _, hn => by rw [List.length_eq_zero_iff.mp hn]; rfl
  | n + 1, K, nd, hn => by
    obtain ⟨p, m, k1, k2, _, rfl, f, e, _⟩ := firstG_one nd hn
    have ih := firstG_lines n (k1 ++ k2) (nd_del nd) (by simp at hn ⊢; omega)
    rw [e, lines_cong ih, List.map_append, List.map_append, List.map_cons, lines_move]
    intro g hg
    obtain ⟨x, hx, rfl⟩ := List.mem_map.mp hg
    exact f x hx
theorem firstG_same : ∀ (n : Nat) (K K' : KR), (K.map (·.1)).Nodup → (K'.map (·.1)).Nodup → K.length = n → K'.length = n → linesP (K.map (·.2)) = linesP (K'.map (·.2)) → firstG n K = firstG n K'
  | 0, _, _, _, _, _, _, _ => rfl
  | n + 1, K, K', nd, nd', hn, hn', e => by
    obtain ⟨p, m, k1, k2, hp, rfl, f, e1, l1⟩ := firstG_one nd hn
    obtain ⟨p', m', k1', k2', hp', rfl, f', e1', l1'⟩ := firstG_one nd' hn'
    have em : m = m' := by
      refine ltH_total (l1' m ?_) (l1 m' ?_)
      · exact avR_same e ((avail_iff nd).mp ⟨p, hp⟩)
      · exact avR_same e.symm ((avail_iff nd').mp ⟨p', hp'⟩)
    subst em
    have fr : ∀ {k : KR}, (∀ e ∈ k, hits m e.2 = false) → ∀ g ∈ k.map (·.2), hits m g = false := fun f g hg => by
      obtain ⟨x, hx, rfl⟩ := List.mem_map.mp hg
      exact f x hx
    rw [List.map_append, List.map_cons, List.map_append, List.map_cons, lines_move (fr f), lines_move (fr f')] at e
    have e2 := lines_inj e
    rw [e1, e1', firstG_same n (k1 ++ k2) (k1' ++ k2') (nd_del nd) (nd_del nd') (by simp at hn ⊢; omega) (by simp at hn' ⊢; omega) (by rw [List.map_append, List.map_append]; exact e2)]
theorem enR_map : ∀ (row : RowT) (i : Nat), (enR i row).map (·.2) = row
  | [], _ => rfl
  | h :: hs, i => by
    show h :: (enR (i + 1) hs).map (·.2) = _
    rw [enR_map hs]
theorem first_lines (row : RowT) : linesP (firstF row) = linesP row := by
  unfold firstF
  rw [firstG_lines row.length (enR 0 row) (enR_nd row 0) (enR_len 0 row), enR_map]
theorem lines_len : ∀ {r r' : RowT}, linesP r = linesP r' → r.length = r'.length
  | [], r', e => by rw [lines_nil e.symm]
  | h :: r, r', e => by
    obtain ⟨u, v, rfl, _, e2⟩ := lines_cons e
    have := lines_len e2
    simp at this ⊢
    omega
theorem first_same {r r' : RowT} (e : linesP r = linesP r') : firstF r = firstF r' := by
  unfold firstF
  rw [← lines_len e]
  exact firstG_same r.length _ _ (enR_nd r 0) (enR_nd r' 0) (enR_len 0 r) (by rw [enR_len, lines_len e]) (by rw [enR_map, enR_map]; exact e)
theorem pile_of_lines {r r' : RowT} (e : linesP r = linesP r') : pile r = pile r' := acts_same e _
theorem pile_least (r : RowT) : pile (leastF r) = pile r := by
  unfold leastF
  rw [pile_of_lines (first_lines _), pile_settled]
theorem least_same {r r' : RowT} (e : pile r = pile r') : leastF r = leastF r' := first_same (settled_lines e)
theorem touch_lines {r : RowT} {s : Str} : (∃ h ∈ r, touches s h = true) ↔ linesP r s ≠ [] := by
  show _ ↔ lineR s r ≠ []
  unfold lineR
  rw [Ne, List.filter_eq_nil_iff]
  constructor
  · rintro ⟨h, hh, t⟩ q
    exact q h hh t
  · intro q
    refine Classical.byContradiction fun z => q fun h hh t => z ⟨h, hh, t⟩
theorem ropes_same {r r' : RowT} (e : linesP r = linesP r') : ropesF r = ropesF r' := by
  unfold ropesF
  congr 1
  refine sortK_uniq (ropesK_nd r) (ropesK_nd r') fun k => ?_
  have key : ∀ {x y : RowT}, linesP x = linesP y → k ∈ ropesK x → k ∈ ropesK y := fun {x y} e h => by
    obtain ⟨h0, hh, z⟩ := (ropesK_mem x k).mp h
    have go : ∀ s, touches s h0 = true → k = .inr s → k ∈ ropesK y := fun s t ek => by
      have : linesP y s ≠ [] := by rw [← e]; exact touch_lines.mp ⟨h0, hh, t⟩
      obtain ⟨g, hg, tg⟩ := touch_lines.mpr this
      refine (ropesK_mem y k).mpr ⟨g, hg, ?_⟩
      rw [ek]
      exact (touches_iff.mp tg).imp (fun z => by rw [z]) fun z => by rw [z]
    rcases z with z | z
    · exact go _ (t1 h0) z
    · exact go _ (t2 h0) z
  exact ⟨key e, key e.symm⟩
theorem held_same {r r' : RowT} (e : pile r = pile r') : heldF r = heldF r' := ropes_same (settled_lines e)
theorem drawn_same {r r' : RowT} (ss : List Str) (e : pile r = pile r') : pile (drawnF r ss) = pile (drawnF r' ss) := pile_filter (fun h => rfl) e
theorem kept_same {r r' : RowT} (ss : List Str) (e : pile r = pile r') : pile (keptF r ss) = pile (keptF r' ss) := pile_filter (fun h => rfl) e
end SH
namespace SH
open PySem PySem.Spec PyProof.Rows L2 DL
theorem Box.flat {N : Int} {bs : List PyData} (h : Box N bs) : bs.all flatX = true := by
  obtain ⟨x, c, n, rfl, _⟩ := h
  rfl
theorem first_mem {r : Row} {h : Hook} (m : h ∈ firstF r) : h ∈ r := by
  have e := congrFun (first_lines r) h.1
  have : h ∈ lineR h.1 (firstF r) := List.mem_filter.mpr ⟨m, t1 h⟩
  have : h ∈ linesP (firstF r) h.1 := this
  rw [e] at this
  exact (List.mem_filter.mp this).1
theorem least_mem {r : Row} {h : Hook} (m : h ∈ leastF r) : h ∈ r := settled_mem (first_mem m)
theorem least_len (r : Row) : (leastF r).length ≤ r.length := by
  unfold leastF
  rw [lines_len (first_lines (settledF r))]
  exact settled_len r
theorem RowIn.least {row : Row} (h : RowIn row) : RowIn (leastF row) := fun x hx => h x (least_mem hx)
theorem RowIn.ok {row : Row} (h : RowIn row) : RowOk row := fun x hx => ⟨(h x hx).1, (h x hx).2.1⟩
theorem leastF_nil : leastF [] = [] := by
  have := least_len []
  exact List.length_eq_zero_iff.mp (by simpa using this)
end SH
namespace SH
open PySem PySem.Spec PyProof.Rows L2 DL
theorem pw_nodup {l : List Str} (h : l.Pairwise fun x y => cs x < cs y) : l.Nodup := by
  rw [List.nodup_iff_pairwise_ne]
  exact h.imp fun q => cs_ne q
theorem strict_uniq {l l' : List Str} (h1 : l.Pairwise fun x y => cs x < cs y) (h2 : l'.Pairwise fun x y => cs x < cs y) (h : ∀ z, z ∈ l ↔ z ∈ l') : l = l' := by
  refine sorted_uniq (le := strLe) (fun {a b} p q => ?_) ((List.perm_ext_iff_of_nodup (pw_nodup h1) (pw_nodup h2)).mpr h) (h1.imp fun q => ?_) (h2.imp fun q => ?_)
  · have p := of_decide_eq_true p
    have q := of_decide_eq_true q
    exact PySem.W.str_of_cps (List.le_antisymm p q)
  · exact decide_eq_true (List.le_of_lt q)
  · exact decide_eq_true (List.le_of_lt q)
theorem ropesF_nd (row : Row) : (ropesF row).Nodup := by
  have nd : ((ropesK row).mergeSort leK).Nodup := (List.mergeSort_perm _ _).nodup_iff.mpr (ropesK_nd row)
  have e := ropesF_keys row
  have nd2 : (((ropesK row).mergeSort leK).map keyP).Nodup := by
    rw [List.nodup_iff_pairwise_ne, List.pairwise_map]
    rw [List.nodup_iff_pairwise_ne] at nd
    refine nd.imp fun {a b} ne z => ne ?_
    cases a <;> cases b <;> simp [keyP] at z ⊢ <;> exact z
  rw [e, List.nodup_iff_pairwise_ne, List.pairwise_map] at nd2
  rw [List.nodup_iff_pairwise_ne]
  exact nd2.imp fun ne z => ne (by rw [z])
theorem ropesF_names {row : Row} (h : RowIn row) : Names (ropesF row) := by
  have hn : ∀ z ∈ ropesF row, IsName z := fun z hz => by
    obtain ⟨g, hg, t⟩ := (ropesF_mem row z).mp hz
    rcases touches_iff.mp t with rfl | rfl
    · exact (h g hg).1
    · exact (h g hg).2.1
  obtain ⟨n, _⟩ := sorted_names hn (ropesF_nd row)
  have e : ropesF row = (ropesF row).mergeSort strLe := by
    refine ropesF_eq n.2 fun r => ?_
    rw [(List.mergeSort_perm _ _).mem_iff, ropesF_mem]
  rw [e]
  exact n
theorem held_ok {row : Row} (h : RowIn row) : Names (heldF row) := ropesF_names h.settled
theorem held_mem {row : Row} {z : Str} : z ∈ heldF row ↔ ∃ h ∈ settledF row, touches z h = true := ropesF_mem _ z
/-- ropes that aren't held may be drawn -/
theorem drawn_off {r : Row} {tt : List Str} (h : ∀ z ∈ tt, z ∉ heldF r) : pile (drawnF r tt) = pile r := by
  have e : drawnF (settledF r) tt = settledF r := by
    unfold drawnF
    rw [List.filter_eq_self]
    intro g hg
    have n1 : g.1 ∉ tt := fun q => h _ q (held_mem.mpr ⟨g, hg, t1 g⟩)
    have n2 : g.2.1 ∉ tt := fun q => h _ q (held_mem.mpr ⟨g, hg, t2 g⟩)
    simp [n1, n2]
  rw [← drawn_same tt (pile_settled r), e, pile_settled]
theorem held_drawn {r : Row} {tt : List Str} {z : Str} (h : z ∈ heldF (drawnF r tt)) : z ∈ heldF r ∧ z ∉ tt := by
  rw [held_same (drawn_same tt (pile_settled r)).symm] at h
  obtain ⟨g, hg, t⟩ := held_mem.mp h
  have hg := settled_mem hg
  unfold drawnF at hg
  obtain ⟨m, q⟩ := List.mem_filter.mp hg
  refine ⟨held_mem.mpr ⟨g, m, t⟩, ?_⟩
  rw [Bool.and_eq_true] at q
  rcases touches_iff.mp t with rfl | rfl
  · simpa using q.1
  · simpa using q.2
theorem held_least (r : Row) : heldF (leastF r) = heldF r := held_same (pile_least r)
theorem held_iff (r : Row) (z : Str) : z ∈ heldF r ↔ leastF (drawnF r [z]) ≠ leastF r := by
  constructor
  · intro h e
    have := held_least (drawnF r [z])
    rw [e, held_least] at this
    rw [this] at h
    exact (held_drawn h).2 (List.mem_singleton.mpr rfl)
  · intro h
    refine Classical.byContradiction fun n => h (least_same (drawn_off fun y hy => ?_))
    rw [List.mem_singleton.mp hy]
    exact n
theorem kept_rest {ns : List Str} {r : Row} (h : RowOf ns r) (tt : List Str) : keptF r (ns.filter fun z => !decide (z ∈ tt)) = drawnF r tt := by
  unfold keptF drawnF
  refine List.filter_congr fun g hg => ?_
  obtain ⟨a, b, _⟩ := h g hg
  simp [List.mem_filter, a, b]
end SH
namespace SH
open PySem PySem.Spec PyProof.Rows L2 DL
theorem pile_come (u v : Row) (h : Hook) : pile (u ++ h :: turned h :: v) = pile (u ++ v) := by
  rw [pile_app, pile_app]
  show acts v (act (turned h) (act h (pile u))) = _
  rw [cancel]
theorem pile_swap {x y : Hook} (e : hits x y = false) (u v : Row) : pile (u ++ y :: x :: v) = pile (u ++ x :: y :: v) := by
  rw [pile_app, pile_app]
  show acts v (act x (act y (pile u))) = acts v (act y (act x (pile u)))
  rw [act_comm e]
theorem pile_back : ∀ (r u v : Row), pile (u ++ r ++ back r ++ v) = pile (u ++ v)
  | [], u, v => by simp [back]
  | h :: r, u, v => by
    have e : u ++ h :: r ++ back (h :: r) ++ v = (u ++ [h]) ++ r ++ back r ++ (turned h :: v) := by simp [back]
    rw [e, pile_back r (u ++ [h]) (turned h :: v)]
    have e2 : u ++ [h] ++ turned h :: v = u ++ h :: turned h :: v := by simp
    rw [e2, pile_come]
theorem back_back (r : Row) : back (back r) = r := by
  unfold back
  rw [← List.map_reverse, List.reverse_reverse, List.map_map]
  have : (turned ∘ turned) = id := funext fun h => turned2 h
  rw [this, List.map_id]
inductive StepT where
  | come (a : Int) (h : Hook)
  | change (a : Int)
  | go (a : Int)
def StepT.at : StepT → Int
  | .come a _ => a
  | .change a => a
  | .go a => a
def two (r : Row) (a : Int) (f : Hook → Hook → Bool) : Bool := decide (0 ≤ a) && (decide (a < (r.length : Int) - 1) && (match r.drop a.toNat with
  | x :: y :: _ => f x y
  | _ => false))
def canF (r : Row) : StepT → Bool
  | .come a _ => decide (0 ≤ a) && decide (a ≤ (r.length : Int))
  | .change a => two r a fun x y => !hits x y
  | .go a => two r a fun x y => decide (y = turned x)
def goneF (r : Row) : StepT → Row
  | .come a h => r.take a.toNat ++ (h :: turned h :: r.drop a.toNat)
  | .change a => r.take a.toNat ++ (match r.drop a.toNat with
    | x :: y :: v => y :: x :: v
    | v => v)
  | .go a => r.take a.toNat ++ r.drop (a.toNat + 2)
theorem two_split {r : Row} {a : Int} {f : Hook → Hook → Bool} (h0 : 0 ≤ a) (h1 : a < (r.length : Int) - 1) : ∃ (n : Nat) (u v : Row) (x y : Hook), a = (n : Int) ∧ u.length = n ∧ r = u ++ x :: y :: v ∧ two r a f = f x y := by
  obtain ⟨n, rfl⟩ := Int.eq_ofNat_of_zero_le h0
  have ln : n + 2 ≤ r.length := by omega
  have e := List.take_append_drop n r
  have l1 : (r.take n).length = n := by rw [List.length_take]; omega
  have l2 : (r.drop n).length = r.length - n := List.length_drop ..
  cases hd : r.drop n with
  | nil => rw [hd] at l2; simp at l2; omega
  | cons x w =>
    cases w with
    | nil => rw [hd] at l2; simp at l2; omega
    | cons y v =>
      refine ⟨n, r.take n, v, x, y, rfl, l1, by rw [← hd]; exact e.symm, ?_⟩
      unfold two
      rw [Int.toNat_natCast, hd, decide_eq_true h0, decide_eq_true h1]
      rfl
theorem two_no {r : Row} {a : Int} {f : Hook → Hook → Bool} (h : ¬ (0 ≤ a ∧ a < (r.length : Int) - 1)) : two r a f = false := by
  unfold two
  by_cases c : 0 ≤ a
  · rw [decide_eq_false (fun q => h ⟨c, q⟩)]; simp
  · rw [decide_eq_false c]; rfl
theorem drop_at {α : Type} (u v : List α) {n : Nat} (h : u.length = n) : (u ++ v).drop n = v ∧ (u ++ v).take n = u := by
  rw [← h]
  exact ⟨List.drop_left .., List.take_left ..⟩
/-- a step leads to a row alike -/
theorem pile_gone {r : Row} {s : StepT} (h : canF r s = true) : pile (goneF r s) = pile r := by
  cases s with
  | come a g =>
    show pile (r.take a.toNat ++ g :: turned g :: r.drop a.toNat) = _
    rw [pile_come, List.take_append_drop]
  | change a =>
    by_cases c : 0 ≤ a ∧ a < (r.length : Int) - 1
    · obtain ⟨n, u, v, x, y, rfl, hu, rfl, e⟩ := two_split (f := fun x y => !hits x y) c.1 c.2
      have hh : (!hits x y) = true := e.symm.trans h
      have nh : hits x y = false := by simpa using hh
      show pile ((u ++ x :: y :: v).take n ++ (match (u ++ x :: y :: v).drop n with
        | x :: y :: v => y :: x :: v
        | v => v)) = _
      rw [(drop_at u _ hu).1, (drop_at u _ hu).2]
      exact pile_swap nh u v
    · have := two_no (f := fun x y => !hits x y) c
      rw [canF, this] at h
      cases h
  | go a =>
    by_cases c : 0 ≤ a ∧ a < (r.length : Int) - 1
    · obtain ⟨n, u, v, x, y, rfl, hu, rfl, e⟩ := two_split (f := fun x y => decide (y = turned x)) c.1 c.2
      have hh : y = turned x := of_decide_eq_true (e.symm.trans h)
      subst hh
      show pile ((u ++ x :: turned x :: v).take n ++ (u ++ x :: turned x :: v).drop (n + 2)) = _
      rw [(drop_at u _ hu).2, ← List.drop_drop, (drop_at u _ hu).1]
      exact (pile_come u v x).symm
    · have := two_no (f := fun x y => decide (y = turned x)) c
      rw [canF, this] at h
      cases h
end SH
namespace SH
open PySem PySem.Spec PyProof.Rows L2 DL
theorem acts_step (h : Hook) (q ρ : Row) : acts (cstep h ρ).reverse (pile q) = act h (acts ρ.reverse (pile q)) := by
  unfold cstep
  cases e : stripR h ρ with
  | none =>
    show acts (h :: ρ).reverse (pile q) = _
    rw [List.reverse_cons, acts_app]
    rfl
  | some ρ' =>
    obtain ⟨y, x, rfl, rfl, f⟩ := strip_some e
    have f' : ∀ g ∈ y.reverse, hits h g = false := fun g hg => f g (List.mem_reverse.mp hg)
    show acts (y ++ x).reverse (pile q) = _
    rw [List.reverse_append, List.reverse_append, List.reverse_cons, acts_app, acts_app, acts_app, acts_free f']
    show _ = acts y.reverse (act h (act (turned h) (acts x.reverse (pile q))))
    rw [← pile_app, cancel2]
theorem acts_nfL (q : Row) : ∀ (r ρ : Row), acts (nfL r ρ).reverse (pile q) = acts r (acts ρ.reverse (pile q))
  | [], ρ => rfl
  | h :: r, ρ => by
    show acts (nfL r (cstep h ρ)).reverse (pile q) = acts r (act h (acts ρ.reverse (pile q)))
    rw [acts_nfL q r, acts_step]
theorem acts_settled (q r : Row) : acts (settledF r) (pile q) = acts r (pile q) := by
  rw [settled_nf]
  exact acts_nfL q r []
theorem acts_least (q r : Row) : acts (leastF r) (pile q) = acts r (pile q) := by
  unfold leastF
  rw [acts_same (first_lines (settledF r)), acts_settled]
theorem pile_both {r r' q q' : Row} (h1 : pile r = pile r') (h2 : pile q = pile q') : pile (r ++ q) = pile (r' ++ q') := by
  rw [pile_app, pile_app, ← acts_least r q, ← acts_least r' q', least_same h2, h1]
theorem pile_undo (r : Row) : pile (r ++ back r) = pile [] := by
  have := pile_back r [] []
  simpa using this
theorem pile_undo2 (r : Row) : pile (back r ++ r) = pile [] := by
  have := pile_undo (back r)
  rwa [back_back] at this
theorem pile_backs {r r' : Row} (h : pile r = pile r') : pile (back r) = pile (back r') := by
  have e1 : pile (back r ++ (r' ++ back r')) = pile (back r) := by
    have := pile_both (r := back r) rfl (pile_undo r')
    rwa [List.append_nil] at this
  have e2 : pile ((back r ++ r) ++ back r') = pile (back r') := by
    have := pile_both (pile_undo2 r) (q := back r') rfl
    rwa [List.nil_append] at this
  rw [← e1, ← List.append_assoc, ← e2]
  exact pile_both (pile_both rfl h.symm) rfl
theorem held_ropes (r : Row) : heldF r = ropesF (leastF r) := (ropes_same (first_lines (settledF r))).symm
def putF (r q : Row) : Row := leastF (r ++ q)
theorem pile_nil_least {r : Row} (h : pile r = pile []) : leastF r = [] := by rw [least_same h, leastF_nil]
end SH
namespace DL
open PySem PySem.Spec PyProof.Rows L2
/-- a tuple of texts -/
def strsD (ss : List Str) : PyData := .tuple (ss.map .str)
/-- its key: how many, and itself -/
def keyLen (ss : List Str) : PyData := .tuple [.int (ss.length : Nat), strsD ss]
def leLen (a b : List Str) : Bool := !PySem.W.dataLt (keyLen b) (keyLen a)
def StrsAt (h : Heap) (v : Value) (ss : List Str) : Prop := ∃ (a : Addr) (its : List Value), v = .ref a ∧ IsTup h a its.toArray ∧ PySem.W.EachIs (fun (u : Value) (z : Str) => ∃ t : Tok, u = .str z t) its ss
theorem StrsAt.keeps {h h' : Heap} {v : Value} {ss : List Str} (k : ∀ b o, h.get? b = some o → h'.get? b = some o) (x : StrsAt h v ss) : StrsAt h' v ss := by
  obtain ⟨a, its, e, ⟨o, ho, r⟩, q⟩ := x
  exact ⟨a, its, e, ⟨o, k _ _ ho, r⟩, q⟩
theorem strs_reads {h : Heap} : ∀ {its : List Value} {ss : List Str}, PySem.W.EachIs (fun (u : Value) (z : Str) => ∃ t : Tok, u = .str z t) its ss → ReadsAll h its (ss.map .str) []
  | _, _, .nil => .nil
  | _, _, .cons r t => by
    obtain ⟨tk, rfl⟩ := r
    exact ReadsAll.cons (as := []) (bs := []) (Reads.str _ tk) (strs_reads t)
theorem StrsAt.reads {h : Heap} {v : Value} {ss : List Str} (x : StrsAt h v ss) : Reads h v (strsD ss) [] := by
  obtain ⟨a, its, rfl, ⟨o, ho, hc, n, hd⟩, q⟩ := x
  exact Reads.tuple ho hc hd (strs_reads q)
section raw
variable {P : Program} {w : World} {A B : Around} {E : Value → Shared → Prop} {s : Shared}
/-- a call of a key's def keeps all that was there -/
def KeyRaw (P : Program) (w : World) (K : PySem.W.Frag) (mg : Str → Option Value) (base : Heap) (f : Addr) (k : Nat) : Prop :=
  ∀ (A : Around) (outer : List Env) (s : Shared) (H : Hp) (v : Value) (ss : List Str), RoomG k A → Env0 P w K mg base A outer s H → StrsAt s.heap v ss → ss.length ≤ 1000000 →
    wpAny (model P w) A (call (.ref f) [v]) (PySem.W.KeyPure (keyLen ss) s) (fun _ _ => False) s
end raw
section
variable {P : Program} {w : World} {K : PySem.W.Frag} {mg : Str → Option Value} {base : Heap} {x qual : Str} {st : Stmt} {f : Addr} {fd : FuncData} {k : Nat} {p : Str} {p1 p2 p3 p4 p5 p6 p7 p8 : Pos} {kk : Nat}
end
theorem RoomG.two {k : Nat} {A : Around} (r : RoomG (k + 2) A) : RoomG k A.in1.in1 := ⟨(show Room (k + 1) A.in1 from Room.in1 r.toRoom).in1, r.gu⟩
theorem alike_strs : ∀ xs ys : List Str, PySem.W.alikeAll (xs.map .str) (ys.map .str) = true
  | [], _ => by simp [PySem.W.alikeAll]
  | _ :: _, [] => by simp [PySem.W.alikeAll]
  | x :: xs, y :: ys => by
    have := alike_strs xs ys
    simp [PySem.W.alikeAll, PySem.W.alike, this]
theorem alike_key (a b : List Str) : PySem.W.alike (keyLen a) (keyLen b) = true := by
  have := alike_strs a b
  simp [keyLen, strsD, PySem.W.alike, PySem.W.alikeAll, this]
theorem depth_strs : ∀ xs : List Str, PyData.depthAll (xs.map .str) = 0
  | [] => rfl
  | x :: xs => by
    have := depth_strs xs
    simp [PyData.depthAll, PyData.depth, this]
theorem depth_key (a : List Str) : (keyLen a).depth ≤ 5 := by
  have := depth_strs a
  simp [keyLen, strsD, PyData.depth, PyData.depthAll, this]
/-- a def that tells (len, itself), by name -/
structure KeyCal (P : Program) (w : World) (K : PySem.W.Frag) (mg : Str → Option Value) (base : Heap) (x : Str) (k : Nat) : Prop where
  ex : ∃ (f : Addr) (j : Nat), mg x = some (.ref f) ∧ j + 2 ≤ k ∧ KeyRaw P w K mg base f j
theorem KeyCal.mono {P : Program} {w : World} {K : PySem.W.Frag} {mg : Str → Option Value} {base : Heap} {x : Str} {j k : Nat} (C : KeyCal P w K mg base x j) (h : j ≤ k) : KeyCal P w K mg base x k := by
  obtain ⟨f, i, a, b, c⟩ := C.ex
  exact ⟨f, i, a, Nat.le_trans b h, c⟩
section
variable {X : Cx} {e : Expr} {we : DTE} {p p2 pos kpos : Pos}
end
end DL
namespace SH
open PySem PySem.Spec PyProof.Rows L2 DL
theorem leLen_total : PySem.W.TotalLe leLen := PySem.W.sortLe_total (listOrd itemOrd) false fun ss : List Str => PySem.W.keyToks (keyLen ss)
theorem toks_all_cons' (x : PyData) (xs : List PyData) : PySem.W.keyToksAll (x :: xs) = .inl 1 :: (PySem.W.keyToks x ++ PySem.W.keyToksAll xs) := by simp [PySem.W.keyToksAll]
theorem toks_strs : ∀ {a b : List Str}, PySem.W.keyToksAll (a.map PyData.str) = PySem.W.keyToksAll (b.map PyData.str) → a = b
  | [], [], _ => rfl
  | [], y :: b, h => by
    rw [List.map_cons, toks_all_cons'] at h
    simp [PySem.W.keyToksAll] at h
  | x :: a, [], h => by
    rw [List.map_cons, toks_all_cons'] at h
    simp [PySem.W.keyToksAll] at h
  | x :: a, y :: b, h => by
    rw [List.map_cons, List.map_cons, toks_all_cons', toks_all_cons'] at h
    simp only [PySem.W.keyToks, List.singleton_append, List.cons.injEq, Sum.inr.injEq, true_and] at h
    rw [PySem.W.str_of_cps h.1, toks_strs h.2]
theorem leLen_anti {a b : List Str} (h1 : leLen a b = true) (h2 : leLen b a = true) : a = b := by
  have e := (listOrd itemOrd).total (PySem.W.keyToks (keyLen a)) (PySem.W.keyToks (keyLen b)) (by simpa [leLen, PySem.W.dataLt] using h2) (by simpa [leLen, PySem.W.dataLt] using h1)
  simp only [keyLen, strsD, PySem.W.keyToks] at e
  rw [toks_all_cons', toks_all_cons', toks_all_cons', toks_all_cons'] at e
  simp only [PySem.W.keyToks, List.singleton_append, List.cons.injEq, true_and] at e
  exact toks_strs (List.append_cancel_right e.2)
theorem leLen_sorted (l : List (List Str)) : (l.mergeSort leLen).Pairwise fun a b => leLen a b = true := PySem.W.sort_pairwise leLen_total l
def subsF (ns : List Str) : List (List Str) := ns.foldl (fun f z => f ++ f.map fun s => s ++ [z]) [[]]
def stepF (f : List (List Str)) (z : Str) : List (List Str) := f ++ f.map fun s => s ++ [z]
theorem subs_len : ∀ (ns : List Str) (f : List (List Str)), (ns.foldl stepF f).length = f.length * 2 ^ ns.length
  | [], f => by simp
  | z :: ns, f => by
    rw [List.foldl_cons, subs_len ns, stepF, List.length_append, List.length_map, List.length_cons, Nat.pow_succ, Nat.mul_comm (2 ^ ns.length) 2, ← Nat.mul_assoc]
    congr 1
    omega
theorem subs_sub : ∀ (ns : List Str) (ps : List Str) (f : List (List Str)), (∀ s ∈ f, s.Sublist ps) → ∀ s ∈ ns.foldl stepF f, s.Sublist (ps ++ ns)
  | [], ps, f, h, s, hs => by simpa using h s hs
  | z :: ns, ps, f, h, s, hs => by
    have e : ps ++ z :: ns = (ps ++ [z]) ++ ns := by simp
    rw [e]
    refine subs_sub ns (ps ++ [z]) (stepF f z) (fun t ht => ?_) s hs
    rcases List.mem_append.mp ht with q | q
    · exact (h t q).trans (List.sublist_append_left ps [z])
    · obtain ⟨u, hu, rfl⟩ := List.mem_map.mp q
      exact (h u hu).append (List.Sublist.refl [z])
theorem subs_of {ns : List Str} {s : List Str} (h : s ∈ subsF ns) : s.Sublist ns := by
  have := subs_sub ns [] [[]] (fun t ht => by rw [List.mem_singleton.mp ht]; exact List.Sublist.refl _) s h
  simpa using this
def setsF (ns : List Str) (low : Nat) : List (List Str) := ((subsF ns).mergeSort leLen).filter fun s => decide (low ≤ s.length)
theorem sets_of {ns : List Str} {low : Nat} {s : List Str} (h : s ∈ setsF ns low) : s.Sublist ns ∧ low ≤ s.length := by
  obtain ⟨h1, h2⟩ := List.mem_filter.mp h
  exact ⟨subs_of ((List.mergeSort_perm _ _).mem_iff.mp h1), of_decide_eq_true h2⟩
theorem sets_sorted (ns : List Str) (low : Nat) : (setsF ns low).Pairwise fun a b => leLen a b = true := (leLen_sorted _).sublist List.filter_sublist
theorem sets_len (ns : List Str) (low : Nat) : (setsF ns low).length ≤ 2 ^ ns.length := by
  have h1 : (setsF ns low).length ≤ ((subsF ns).mergeSort leLen).length := List.length_filter_le _ _
  have h2 : (subsF ns).length = 1 * 2 ^ ns.length := subs_len ns [[]]
  rw [List.length_mergeSort] at h1
  omega
end SH
namespace SH
open PySem PySem.Spec PyProof.Rows L2 DL
theorem bools_f {α : Type} (f : α → Bool) : ∀ xs : List α, bools (xs.map fun x => .bool (f x)) = some (xs.map f)
  | [] => rfl
  | x :: xs => by
    rw [List.map_cons]
    unfold bools
    rw [bools_f f xs]
    rfl
theorem any_f {α : Type} (f : α → Bool) (xs : List α) : allC (fun bs => bs.any id) [.list (xs.map fun x => .bool (f x))] = some (.v (.bool (xs.any f))) := by
  unfold allC
  simp only [bools_f, Option.map_some]
  rw [List.any_map]
  rfl
theorem all_f {α : Type} (f : α → Bool) (xs : List α) : allC (fun bs => bs.all id) [.list (xs.map fun x => .bool (f x))] = some (.v (.bool (xs.all f))) := by
  unfold allC
  simp only [bools_f, Option.map_some]
  rw [List.all_map]
  rfl
theorem least_least (r : Row) : leastF (leastF r) = leastF r := least_same (pile_least r)
end SH
namespace DL
open PySem PySem.Spec PyProof.Rows L2
def wChain (g g' : PyData → PyData → Option Out) (wa wb wc : DTE) : DTE := fun ρ κ P => wa ρ κ fun r1 κ1 => wb ρ κ1 fun r2 κ2 => Opt (val κ2 r1.st) fun x => Opt (val κ2 r2.st) fun y => Opt (g x y) fun o => match o with
  | .v (.bool z) => if z = true then wc ρ κ2 fun r3 κ3 => Opt (val κ3 r2.st) fun y' => Opt (val κ3 r3.st) fun u => Opt (g' y' u) fun o' => P o'.r κ3 else P (.d (.bool false)) κ2
  | _ => False
section
variable {X : Cx} {a b c : Expr} {wa wb wc : DTE} {pos : Pos}
end
end DL
namespace DL
open PySem PySem.Spec PyProof.Rows L2
/-- its text can be told -/
def TextOk (d : PyData) : Prop := d.showable = true ∧ d.canLay0 = true ∧ d.depth ≤ 100 ∧ d.shown.length ≤ sizeLine ∧ ((∃ xs, d = .list xs) ∨ ∃ xs, d = .tuple xs)
theorem room150 {k : Nat} {A : Around} (r : RoomG k A) : A.units + 150 < cLine := by have := r.toRoom.un; omega
def rReprD (K : PySem.W.Frag) : List V → Hp → VK → Prop := fun vs H Q => ∃ (v : V) (d : PyData), vs = [v] ∧ Dp K H v d ∧ TextOk d ∧ Q (.str d.shown) H
theorem cr_repr {X : Cx} (hg : X.A.guards = some []) (hu : X.A.units + 150 < cLine) : CallR X (.builtin "repr") (rReprD X.K) := by
  intro pins s σ H vs us Q I r h
  obtain ⟨v, d, rfl, hd, ⟨h1, h2, h3, h4, h5⟩, q⟩ := h
  obtain ⟨u, rfl, rx⟩ := vals1 r
  obtain ⟨as, rd⟩ := Dp.reads I d v u hd rx
  have hr : ∃ a, u = .ref a := by
    rcases h5 with ⟨xs, rfl⟩ | ⟨xs, rfl⟩ <;> cases rd <;> exact ⟨_, rfl⟩
  obtain ⟨a, rfl⟩ := hr
  refine repr_of_reads' rd h1 (PyData.noDict_hsm (PyData.hasDict_of_canLay d h2)) hg (by omega) (fun b o e => e) (fun h' u tk hk => ?_) h4
  exact ⟨.str d.shown, H, I.kept (t' := tk) hk, ⟨_, rfl⟩, q⟩
def wRepr (we : DTE) : DTE := fun ρ κ P => we ρ κ fun r κ1 => Opt (val κ1 r.st) fun x => TextOk x ∧ P (.d (.str x.shown)) κ1
theorem Vw.dp {K : PySem.W.Frag} {G H : Hp} {v : V} {x : PyData} (e : Ex G H) (h : Vw K G H v x) : Dp K H v x := by
  cases x with
  | list ds =>
    obtain ⟨a, vs, rfl, h1, h2⟩ := h
    exact .lst (sql_of h1) (RpA.dp ds vs (RpA.mono e _ _ h2))
  | _ => exact Rp.dp _ _ (Rp.mono e _ _ h)
section
variable {X : Cx} {e : Expr} {we : DTE} {p pos : Pos}
end
@[simp] theorem s_repr (we : DTE) (ρ : Rho) (κ : Kap) (P : R → Kap → Prop) : wRepr we ρ κ P = we ρ κ fun r κ1 => Opt (val κ1 r.st) fun x => TextOk x ∧ P (.d (.str x.shown)) κ1 := rfl
def wMulB (wa wb : DTE) : DTE := fun ρ κ P => wa ρ κ fun r κ1 => match r with
  | .b ks => wb ρ κ1 fun q κ2 => match q with
    | .d (.int n) => 0 ≤ n ∧ n < 2 ^ 63 ∧ ks.length * n.toNat ≤ sizeLine ∧ P (.b (List.replicate n.toNat ks).flatten) κ2
    | _ => False
  | _ => False
@[simp] theorem s_mulB (wa wb : DTE) (ρ : Rho) (κ : Kap) (P : R → Kap → Prop) : wMulB wa wb ρ κ P = wa ρ κ fun r κ1 => match r with
  | .b ks => wb ρ κ1 fun q κ2 => match q with
    | .d (.int n) => 0 ≤ n ∧ n < 2 ^ 63 ∧ ks.length * n.toNat ≤ sizeLine ∧ P (.b (List.replicate n.toNat ks).flatten) κ2
    | _ => False
  | _ => False := rfl
end DL
namespace SH
open PySem PySem.Spec PyProof.Rows L2 DL
@[simp] theorem s_chain (g g' : PyData → PyData → Option Out) (wa wb wc : DTE) (ρ : Rho) (κ : Kap) (P : R → Kap → Prop) : wChain g g' wa wb wc ρ κ P = wa ρ κ fun r1 κ1 => wb ρ κ1 fun r2 κ2 => Opt (val κ2 r1.st) fun x => Opt (val κ2 r2.st) fun y => Opt (g x y) fun o => match o with
  | .v (.bool z) => if z = true then wc ρ κ2 fun r3 κ3 => Opt (val κ3 r2.st) fun y' => Opt (val κ3 r3.st) fun u => Opt (g' y' u) fun o' => P o'.r κ3 else P (.d (.bool false)) κ2
  | _ => False := rfl
theorem eqD_ss (neg : Bool) (a b : Str) : eqD neg (.str a) (.str b) = some (.v (.bool (if neg then !decide (a = b) else decide (a = b)))) := rfl
theorem cut_drop {α : Type} (xs : List α) (m : Nat) : cut xs (some (m : Int)) none = xs.drop m := by
  unfold cut
  have h1 : HT.sIx xs.length 0 (some (m : Int)) = min m xs.length := HT.sIx_nat _ _ m
  have h2 : HT.sIx xs.length xs.length none = xs.length := rfl
  rw [h1, h2]
  rw [List.take_of_length_le (by rw [List.length_drop]; omega)]
  by_cases c : m ≤ xs.length
  · rw [Nat.min_eq_left c]
  · rw [Nat.min_eq_right (by omega), List.drop_length, List.drop_of_length_le (by omega)]
theorem cut_mid {α : Type} (xs : List α) (n m : Nat) : cut xs (some (n : Int)) (some ((n : Int) + (m : Int))) = (xs.drop n).take m := by
  rw [← Int.natCast_add]
  unfold cut
  rw [show HT.sIx xs.length 0 (some (n : Int)) = min n xs.length from HT.sIx_nat _ _ n, show HT.sIx xs.length xs.length (some ((n + m : Nat) : Int)) = min (n + m) xs.length from HT.sIx_nat _ _ (n + m)]
  by_cases c : n ≤ xs.length
  · rw [Nat.min_eq_left c]
    by_cases c2 : n + m ≤ xs.length
    · rw [Nat.min_eq_left c2, Nat.add_sub_cancel_left]
    · rw [Nat.min_eq_right (by omega), List.take_of_length_le (by rw [List.length_drop]; omega), List.take_of_length_le (by rw [List.length_drop]; omega)]
  · rw [List.drop_of_length_le (by omega), List.drop_of_length_le (by omega), List.take_nil, List.take_nil]
def Ph_law_bent (bs : List PyData) (rs : List R) (P : R → List PyData → Prop) : Prop := ∃ (N : Int) (ns : List Str) (row : Row), Box N bs ∧ N ≤ 2 ^ 38 ∧ rs = [.d (.list (ns.map .str)), .d (.list (row.map hookD))] ∧ 2 ≤ ns.length ∧ ns.length ≤ 1000 ∧ Names ns ∧ RowOf ns row ∧ row.length ≤ 1000 ∧
  ∀ (r : Row) (bs' : List PyData), RowOf ns r → r.length ≤ row.length + 1 → Box (N + 5) bs' → P (.f (r.map hookD)) bs'
/-- _law_bent -/
def w_law_bent : DTS := (wSeq (wPar 3 4 (wConsM false (wCallL Ph_law_take (wCons (wVar 0) (wCons (wC (.int 5)) wNil))) (wConsM false (wCallL Ph_law_take (wCons (wVar 0) (wCons (wBin addD (wCB lenD (wCons (wVar 2) wNil)) (wC (.int 1))) wNil))) wNil)))
  (wSeq (wIfS (wOr (wB (wBin (eqD false) (wVar 3) (wC (.int 0)))) (wB (wBin (eqD false) (wVar 4) (wCB lenD (wCons (wVar 2) wNil))))) (wRet (wBin addD (wBin addD (wSl (wVar 2) wNoP (wP (wVar 4))) (wLst (wCons (wCallL Ph_law_hook (wCons (wVar 0) (wCons (wVar 1) wNil))) wNil))) (wSl (wVar 2) (wP (wVar 4)) wNoP))) wNext)
  (wSeq (wIfS (wB (wBin (eqD false) (wVar 3) (wC (.int 1)))) (wRet (wBin addD (wSl (wVar 2) wNoP (wP (wVar 4))) (wSl (wVar 2) (wP (wBin addD (wVar 4) (wC (.int 1)))) wNoP))) wNext)
  (wSeq (wIfS (wB (wBin (eqD false) (wVar 3) (wC (.int 2)))) (wSeq (wAsg (wBin ixD (wVar 2) (wVar 4)) (wTupG 3 (wgCons (wName 5) (wgCons (wName 6) (wgCons (wName 7) wgNil)))))
  (wRet (wBin addD (wBin addD (wSl (wVar 2) wNoP (wP (wVar 4))) (wLst (wCons (wTup (wCons (wVar 5) (wCons (wVar 6) (wCons (wUn negD (wVar 7)) wNil)))) wNil))) (wSl (wVar 2) (wP (wBin addD (wVar 4) (wC (.int 1)))) wNoP)))) wNext)
  (wSeq (wIfS (wB (wBin (eqD false) (wVar 3) (wC (.int 3)))) (wRet (wBin addD (wBin addD (wSl (wVar 2) wNoP (wP (wVar 4))) (wRevS (wSl (wVar 2) (wP (wVar 4)) (wP (wBin addD (wVar 4) (wC (.int 2))))))) (wSl (wVar 2) (wP (wBin addD (wVar 4) (wC (.int 2)))) wNoP))) wNext)
  (wRet (wBin addD (wBin addD (wSl (wVar 2) wNoP (wP (wVar 4))) (wSl (wVar 2) (wP (wVar 4)) (wP (wBin addD (wVar 4) (wC (.int 1)))))) (wSl (wVar 2) (wP (wVar 4)) wNoP))))))))
theorem add_rows {x y : Row} (h : x.length + y.length ≤ 10000) : addD (.list (x.map hookD)) (.list (y.map hookD)) = some (.n ((x ++ y).map hookD)) := by
  rw [addD_list (by rw [List.length_map, List.length_map, sizeLine_eq]; omega), ← List.map_append]
theorem r_law_bent (bs : List PyData) (rs : List R) (Pd : R → List PyData → Prop) (h : Ph_law_bent bs rs Pd) (hl : rs.length = 2) : w_law_bent { nx := fun _ κ => endL κ (.d .none) Pd, rt := fun r κ => endL κ r Pd } (some (.c 0) :: (rs.map some ++ List.replicate 5 none)) [.l bs] := by
  obtain ⟨N, ns, row, hb, hN, rfl, n2, n3, hn, hr, rl, k⟩ := h
  clear hl
  have sz : 3 ≤ sizeLine := by rw [sizeLine_eq]; decide
  simp only [List.map_cons, List.map_nil, List.replicate_succ, List.replicate_zero, List.cons_append, List.nil_append]
  unfold w_law_bent
  simp only [s_seq, s_par, s_consM, s_callL, s_cons, s_nil, s_c, s_var, List.getElem?_cons_succ, List.getElem?_cons_zero, st_c, st_d, lend_c, args_d, DL.args_nil, Opt_some]
  refine ⟨N, 5, hb, by omega, rfl, by decide, by decide, fun w bs1 w0 w1 hb1 => ?_⟩
  simp only [lab_d, sto_d, st_d, List.set_cons_zero, s_bin, s_callL, s_cons, s_nil, s_c, s_cb, s_var, List.getElem?_cons_succ, List.getElem?_cons_zero, st_c, lend_c, args_d, DL.args_nil, Opt_some, vals_cons, vals_nil, val_d, lenD_list, List.length_map, out_v, addD_int]
  refine ⟨N + 1, (row.length : Int) + 1, hb1, by omega, rfl, by omega, by omega, fun a bs2 a0 a1 hb2 => ?_⟩
  obtain ⟨n, rfl⟩ := Int.eq_ofNat_of_zero_le a0
  have ln : n ≤ row.length := by omega
  have tk : ∀ m, RowOf ns (row.take m) := fun m x hx => hr x (List.mem_of_mem_take hx)
  have dk : ∀ m, RowOf ns (row.drop m) := fun m x hx => hr x (List.mem_of_mem_drop hx)
  have tl : (row.take n).length = n := by rw [List.length_take]; omega
  have dl : ∀ m, (row.drop m).length = row.length - m := fun m => List.length_drop ..
  have fin : ∀ r : Row, RowOf ns r → r.length ≤ row.length + 1 → endL [.l bs2] (.f (r.map hookD)) Pd := fun r h1 h2 => k r bs2 h1 h2 (hb2.mono (by omega))
  simp only [lab_d, sto_d, st_d, List.set_cons_zero, List.set_cons_succ, val_d, Opt_some, out_v, s_if, s_or, s_B, s_bin, s_cb, s_cons, s_nil, s_var, s_c, List.getElem?_cons_succ, List.getElem?_cons_zero, vals_cons, vals_nil, lenD_list, List.length_map, eqD_ii, Bool.false_eq_true, if_false]
  have first : wRet (wBin addD (wBin addD (wSl (wVar 2) wNoP (wP (wVar 4))) (wLst (wCons (wCallL Ph_law_hook (wCons (wVar 0) (wCons (wVar 1) wNil))) wNil))) (wSl (wVar 2) (wP (wVar 4)) wNoP)) { nx := fun _ κ => endL κ (.d .none) Pd, rt := fun r κ => endL κ r Pd }
      [some (.c 0), some (.d (.list (ns.map .str))), some (.d (.list (row.map hookD))), some (.d (.int w)), some (.d (.int n)), none, none, none] [.l bs2] := by
    simp only [s_ret, s_bin, s_sl, s_noP, s_P, s_lst, s_cons, s_nil, s_callL, s_var, List.getElem?_cons_succ, List.getElem?_cons_zero, st_c, st_d, val_d, Opt_some, slD_list, cut_take, cut_drop, out_n, lend_c, args_d, DL.args_nil]
    refine ⟨N + 1 + 1, ns, hb2, by omega, rfl, n2, n3, hn, fun h bs3 hh hb3 => ?_⟩
    simp only [lab_d, st_d, List.set_cons_zero, dats_d, dats_nil, Opt_some, List.length_cons, List.length_nil, st_f, val_f, ← List.map_take, ← List.map_drop]
    refine ⟨by omega, ?_⟩
    rw [show [hookD h] = [h].map hookD from rfl]
    simp only [val_d, Opt_some]
    rw [add_rows (by simp; omega)]
    simp only [Opt_some, out_n, st_f, val_f, val_d]
    rw [add_rows (by have := dl n; simp; omega)]
    refine k _ bs3 (((tk n).app fun x hx => ?_).app (dk n)) ?_ (hb3.mono (by omega))
    · rw [List.mem_singleton.mp hx]; exact hh
    · rw [List.length_append, List.length_append, tl, dl]; simp; omega
  by_cases c0 : w = 0
  · rw [decide_eq_true c0]
    exact first
  rw [decide_eq_false c0]
  by_cases cn : (n : Int) = (row.length : Int)
  · rw [decide_eq_true cn]
    exact first
  rw [decide_eq_false cn]
  have n1 : ((n : Int) + 1) = ((n + 1 : Nat) : Int) := by omega
  have n22 : ((n : Int) + 2) = ((n + 2 : Nat) : Int) := by omega
  simp only [Bool.false_eq_true, if_false, s_next, s_seq, s_if, s_B, s_bin, s_var, s_c, List.getElem?_cons_succ, List.getElem?_cons_zero, st_d, val_d, Opt_some, out_v, eqD_ii]
  by_cases c1 : w = 1
  · simp only [decide_eq_true c1, if_true, s_ret, s_bin, s_sl, s_noP, s_P, s_var, s_c, List.getElem?_cons_succ, List.getElem?_cons_zero, st_d, val_d, Opt_some, slD_list, addD_int, out_v, n1, cut_take, cut_drop, out_n, st_f, val_f, ← List.map_take, ← List.map_drop]
    rw [add_rows (by have := dl (n + 1); omega)]
    exact fin _ ((tk n).app (dk _)) (by rw [List.length_append, tl, dl]; omega)
  simp only [decide_eq_false c1, Bool.false_eq_true, if_false, s_next, s_seq, s_if, s_B, s_bin, s_var, s_c, List.getElem?_cons_succ, List.getElem?_cons_zero, st_d, val_d, Opt_some, out_v, eqD_ii]
  by_cases c2 : w = 2
  · obtain ⟨x, hx⟩ : ∃ x, row[n]? = some x := ⟨row[n]'(by omega), List.getElem?_eq_getElem (by omega)⟩
    have hxm := hr x (List.mem_of_getElem? hx)
    have ix : ixD (.list (row.map hookD)) (.int (n : Int)) = some (.v (hookD x)) := ixD_list (atI_nat (j := n) (by rw [List.getElem?_map, hx]; rfl))
    simp only [decide_eq_true c2, if_true, s_seq, s_asg, s_bin, s_var, List.getElem?_cons_succ, List.getElem?_cons_zero, st_d, val_d, Opt_some, ix, out_v]
    unfold hookD
    simp only [s_tupG, s_gcons, s_gnil, s_name, List.length_cons, List.length_nil, true_and, List.set_cons_succ, List.set_cons_zero, s_ret, s_bin, s_sl, s_noP, s_P, s_lst, s_tup, s_cons, s_nil, s_un, s_var, s_c, List.getElem?_cons_succ, List.getElem?_cons_zero, st_d, val_d, Opt_some, addD_int, n1, cut_take, cut_drop, slD_list, out_n, out_v, dats_d, dats_nil, negD_int, st_f, val_f]
    refine ⟨sz, by omega, ?_⟩
    rw [← List.map_take, ← List.map_drop]
    have a1 := add_rows (x := row.take n) (y := [turned x]) (by simp; omega)
    have a2 := add_rows (x := row.take n ++ [turned x]) (y := row.drop (n + 1)) (by have := dl (n + 1); simp; omega)
    have ff := fin (row.take n ++ [turned x] ++ row.drop (n + 1)) (((tk n).app fun z hz => by rw [List.mem_singleton.mp hz]; exact hxm.turn).app (dk _)) (by rw [List.length_append, List.length_append, tl, dl]; simp; omega)
    unfold hookD at a1 a2 ff
    simp only [List.map_cons, List.map_nil, turned] at a1
    rw [a1]
    simp only [Opt_some, out_n, st_f, val_f, val_d]
    rw [show (PyData.list (List.map (fun h : Hook => PyData.tuple [PyData.str h.1, PyData.str h.2.1, PyData.int h.2.2]) (List.take n row ++ [(x.1, x.2.1, -x.2.2)]))) = (PyData.list (List.map (fun h : Hook => PyData.tuple [PyData.str h.1, PyData.str h.2.1, PyData.int h.2.2]) (List.take n row ++ [turned x]))) from rfl, a2]
    exact ff
  simp only [decide_eq_false c2, Bool.false_eq_true, if_false, s_next, s_seq, s_if, s_B, s_bin, s_var, s_c, List.getElem?_cons_succ, List.getElem?_cons_zero, st_d, val_d, Opt_some, out_v, eqD_ii]
  have m1 := cut_mid (row.map hookD) n 1
  have m2 := cut_mid (row.map hookD) n 2
  have ml : ∀ m, ((row.drop n).take m).length ≤ row.length - n := fun m => by rw [List.length_take, dl]; omega
  have mo : ∀ m, RowOf ns ((row.drop n).take m) := fun m x hx => dk n x (List.mem_of_mem_take hx)
  by_cases c3 : w = 3
  · simp only [decide_eq_true c3, if_true, s_ret, s_bin, s_sl, s_noP, s_P, s_revS, s_var, s_c, List.getElem?_cons_succ, List.getElem?_cons_zero, st_d, val_d, Opt_some, slD_list, addD_int, out_v, cut_take, out_n, st_f, val_f, show ((n : Int) + 2) = ((n : Int) + (2 : Nat)) from rfl, m2]
    rw [show ((n : Int) + (2 : Nat)) = ((n + 2 : Nat) : Int) from rfl]
    simp only [cut_drop, ← List.map_take, ← List.map_drop, ← List.map_reverse]
    have l2 := ml 2
    rw [add_rows (by simp at l2 ⊢; omega)]
    simp only [Opt_some, out_n, st_f, val_f, val_d]
    rw [add_rows (by have := dl (n + 2); simp at l2 this ⊢; omega)]
    refine fin _ (((tk n).app fun x hx => mo 2 x (List.mem_reverse.mp hx)).app (dk _)) ?_
    rw [List.length_append, List.length_append, List.length_reverse, tl, dl, List.length_take, dl]
    omega
  · simp only [decide_eq_false c3, Bool.false_eq_true, if_false, s_next, s_ret, s_bin, s_sl, s_noP, s_P, s_var, s_c, List.getElem?_cons_succ, List.getElem?_cons_zero, st_d, val_d, Opt_some, slD_list, addD_int, out_v, cut_take, cut_drop, out_n, st_f, val_f, show ((n : Int) + 1) = ((n : Int) + (1 : Nat)) from rfl, m1]
    simp only [← List.map_take, ← List.map_drop]
    have l2 := ml 1
    rw [add_rows (by simp at l2 ⊢; omega)]
    simp only [Opt_some, out_n, st_f, val_f, val_d]
    rw [add_rows (by have := dl n; simp at l2 this ⊢; omega)]
    refine fin _ (((tk n).app (mo 1)).app (dk _)) ?_
    rw [List.length_append, List.length_append, tl, dl, List.length_take, dl]
    omega
end SH
namespace SH
open PySem PySem.Spec PyProof.Rows L2 DL
theorem RowIn.app {r q : Row} (h : RowIn r) (h2 : RowIn q) : RowIn (r ++ q) := fun x hx => (List.mem_append.mp hx).elim (h x) (h2 x)
theorem RowIn.back {r : Row} (h : RowIn r) : RowIn (SH.back r) := fun x hx => by
  unfold SH.back at hx
  obtain ⟨y, hy, rfl⟩ := List.mem_map.mp hx
  exact h y (List.mem_reverse.mp hy)
theorem RowIn.put {r q : Row} (h : RowIn r) (h2 : RowIn q) : RowIn (putF r q) := (h.app h2).least
theorem istt : truth (.bool true) = some true := rfl
theorem istf : truth (.bool false) = some false := rfl
end SH
namespace SH
open PySem PySem.Spec PyProof.Rows L2 DL
def withinF (ss tt : List Str) : Bool := ss.all fun z => decide (z ∈ tt)
def Ph_is_within (rs : List R) (P : R → Prop) : Prop := ∃ (ss tt : List Str) (D E : PyData), NmD D ss ∧ NmD E tt ∧ rs = [.d D, .d E] ∧ ss.length ≤ 1000000 ∧ P (.d (.bool (withinF ss tt)))
/-- is_within -/
def w_is_within : DTS := (wRet (wCB (allC fun bs => bs.all id) (wCons (wLc (wSq (wVar 0)) (wName 2) wYes (wBin (inD false) (wVar 2) (wVar 1)) [2]) wNil)))
theorem r_is_within (rs : List R) (Pd : R → Prop) (h : Ph_is_within rs Pd) (hl : rs.length = 2) : w_is_within { nx := fun _ _ => Pd (.d .none), rt := fun r κ => Opt (outR κ 0 r) Pd } (rs.map some ++ List.replicate 1 none) [] := by
  obtain ⟨ss, tt, D, E, hD, hE, rfl, l1, k⟩ := h
  have fin : ∀ {ok : Kap → Prop} {κ : Kap}, ok κ → lcL ok (wName 2) wYes (wBin (inD false) (wVar 2) (wVar 1)) [some (.d D), some (.d E), none]
      (fun r κ1 => Opt (vals κ1 [r.st]) fun xs => Opt (allC (fun bs => bs.all id) xs) fun o => Opt (outR κ1 0 o.r) Pd) (ss.map .str) [] κ := fun {ok κ} hok => by
    refine lc_map PyData.str (fun z => .bool (decide (z ∈ tt))) hok ss [] (by rw [sizeLine_eq, List.length_nil]; omega) (fun z hz C hC => ?_) ?_
    · have e := in_names false hE (hD.2 z hz)
      simp [e]
      exact hC
    · have e := all_f (fun z => decide (z ∈ tt)) ss
      simp [e]
      simpa [withinF] using k
  unfold w_is_within
  obtain ⟨hD1, hD2⟩ := hD
  rcases hD1 with rfl | rfl
  all_goals simp only [s_ret, s_cb, s_cons, s_nil, s_lc, s_sq, s_var, List.map_cons, List.map_nil, List.replicate_succ, List.replicate_zero, List.cons_append, List.nil_append, List.getElem?_cons_zero, st_d, val_d, Opt_some]
  all_goals exact fin trivial
theorem rep_of {ns : List Str} {r : Row} (h : RowOf ns r) (n : Nat) : RowOf ns (List.replicate n r).flatten := fun x hx => by
  obtain ⟨l, hl, hx⟩ := List.mem_flatten.mp hx
  rw [(List.mem_replicate.mp hl).2] at hx
  exact h x hx
def pureF (r : Row) (ss : List Str) : Bool := withinF (ropesF (leastF r)) ss && ss.all fun z => decide (leastF (drawnF r [z]) = [])
theorem truth_b (b : Bool) : truth (.bool b) = some b := rfl
end SH
namespace SH
open PySem PySem.Spec PyProof.Rows L2 DL
theorem subs_mem : ∀ (ns : List Str) (f : List (List Str)) (s t : List Str), t ∈ f → s.Sublist ns → t ++ s ∈ ns.foldl stepF f
  | [], f, s, t, ht, hs => by
    have e : s = [] := List.eq_nil_of_length_eq_zero (Nat.le_zero.mp hs.length_le)
    rw [e, List.append_nil]
    exact ht
  | z :: ns, f, s, t, ht, hs => by
    rw [List.foldl_cons]
    cases hs with
    | cons _ h => exact subs_mem ns (stepF f z) s t (List.mem_append.mpr (.inl ht)) h
    | @cons_cons s' _ _ h =>
      have := subs_mem ns (stepF f z) s' (t ++ [z]) (List.mem_append.mpr (.inr (List.mem_map.mpr ⟨t, ht, rfl⟩))) h
      simpa using this
theorem sets_mem {ns : List Str} {low : Nat} {s : List Str} : s ∈ setsF ns low ↔ s.Sublist ns ∧ low ≤ s.length := by
  refine ⟨sets_of, fun ⟨h1, h2⟩ => List.mem_filter.mpr ⟨(List.mergeSort_perm _ _).mem_iff.mpr ?_, decide_eq_true h2⟩⟩
  have := subs_mem ns [[]] s [] (List.mem_singleton.mpr rfl) h1
  rw [List.nil_append] at this
  exact this
theorem leLen_short {s t : List Str} (h : s.length < t.length) : leLen s t = true := by
  have e : PyProof.Rows.lexLt itemOrd (PySem.W.keyToks (keyLen t)) (PySem.W.keyToks (keyLen s)) = false := by
    simp only [keyLen, PySem.W.keyToks, toks_all_cons', List.singleton_append]
    rw [lex_self (O := itemOrd), lex_diff (O := itemOrd) (by
      intro q
      have := Sum.inl.inj q
      omega)]
    show decide ((t.length : Int) < (s.length : Int)) = false
    exact decide_eq_false (by omega)
  simp only [leLen, PySem.W.dataLt, e, Bool.not_false]
theorem within_iff {s t : List Str} : withinF s t = true ↔ ∀ z ∈ s, z ∈ t := by
  unfold withinF
  simp
theorem Names.sub {s t : List Str} (h : Names t) (k : s.Sublist t) : Names s := ⟨fun z hz => h.1 z (k.subset hz), h.2.sublist k⟩
theorem names_sub {s t : List Str} (hs : s.Pairwise fun x y => cs x < cs y) (ht : t.Pairwise fun x y => cs x < cs y) (h : ∀ z ∈ s, z ∈ t) : s.Sublist t := by
  have e : s = t.filter fun z => decide (z ∈ s) := strict_uniq hs (ht.sublist List.filter_sublist) fun z => by
    rw [List.mem_filter, decide_eq_true_eq]
    exact ⟨fun q => ⟨h z q, q⟩, fun q => q.2⟩
  rw [e]
  exact List.filter_sublist
end SH
namespace DL
open PySem PySem.Spec PyProof.Rows L2
section
variable {P : Program} {w : World} {A : Around} {E : Value → Shared → Prop}
/-- where a list's items lie -/
def ListsAt (h : Heap) (us : List Value) (ls : List (List Value)) : Prop := PySem.W.EachIs (fun (u : Value) (its : List Value) => ∃ (b : Addr) (n : Nat), u = .ref b ∧ h.get? b = some (seqObj "list" its.toArray n)) us ls
theorem ListsAt.keeps {h h' : Heap} (k : ∀ b o, h.get? b = some o → h'.get? b = some o) : ∀ {us : List Value} {ls : List (List Value)}, ListsAt h us ls → ListsAt h' us ls
  | _, _, .nil => .nil
  | _, _, .cons r t => by
    obtain ⟨b, n, e, q⟩ := r
    exact .cons ⟨b, n, e, k _ _ q⟩ (ListsAt.keeps k t)
theorem ListsAt.get {h : Heap} : ∀ {us : List Value} {ls : List (List Value)} {i : Nat} {u : Value}, ListsAt h us ls → us[i]? = some u → ∃ its b n, ls[i]? = some its ∧ u = .ref b ∧ h.get? b = some (seqObj "list" its.toArray n)
  | _, _, _, _, .nil, e => by simp at e
  | _, _, 0, u, .cons r _, e => by
    obtain ⟨b, n, e1, q⟩ := r
    exact ⟨_, b, n, rfl, (Option.some.inj e).symm.trans e1, q⟩
  | _, _, i + 1, u, .cons _ t, e => ListsAt.get (i := i) t (by simpa using e)
end
section
variable {X : Cx} {e : Expr} {we : DTE} {p pos lpos : Pos}
end
def wInsert (wo wi wa : DTE) : DTE := fun ρ κ P => wo ρ κ fun ro κ1 => match ro with
  | .c k => (∃ zs, κ1[k]? = some (.l zs)) ∧ wi ρ κ1 fun ri κ2 => match ri with
    | .d (.int i) => wa ρ κ2 fun r κ3 => Opt (dat κ3 r.st) fun q => match q.2[k]? with
      | some (.l xs) => xs.length < 1000000 ∧ 0 ≤ i ∧ i < 2 ^ 62 ∧ P (.d .none) (q.2.set k (.l (xs.take i.toNat ++ [q.1] ++ xs.drop i.toNat)))
      | _ => False
    | _ => False
  | _ => False
section
variable {X : Cx} {o a i : Expr} {wo wa wi : DTE} {apos cpos pos : Pos}
theorem de_insert (ho : DE X o wo) (hi : DE X i wi) (ha : DE X a wa) (hbase : attributeBase o "insert" X.env (eval o X.env) = eval o X.env := by rfl)
    (hfew : ((backTo cpos (starEach [i, a] X.env)).all (fun x => !x.1) && (backToKw cpos (keywordEach [] X.env)).all (fun x => x.1.isSome) && decide (([i, a] : List Expr).length + ([] : List Keyword).length + (if ([] : List Keyword).isEmpty then 0 else 1) < 30)) = true := by rfl)
    (hline : (apos.endLine == cpos.line) = true := by rfl) (hs : starEach [i, a] X.env = (false, eval i X.env) :: starEach [a] X.env := by rfl) (hs2 : starEach [a] X.env = (false, eval a X.env) :: starEach [] X.env := by rfl) (hplain : (backTo cpos (starEach [a] X.env)).any (·.1) = false := by rfl) :
    DE X (.Call (.Attribute o "insert" apos) [i, a] [] cpos) (wInsert wo wi wa) := by
  obtain ⟨to, po, ho⟩ := ho
  obtain ⟨ti, pi, hi⟩ := hi
  obtain ⟨ta, pa, ha⟩ := ha
  refine ⟨_, pe_bm PySem.F.plainAttrs_list PySem.F.slot_list_insert PySem.F.type_list_insert mt_insert po (pa_cons pi (pa_cons pa pa_nil hs2) hs) hbase hfew hline hs hplain, fun G H As σ ρ κ P Q c p w k => ?_⟩
  refine ho G H As σ ρ κ _ _ c p w fun v1 r1 G1 H1 As1 κ1 s1 c1 p1 i1 w1 => ?_
  cases r1 with
  | c kk =>
    obtain ⟨l, hl, rfl⟩ := i1
    obtain ⟨⟨zs, ez⟩, w1⟩ := w1
    obtain ⟨_, zv, z2, _⟩ := c1.ok kk _ l ez hl
    refine ⟨.inl ⟨rfl, zv, sql_of z2⟩, ?_⟩
    refine hi G1 H1 As1 σ ρ κ1 _ _ c1 p1 w1 fun vi ri Gi Hi Asi κi si ci pi' ii wi' => ?_
    split at wi'
    · rename_i n
      have ii : Rp X.K Gi vi (.int n) := ii
      cases ii
      refine ha Gi Hi Asi σ ρ κi _ _ ci pi' wi' fun v2 r2 G2 H2 As2 κ2 s2 c2 p2 i2 w2 => ?_
      obtain ⟨G2', s2', c2', p2', i2', _⟩ := settle s2 c2 p2 i2
      obtain ⟨⟨x, κ3⟩, e3, w3⟩ := w2.ex
      obtain ⟨G3, s3, c3, r3⟩ := dat_ok c2' i2' e3
      have st := (si.trans s2').trans s3
      obtain ⟨bs, eb⟩ := st.pre
      have hl3 : As2[kk]? = some l := by rw [eb, List.getElem?_append_left (List.getElem?_eq_some_iff.mp hl).1]; exact hl
      simp only at w3
      cases q : κ3[kk]? with
      | none => rw [q] at w3; exact w3.elim
      | some cc =>
        rw [q] at w3
        cases cc with
        | z y => exact w3.elim
        | m y => exact w3.elim
        | k y => exact w3.elim
        | x y => exact w3.elim
        | l xs =>
          obtain ⟨w4, n0, n1, w5⟩ := w3
          obtain ⟨g0, vs, hq, rp⟩ := c3.ok kk _ l q hl3
          have hz := sizeLine_eq
          refine ⟨l, vs, n, v2, rfl, rfl, hq, by rw [rp.len]; omega, n0, by omega, ?_⟩
          have sw : Step G3 H2 As2 G3 (upd H2 l (.lst (vs.take n.toNat ++ [v2] ++ vs.drop n.toNat))) As2 := Step.write (List.mem_of_getElem? hl3) hq
          have sa := (s1.trans st).trans sw
          exact k .non (.d .none) G3 _ As2 _ sa (c3.write q hl3 (((RpA.take n.toNat rp).app (.cons r3 .nil)).app (RpA.drop n.toNat rp))) (p.step sa) .non w5
    · exact wi'.elim
  | _ => exact w1.elim
end
end DL
namespace SH
open PySem PySem.Spec PyProof.Rows L2 DL
def Ph_law_sets (rs : List R) (P : R → Prop) : Prop := ∃ (ns : List Str) (low : Nat), rs = [.d (.list (ns.map .str)), .d (.int (low : Nat))] ∧ ns.length ≤ 8 ∧ P (.f ((setsF ns low).map strsD))
def wb_law_sets : DTS := (wSet false 2 (wBin addD (wVar 2) (wLc (wSq (wVar 2)) (wName 4) wYes (wBin addD (wVar 4) (wTup (wCons (wVar 3) wNil))) [4])))
/-- _law_sets -/
def w_law_sets : DTS := (wSeq (wSet false 2 (wLst (wCons (wTup wNil) wNil)))
  (wSeq (wFor (wSq (wVar 0)) (wName 3) wb_law_sets)
  (wRet (wLc (wSq (wCB sortC (wCons (wLc (wSq (wVar 2)) (wName 4) wYes (wTup (wCons (wCB lenD (wCons (wVar 4) wNil)) (wCons (wVar 4) wNil))) [4]) wNil))) (wName 5) (wB (wBin (ciD geI) (wBin ixD (wVar 5) (wC (.int 0))) (wVar 1))) (wBin ixD (wVar 5) (wC (.int 1))) [5]))))
theorem sets_loop {E : DEnds} {ok : Kap → Prop} {p0 p1 : Option R} {κ : Kap} (hok : ok κ) : ∀ (zs : List Str) (f : List (List Str)) (p3 : Option R), f.length * 2 ^ zs.length ≤ 1000 → (∀ s ∈ f, s.length + zs.length ≤ 100) →
    (∀ p3, E.nx [p0, p1, some (.d (.list ((zs.foldl stepF f).map strsD))), p3, none, none] κ) →
    forL ok (wName 3) wb_law_sets E (zs.map .str) [p0, p1, some (.d (.list (f.map strsD))), p3, none, none] κ
  | [], f, p3, _, _, k => by
    rw [List.map_nil, forL_nil]
    exact k _
  | z :: zs, f, p3, hl, hs, k => by
    have hz := sizeLine_eq
    simp only [List.length_cons] at hl hs
    have p2 : 0 < 2 ^ zs.length := Nat.two_pow_pos _
    have hl2 : (f.length + f.length) * 2 ^ zs.length = f.length * 2 ^ (zs.length + 1) := by
      rw [Nat.pow_succ, Nat.mul_comm (2 ^ zs.length) 2, ← Nat.mul_assoc]
      congr 1
      omega
    have hf : f.length + f.length ≤ 1000 := by
      have := Nat.le_mul_of_pos_right (f.length + f.length) p2
      omega
    rw [List.map_cons, forL_cons, s_name]
    unfold wb_law_sets
    rw [s_set]
    simp only [s_callL, s_call, s_cons, s_consM, s_nil, s_c, s_var, s_bin, s_un, s_lst, s_tup, s_cb, s_B, s_tru, s_not, s_repr, List.getElem?_cons_succ, List.getElem?_cons_zero, List.set_cons_succ, List.set_cons_zero, st_d, st_f, st_c, val_d, val_f, dats_d, dats_nil, vals_cons, vals_nil, lend_c, args_d, DL.args_nil, Opt_some, out_v, out_n, out_t, lab_d, lab_f, sto_f, sto_d, List.length_cons, List.length_nil, lenD_list, lenD_tuple, listC_list, listC_tuple, tupC_list, tupC_tuple, istt, istf, Bool.not_true, Bool.not_false, Bool.false_eq_true, if_false, if_true, s_lc, s_sq, wipeR_cons, wipeR_nil]
    refine lc_map strsD (fun s => strsD (s ++ [z])) (by trivial) f [] (by rw [List.length_nil]; omega) (fun s hsm C hC => ?_) ?_
    · have := hs s hsm
      have e : addD (strsD s) (.tuple [.str z]) = some (.t ((s ++ [z]).map .str)) := by
        have h1 : (s.map PyData.str).length + [PyData.str z].length ≤ sizeLine := by simp; omega
        show addD (.tuple (s.map .str)) (.tuple [.str z]) = _
        rw [addD_tuple h1]
        simp
      rw [s_name]
      simp only [s_callL, s_call, s_cons, s_consM, s_nil, s_c, s_var, s_bin, s_un, s_lst, s_tup, s_cb, s_B, s_tru, s_not, s_repr, List.getElem?_cons_succ, List.getElem?_cons_zero, List.set_cons_succ, List.set_cons_zero, st_d, st_f, st_c, val_d, val_f, dats_d, dats_nil, vals_cons, vals_nil, lend_c, args_d, DL.args_nil, Opt_some, out_v, out_n, out_t, lab_d, lab_f, sto_f, sto_d, List.length_cons, List.length_nil, lenD_list, lenD_tuple, listC_list, listC_tuple, tupC_list, tupC_tuple, istt, istf, Bool.not_true, Bool.not_false, Bool.false_eq_true, if_false, if_true]
      refine ⟨by omega, ?_⟩
      simp only [s_callL, s_call, s_cons, s_consM, s_nil, s_c, s_var, s_bin, s_un, s_lst, s_tup, s_cb, s_B, s_tru, s_not, s_repr, List.getElem?_cons_succ, List.getElem?_cons_zero, List.set_cons_succ, List.set_cons_zero, st_d, st_f, st_c, val_d, val_f, dats_d, dats_nil, vals_cons, vals_nil, lend_c, args_d, DL.args_nil, Opt_some, out_v, out_n, out_t, lab_d, lab_f, sto_f, sto_d, List.length_cons, List.length_nil, lenD_list, lenD_tuple, listC_list, listC_tuple, tupC_list, tupC_tuple, istt, istf, Bool.not_true, Bool.not_false, Bool.false_eq_true, if_false, if_true, e]
      exact hC
    · have e : addD (.list (f.map strsD)) (.list (f.map fun s => strsD (s ++ [z]))) = some (.n ((stepF f z).map strsD)) := by
        rw [addD_list (by rw [List.length_map, List.length_map]; omega)]
        simp [stepF, Function.comp_def]
      simp only [s_callL, s_call, s_cons, s_consM, s_nil, s_c, s_var, s_bin, s_un, s_lst, s_tup, s_cb, s_B, s_tru, s_not, s_repr, List.getElem?_cons_succ, List.getElem?_cons_zero, List.set_cons_succ, List.set_cons_zero, st_d, st_f, st_c, val_d, val_f, dats_d, dats_nil, vals_cons, vals_nil, lend_c, args_d, DL.args_nil, Opt_some, out_v, out_n, out_t, lab_d, lab_f, sto_f, sto_d, List.length_cons, List.length_nil, lenD_list, lenD_tuple, listC_list, listC_tuple, tupC_list, tupC_tuple, istt, istf, Bool.not_true, Bool.not_false, Bool.false_eq_true, if_false, if_true, List.nil_append, e]
      refine ⟨hok, ?_⟩
      have lf : (stepF f z).length = f.length + f.length := by simp [stepF]
      refine sets_loop hok zs (stepF f z) _ (by rw [lf, hl2]; exact hl) (fun s hsm => ?_) k
      rcases List.mem_append.mp hsm with q | q
      · have := hs s q; omega
      · obtain ⟨u, hu, rfl⟩ := List.mem_map.mp q
        have := hs u hu
        rw [List.length_append, List.length_singleton]
        omega
theorem sort_keys (sss : List (List Str)) : (sss.map keyLen).mergeSort dLe = (sss.mergeSort leLen).map keyLen := (List.map_mergeSort (f := keyLen) (r := leLen) (s := dLe) (fun a _ b _ => rfl)).symm
theorem keys_ok {sss : List (List Str)} (h : sss.length ≤ 100000) : SortOk (sss.map keyLen) := by
  refine ⟨PySem.W.AllAlike.of alike_key, PySem.W.Sortable.tuples fun ss => ⟨_, _, rfl⟩, fun x hx => ?_, by rw [List.length_map, sizeLine_eq]; omega⟩
  obtain ⟨ss, _, rfl⟩ := List.mem_map.mp hx
  exact Nat.le_trans (depth_key ss) (by decide)
theorem r_law_sets (rs : List R) (Pd : R → Prop) (h : Ph_law_sets rs Pd) (hl : rs.length = 2) : w_law_sets { nx := fun _ _ => Pd (.d .none), rt := fun r κ => Opt (outR κ 0 r) Pd } (rs.map some ++ List.replicate 4 none) [] := by
  obtain ⟨ns, low, rfl, l1, k⟩ := h
  clear hl
  have hz := sizeLine_eq
  have hp : 2 ^ ns.length ≤ 2 ^ 8 := Nat.pow_le_pow_right (by decide) l1
  have hsl : (subsF ns).length = 1 * 2 ^ ns.length := subs_len ns [[]]
  simp only [List.map_cons, List.map_nil, List.replicate_succ, List.replicate_zero, List.cons_append, List.nil_append]
  unfold w_law_sets
  rw [s_seq, s_set]
  simp only [s_callL, s_call, s_cons, s_consM, s_nil, s_c, s_var, s_bin, s_un, s_lst, s_tup, s_cb, s_B, s_tru, s_not, s_repr, List.getElem?_cons_succ, List.getElem?_cons_zero, List.set_cons_succ, List.set_cons_zero, st_d, st_f, st_c, val_d, val_f, dats_d, dats_nil, vals_cons, vals_nil, lend_c, args_d, DL.args_nil, Opt_some, out_v, out_n, out_t, lab_d, lab_f, sto_f, sto_d, List.length_cons, List.length_nil, lenD_list, lenD_tuple, listC_list, listC_tuple, tupC_list, tupC_tuple, istt, istf, Bool.not_true, Bool.not_false, Bool.false_eq_true, if_false, if_true]
  refine ⟨by omega, by omega, ?_⟩
  rw [s_seq, s_for, s_sq]
  simp only [s_callL, s_call, s_cons, s_consM, s_nil, s_c, s_var, s_bin, s_un, s_lst, s_tup, s_cb, s_B, s_tru, s_not, s_repr, List.getElem?_cons_succ, List.getElem?_cons_zero, List.set_cons_succ, List.set_cons_zero, st_d, st_f, st_c, val_d, val_f, dats_d, dats_nil, vals_cons, vals_nil, lend_c, args_d, DL.args_nil, Opt_some, out_v, out_n, out_t, lab_d, lab_f, sto_f, sto_d, List.length_cons, List.length_nil, lenD_list, lenD_tuple, listC_list, listC_tuple, tupC_list, tupC_tuple, istt, istf, Bool.not_true, Bool.not_false, Bool.false_eq_true, if_false, if_true]
  refine sets_loop (ok := _) (by trivial) ns [[]] none (by show 1 * 2 ^ ns.length ≤ 1000; omega) (fun s hs => by rw [List.mem_singleton.mp hs]; show 0 + ns.length ≤ 100; omega) fun p3 => ?_
  dsimp only
  rw [s_ret, s_lc, s_sq]
  simp only [s_callL, s_call, s_cons, s_consM, s_nil, s_c, s_var, s_bin, s_un, s_lst, s_tup, s_cb, s_B, s_tru, s_not, s_repr, List.getElem?_cons_succ, List.getElem?_cons_zero, List.set_cons_succ, List.set_cons_zero, st_d, st_f, st_c, val_d, val_f, dats_d, dats_nil, vals_cons, vals_nil, lend_c, args_d, DL.args_nil, Opt_some, out_v, out_n, out_t, lab_d, lab_f, sto_f, sto_d, List.length_cons, List.length_nil, lenD_list, lenD_tuple, listC_list, listC_tuple, tupC_list, tupC_tuple, istt, istf, Bool.not_true, Bool.not_false, Bool.false_eq_true, if_false, if_true, s_lc, s_sq, wipeR_cons, wipeR_nil]
  refine lc_map strsD keyLen (by trivial) (subsF ns) [] (by rw [List.length_nil]; omega) (fun s hsm C hC => ?_) ?_
  · rw [s_name]
    have e : lenD [strsD s] = some (.v (.int (s.length : Nat))) := by
      show lenD [.tuple (s.map .str)] = _
      rw [lenD_tuple, List.length_map]
    simp only [s_callL, s_call, s_cons, s_consM, s_nil, s_c, s_var, s_bin, s_un, s_lst, s_tup, s_cb, s_B, s_tru, s_not, s_repr, List.getElem?_cons_succ, List.getElem?_cons_zero, List.set_cons_succ, List.set_cons_zero, st_d, st_f, st_c, val_d, val_f, dats_d, dats_nil, vals_cons, vals_nil, lend_c, args_d, DL.args_nil, Opt_some, out_v, out_n, out_t, lab_d, lab_f, sto_f, sto_d, List.length_cons, List.length_nil, lenD_list, lenD_tuple, listC_list, listC_tuple, tupC_list, tupC_tuple, istt, istf, Bool.not_true, Bool.not_false, Bool.false_eq_true, if_false, if_true, e]
    refine ⟨by omega, ?_⟩
    exact hC
  · simp only [s_callL, s_call, s_cons, s_consM, s_nil, s_c, s_var, s_bin, s_un, s_lst, s_tup, s_cb, s_B, s_tru, s_not, s_repr, List.getElem?_cons_succ, List.getElem?_cons_zero, List.set_cons_succ, List.set_cons_zero, st_d, st_f, st_c, val_d, val_f, dats_d, dats_nil, vals_cons, vals_nil, lend_c, args_d, DL.args_nil, Opt_some, out_v, out_n, out_t, lab_d, lab_f, sto_f, sto_d, List.length_cons, List.length_nil, lenD_list, lenD_tuple, listC_list, listC_tuple, tupC_list, tupC_tuple, istt, istf, Bool.not_true, Bool.not_false, Bool.false_eq_true, if_false, if_true, List.nil_append, sortC_list (keys_ok (sss := subsF ns) (by omega)), sort_keys]
    refine lc_filter keyLen (fun s => decide (low ≤ s.length)) strsD (by trivial) ((subsF ns).mergeSort leLen) [] (by rw [List.length_mergeSort, List.length_nil]; omega) (fun s hsm C hC => ?_) ?_
    · have i0 : ixD (keyLen s) (.int 0) = some (.v (.int (s.length : Nat))) := ixD_tuple (atI_nat (j := 0) rfl)
      have i1 : ixD (keyLen s) (.int 1) = some (.v (strsD s)) := ixD_tuple (atI_nat (j := 1) rfl)
      have hC := hC [some (.d (.list (ns.map .str))), some (.d (.int (low : Nat))), some (.d (.list ((subsF ns).map strsD))), p3, none, some (.d (keyLen s))] fun _ D hD => by
        simp only [s_callL, s_call, s_cons, s_consM, s_nil, s_c, s_var, s_bin, s_un, s_lst, s_tup, s_cb, s_B, s_tru, s_not, s_repr, List.getElem?_cons_succ, List.getElem?_cons_zero, List.set_cons_succ, List.set_cons_zero, st_d, st_f, st_c, val_d, val_f, dats_d, dats_nil, vals_cons, vals_nil, lend_c, args_d, DL.args_nil, Opt_some, out_v, out_n, out_t, lab_d, lab_f, sto_f, sto_d, List.length_cons, List.length_nil, lenD_list, lenD_tuple, listC_list, listC_tuple, tupC_list, tupC_tuple, istt, istf, Bool.not_true, Bool.not_false, Bool.false_eq_true, if_false, if_true, i1]
        exact hD
      rw [s_name]
      simp only [s_callL, s_call, s_cons, s_consM, s_nil, s_c, s_var, s_bin, s_un, s_lst, s_tup, s_cb, s_B, s_tru, s_not, s_repr, List.getElem?_cons_succ, List.getElem?_cons_zero, List.set_cons_succ, List.set_cons_zero, st_d, st_f, st_c, val_d, val_f, dats_d, dats_nil, vals_cons, vals_nil, lend_c, args_d, DL.args_nil, Opt_some, out_v, out_n, out_t, lab_d, lab_f, sto_f, sto_d, List.length_cons, List.length_nil, lenD_list, lenD_tuple, listC_list, listC_tuple, tupC_list, tupC_tuple, istt, istf, Bool.not_true, Bool.not_false, Bool.false_eq_true, if_false, if_true, i0, ciD_int]
      have e : geI (s.length : Int) (low : Int) = decide (low ≤ s.length) := by
        unfold geI
        exact decide_eq_decide.mpr (by omega)
      rw [e]
      exact hC
    · simp only [s_callL, s_call, s_cons, s_consM, s_nil, s_c, s_var, s_bin, s_un, s_lst, s_tup, s_cb, s_B, s_tru, s_not, s_repr, List.getElem?_cons_succ, List.getElem?_cons_zero, List.set_cons_succ, List.set_cons_zero, st_d, st_f, st_c, val_d, val_f, dats_d, dats_nil, vals_cons, vals_nil, lend_c, args_d, DL.args_nil, Opt_some, out_v, out_n, out_t, lab_d, lab_f, sto_f, sto_d, List.length_cons, List.length_nil, lenD_list, lenD_tuple, listC_list, listC_tuple, tupC_list, tupC_tuple, istt, istf, Bool.not_true, Bool.not_false, Bool.false_eq_true, if_false, if_true, List.nil_append, outR_f]
      exact k
def Ph_law_family (bs : List PyData) (rs : List R) (P : R → List PyData → Prop) : Prop := ∃ (N : Int) (ns : List Str) (most : Nat), Box N bs ∧ N ≤ 2 ^ 37 ∧ rs = [.d (.list (ns.map .str)), .d (.int (most : Nat))] ∧ ns.length ≤ 6 ∧
  ∀ (fam : List (List Str)) (bs' : List PyData), fam.Sublist (setsF ns 2) → fam.length ≤ most → Box (N + 200) bs' → P (.f (fam.map strsD)) bs'
def wt_family : DTT := (wB (wBin (ciD gtI) (wCB lenD (wCons (wVar 4) wNil)) (wVar 2)))
def wb_family : DTS := (wDrop (wPop1 (wVar 4) (wCallL Ph_law_take (wCons (wVar 0) (wCons (wCB lenD (wCons (wVar 4) wNil)) wNil)))))
/-- _law_family -/
def w_law_family : DTS := (wSeq (wSet false 3 (wCall Ph_law_sets (wCons (wVar 1) (wCons (wC (.int 2)) wNil))))
  (wSeq (wSet true 4 (wLc (wSq (wVar 3)) (wName 5) (wB (wBin (eqD false) (wCallL Ph_law_take (wCons (wVar 0) (wCons (wC (.int 3)) wNil))) (wC (.int 0)))) (wVar 5) [5]))
  (wSeq (wWhile wt_family wb_family)
  (wRet (wVar 4)))))
theorem fam_pick {ok : Kap → Prop} {p1 p2 p3 p4 : Option R} {P : R → Kap → Prop} (hok : ∀ κ, ok κ) : ∀ (xs acc : List (List Str)) (N : Int) (bs : List PyData), Box N bs → N + (xs.length : Int) < 2 ^ 40 → acc.length + xs.length ≤ 1000 →
    (∀ ys bs', ys.Sublist xs → Box (N + (xs.length : Int)) bs' → P (.f ((acc ++ ys).map strsD)) [.l bs']) →
    lcL ok (wName 5) (wB (wBin (eqD false) (wCallL Ph_law_take (wCons (wVar 0) (wCons (wC (.int 3)) wNil))) (wC (.int 0)))) (wVar 5) [some (.c 0), p1, p2, p3, p4, none] P (xs.map strsD) (acc.map strsD) [.l bs]
  | [], acc, N, bs, hb, _, _, k => by
    rw [List.map_nil, lcL_nil]
    have := k [] bs (List.Sublist.refl _) (by simpa using hb)
    simpa using this
  | x :: xs, acc, N, bs, hb, hN, hl, k => by
    have hz := sizeLine_eq
    simp only [List.length_cons] at hN hl k
    rw [List.map_cons, lcL_cons, s_name]
    simp only [s_callL, s_call, s_cons, s_consM, s_nil, s_c, s_var, s_bin, s_un, s_lst, s_tup, s_cb, s_B, s_tru, s_not, s_repr, List.getElem?_cons_succ, List.getElem?_cons_zero, List.set_cons_succ, List.set_cons_zero, st_d, st_f, st_c, val_d, val_f, dats_d, dats_nil, vals_cons, vals_nil, lend_c, args_d, DL.args_nil, Opt_some, out_v, out_n, out_t, lab_d, lab_f, sto_f, sto_d, List.length_cons, List.length_nil, lenD_list, lenD_tuple, listC_list, listC_tuple, tupC_list, tupC_tuple, istt, istf, Bool.not_true, Bool.not_false, Bool.false_eq_true, if_false, if_true]
    refine ⟨N, 3, hb, by omega, rfl, by decide, by decide, fun z bs1 z0 z1 hb1 => ?_⟩
    simp only [s_callL, s_call, s_cons, s_consM, s_nil, s_c, s_var, s_bin, s_un, s_lst, s_tup, s_cb, s_B, s_tru, s_not, s_repr, List.getElem?_cons_succ, List.getElem?_cons_zero, List.set_cons_succ, List.set_cons_zero, st_d, st_f, st_c, val_d, val_f, dats_d, dats_nil, vals_cons, vals_nil, lend_c, args_d, DL.args_nil, Opt_some, out_v, out_n, out_t, lab_d, lab_f, sto_f, sto_d, List.length_cons, List.length_nil, lenD_list, lenD_tuple, listC_list, listC_tuple, tupC_list, tupC_tuple, istt, istf, Bool.not_true, Bool.not_false, Bool.false_eq_true, if_false, if_true, eqD_int3, dat_d]
    by_cases c : z = 0
    · rw [if_pos (by rw [c]; rfl)]
      refine ⟨by rw [List.length_map]; omega, hok _, ?_⟩
      have e : acc.map strsD ++ [strsD x] = (acc ++ [x]).map strsD := by simp
      rw [e]
      refine fam_pick hok xs (acc ++ [x]) (N + 1) bs1 hb1 (by omega) (by simp; omega) fun ys bs2 h1 h2 => ?_
      have := k (x :: ys) bs2 (h1.cons_cons x) (h2.mono (by omega))
      simpa using this
    · rw [if_neg (by simp; exact c)]
      refine ⟨hok _, fam_pick hok xs acc (N + 1) bs1 hb1 (by omega) (by omega) fun ys bs2 h1 h2 => ?_⟩
      exact k ys bs2 (h1.cons x) (h2.mono (by omega))
theorem fam_while {E : DEnds} {p1 p3 p5 : Option R} {most : Nat} : ∀ (n : Nat) (fam : List (List Str)) (N : Int) (bs : List PyData), fam.length < n → n ≤ 1000 → Box N bs → N + (n : Int) < 2 ^ 40 →
    (∀ (fam' : List (List Str)) (bs' : List PyData), fam'.Sublist fam → fam'.length ≤ most → Box (N + (n : Int)) bs' → E.nx [some (.c 0), p1, some (.d (.int (most : Nat))), p3, some (.c 1), p5] [.l bs', .l (fam'.map strsD)]) →
    whileN wt_family wb_family E n [some (.c 0), p1, some (.d (.int (most : Nat))), p3, some (.c 1), p5] [.l bs, .l (fam.map strsD)]
  | 0, fam, N, bs, h, _, _, _, _ => absurd h (Nat.not_lt_zero _)
  | n + 1, fam, N, bs, hlt, hn, hb, hN, k => by
    have hz := sizeLine_eq
    show wt_family _ _ _
    unfold wt_family
    simp only [s_callL, s_call, s_cons, s_consM, s_nil, s_c, s_var, s_bin, s_un, s_lst, s_tup, s_cb, s_B, s_tru, s_not, s_repr, List.getElem?_cons_succ, List.getElem?_cons_zero, List.set_cons_succ, List.set_cons_zero, st_d, st_f, st_c, val_d, val_f, dats_d, dats_nil, vals_cons, vals_nil, lend_c, args_d, DL.args_nil, Opt_some, out_v, out_n, out_t, lab_d, lab_f, sto_f, sto_d, List.length_cons, List.length_nil, lenD_list, lenD_tuple, listC_list, listC_tuple, tupC_list, tupC_tuple, istt, istf, Bool.not_true, Bool.not_false, Bool.false_eq_true, if_false, if_true, val_c1, List.length_map, ciD_int]
    by_cases c : most < fam.length
    · have e : gtI (fam.length : Int) (most : Int) = true := decide_eq_true (by omega)
      rw [if_pos e]
      unfold wb_family
      simp
      refine ⟨N, fam.length, hb, by omega, rfl, by omega, by omega, fun r bs1 r0 r1 hb1 => ?_⟩
      obtain ⟨i, rfl⟩ : ∃ i : Nat, r = (i : Int) := ⟨r.toNat, by omega⟩
      have hi : i < fam.length := by omega
      have e1 : (fam.map strsD)[i]? = some (strsD fam[i]) := by rw [List.getElem?_map, List.getElem?_eq_getElem hi]; rfl
      simp [e1, erase_map]
      refine ⟨by omega, ?_⟩
      refine fam_while n (fam.eraseIdx i) (N + 1) bs1 ?_ (by omega) hb1 (by omega) fun fam' bs' h1 h2 h3 => ?_
      · rw [List.length_eraseIdx, if_pos hi]; omega
      · exact k fam' bs' (h1.trans (List.eraseIdx_sublist ..)) h2 (h3.mono (by omega))
    · have e : ¬ gtI (fam.length : Int) (most : Int) = true := fun z => absurd (of_decide_eq_true z) (by omega)
      rw [if_neg e]
      exact k fam bs (List.Sublist.refl _) (by omega) (hb.mono (by omega))
theorem r_law_family (bs : List PyData) (rs : List R) (Pd : R → List PyData → Prop) (h : Ph_law_family bs rs Pd) (hl : rs.length = 2) : w_law_family { nx := fun _ κ => endL κ (.d .none) Pd, rt := fun r κ => endL κ r Pd } (some (.c 0) :: (rs.map some ++ List.replicate 3 none)) [.l bs] := by
  obtain ⟨N, ns, most, hb, hN, rfl, l1, k⟩ := h
  clear hl
  have hz := sizeLine_eq
  have hp : 2 ^ ns.length ≤ 2 ^ 6 := Nat.pow_le_pow_right (by decide) l1
  have hsl := sets_len ns 2
  simp only [List.map_cons, List.map_nil, List.replicate_succ, List.replicate_zero, List.cons_append, List.nil_append]
  unfold w_law_family
  rw [s_seq, s_set]
  simp only [s_callL, s_call, s_cons, s_consM, s_nil, s_c, s_var, s_bin, s_un, s_lst, s_tup, s_cb, s_B, s_tru, s_not, s_repr, List.getElem?_cons_succ, List.getElem?_cons_zero, List.set_cons_succ, List.set_cons_zero, st_d, st_f, st_c, val_d, val_f, dats_d, dats_nil, vals_cons, vals_nil, lend_c, args_d, DL.args_nil, Opt_some, out_v, out_n, out_t, lab_d, lab_f, sto_f, sto_d, List.length_cons, List.length_nil, lenD_list, lenD_tuple, listC_list, listC_tuple, tupC_list, tupC_tuple, istt, istf, Bool.not_true, Bool.not_false, Bool.false_eq_true, if_false, if_true]
  refine ⟨ns, 2, rfl, by omega, ?_⟩
  simp only [s_callL, s_call, s_cons, s_consM, s_nil, s_c, s_var, s_bin, s_un, s_lst, s_tup, s_cb, s_B, s_tru, s_not, s_repr, List.getElem?_cons_succ, List.getElem?_cons_zero, List.set_cons_succ, List.set_cons_zero, st_d, st_f, st_c, val_d, val_f, dats_d, dats_nil, vals_cons, vals_nil, lend_c, args_d, DL.args_nil, Opt_some, out_v, out_n, out_t, lab_d, lab_f, sto_f, sto_d, List.length_cons, List.length_nil, lenD_list, lenD_tuple, listC_list, listC_tuple, tupC_list, tupC_tuple, istt, istf, Bool.not_true, Bool.not_false, Bool.false_eq_true, if_false, if_true]
  rw [s_seq, s_set, s_lc, s_sq]
  simp only [s_callL, s_call, s_cons, s_consM, s_nil, s_c, s_var, s_bin, s_un, s_lst, s_tup, s_cb, s_B, s_tru, s_not, s_repr, List.getElem?_cons_succ, List.getElem?_cons_zero, List.set_cons_succ, List.set_cons_zero, st_d, st_f, st_c, val_d, val_f, dats_d, dats_nil, vals_cons, vals_nil, lend_c, args_d, DL.args_nil, Opt_some, out_v, out_n, out_t, lab_d, lab_f, sto_f, sto_d, List.length_cons, List.length_nil, lenD_list, lenD_tuple, listC_list, listC_tuple, tupC_list, tupC_tuple, istt, istf, Bool.not_true, Bool.not_false, Bool.false_eq_true, if_false, if_true, wipeR_cons, wipeR_nil]
  refine fam_pick (fun κ => by trivial) (setsF ns 2) [] N bs hb (by omega) (by simp; omega) fun fam bs1 h1 hb1 => ?_
  have hfl := h1.length_le
  simp only [List.nil_append, sto_t, List.length_cons, List.length_nil, List.set_cons_succ, List.set_cons_zero, List.cons_append]
  rw [s_seq]
  refine ⟨fam.length + 1, fam_while _ fam (N + 64) bs1 (Nat.lt_succ_self _) (by omega) (hb1.mono (by omega)) (by omega) fun fam' bs2 h2 h3 hb2 => ?_⟩
  dsimp only
  rw [s_ret, s_var]
  simp only [List.getElem?_cons_succ, List.getElem?_cons_zero]
  exact k fam' bs2 (h2.trans h1) h3 (hb2.mono (by omega))
end SH
namespace SH
open PySem PySem.Spec PyProof.Rows L2 DL
theorem two_of_set {s : List Str} (h : 2 ≤ s.length) : ∃ a b xs, s = a :: b :: xs := by
  match s, h with
  | a :: b :: xs, _ => exact ⟨a, b, xs, rfl⟩
  | [_], h => simp at h
  | [], h => simp at h
end SH
namespace SH
open PySem PySem.Spec PyProof.Rows L2 DL
section
variable {α : Type} {A : Hook → α → α}
def doing (A : Hook → α → α) (r : Row) (s : α) : α := r.foldl (fun s h => A h s) s
theorem doing_app (x y : Row) (s : α) : doing A (x ++ y) s = doing A y (doing A x s) := by unfold doing; rw [List.foldl_append]
theorem doing_free (hx : ∀ h g s, hits h g = false → A h (A g s) = A g (A h s)) {h : Hook} : ∀ {u : Row}, (∀ g ∈ u, hits h g = false) → ∀ s, A h (doing A u s) = doing A u (A h s)
  | [], _, s => rfl
  | g :: u, f, s => by
    show A h (doing A u (A g s)) = doing A u (A g (A h s))
    rw [doing_free hx (fun k hk => f k (List.mem_cons_of_mem _ hk)), hx h g s (f g (List.mem_cons_self ..))]
theorem doing_lines (hx : ∀ h g s, hits h g = false → A h (A g s) = A g (A h s)) : ∀ {r r' : Row}, linesP r = linesP r' → ∀ s, doing A r s = doing A r' s
  | [], r', e, s => by rw [lines_nil e.symm]
  | h :: r, r', e, s => by
    obtain ⟨u, v, rfl, f, e2⟩ := lines_cons e
    show doing A r (A h s) = _
    rw [doing_lines hx e2 (A h s), doing_app, doing_app, ← doing_free hx f]
    rfl
theorem doing_step (hc : ∀ h s, A (turned h) (A h s) = s) (hx : ∀ h g s, hits h g = false → A h (A g s) = A g (A h s)) (h : Hook) (ρ : Row) (s : α) : doing A (cstep h ρ).reverse s = A h (doing A ρ.reverse s) := by
  unfold cstep
  cases e : stripR h ρ with
  | none =>
    show doing A (h :: ρ).reverse s = _
    rw [List.reverse_cons, doing_app]
    rfl
  | some ρ' =>
    obtain ⟨y, x, rfl, rfl, f⟩ := strip_some e
    have f' : ∀ g ∈ y.reverse, hits h g = false := fun g hg => f g (List.mem_reverse.mp hg)
    show doing A (y ++ x).reverse s = _
    rw [List.reverse_append, List.reverse_append, List.reverse_cons, doing_app, doing_app, doing_app, doing_free hx f']
    show _ = doing A y.reverse (A h (A (turned h) (doing A x.reverse s)))
    have := hc (turned h) (doing A x.reverse s)
    rw [turned2] at this
    rw [this]
theorem doing_nfL (hc : ∀ h s, A (turned h) (A h s) = s) (hx : ∀ h g s, hits h g = false → A h (A g s) = A g (A h s)) (s : α) : ∀ (r ρ : Row), doing A (nfL r ρ).reverse s = doing A r (doing A ρ.reverse s)
  | [], ρ => rfl
  | h :: r, ρ => by
    show doing A (nfL r (cstep h ρ)).reverse s = doing A r (A h (doing A ρ.reverse s))
    rw [doing_nfL hc hx s r, doing_step hc hx]
theorem doing_same (hc : ∀ h s, A (turned h) (A h s) = s) (hx : ∀ h g s, hits h g = false → A h (A g s) = A g (A h s)) {r r' : Row} (e : pile r = pile r') (s : α) : doing A r s = doing A r' s := by
  have h : ∀ r : Row, doing A r s = doing A (settledF r) s := fun r => by
    rw [settled_nf]
    exact (doing_nfL hc hx s r []).symm
  rw [h r, h r', doing_lines hx (settled_lines e)]
theorem doing_back (hc : ∀ h s, A (turned h) (A h s) = s) : ∀ (r : Row) (s : α), doing A (back r) (doing A r s) = s
  | [], s => rfl
  | h :: r, s => by
    have e : back (h :: r) = back r ++ [turned h] := by simp [back]
    show doing A (back (h :: r)) (doing A r (A h s)) = s
    rw [e, doing_app, doing_back hc r]
    exact hc h s
end
def isAt (ns : List Str) (k : Nat) (h : Hook) : Prop := 0 < k ∧ ns[k - 1]? = some h.1 ∧ ns[k]? = some h.2.1
instance (ns : List Str) (k : Nat) (h : Hook) : Decidable (isAt ns k h) := by unfold isAt; exact inferInstance
def rise (ns : List Str) (h : Hook) (s : Nat → Int) : Nat → Int := fun k => if isAt ns k h then s k + h.2.2 * s (k - 1) else s k
theorem at_inj {ns : List Str} (nd : ns.Nodup) {i j : Nat} {z : Str} (h1 : ns[i]? = some z) (h2 : ns[j]? = some z) : i = j := by
  obtain ⟨a1, b1⟩ := List.getElem?_eq_some_iff.mp h1
  obtain ⟨a2, b2⟩ := List.getElem?_eq_some_iff.mp h2
  have pw := List.pairwise_iff_getElem.mp nd
  rcases Nat.lt_trichotomy i j with c | c | c
  · exact absurd (b1.trans b2.symm) (pw i j a1 a2 c)
  · exact c
  · exact absurd (b2.trans b1.symm) (pw j i a2 a1 c)
theorem not_next {ns : List Str} (nd : ns.Nodup) {k : Nat} {h : Hook} (a : isAt ns k h) : ¬ isAt ns (k - 1) h := fun b => by
  have := at_inj nd a.2.1 b.2.1
  have h1 := a.1
  have h2 := b.1
  omega
theorem rise_back {ns : List Str} (nd : ns.Nodup) (h : Hook) (s : Nat → Int) : rise ns (turned h) (rise ns h s) = s := by
  funext k
  have e : ∀ k, isAt ns k (turned h) ↔ isAt ns k h := fun k => Iff.rfl
  unfold rise
  simp only [e]
  by_cases c : isAt ns k h
  · have c2 := not_next nd c
    rw [if_pos c, if_pos c, if_neg c2]
    show s k + h.2.2 * s (k - 1) + -h.2.2 * s (k - 1) = s k
    rw [Int.neg_mul]
    omega
  · rw [if_neg c, if_neg c]
theorem rise_pass {ns : List Str} (nd : ns.Nodup) (h g : Hook) (s : Nat → Int) (e : hits h g = false) : rise ns h (rise ns g s) = rise ns g (rise ns h s) := by
  have off := hits_false e
  have ne1 : g.1 ≠ h.1 ∧ g.2.1 ≠ h.1 := by
    have := off.1
    unfold touches at this
    simpa using this
  have ne2 : g.1 ≠ h.2.1 ∧ g.2.1 ≠ h.2.1 := by
    have := off.2
    unfold touches at this
    simpa using this
  have n1 : ∀ k, isAt ns k h → ¬ isAt ns k g ∧ ¬ isAt ns (k - 1) g := fun k a => by
    refine ⟨fun b => ?_, fun b => ?_⟩
    · have := b.2.1
      rw [a.2.1] at this
      exact ne1.1 (Option.some.inj this).symm
    · have := b.2.2
      rw [a.2.1] at this
      exact ne1.2 (Option.some.inj this).symm
  have n2 : ∀ k, isAt ns k g → ¬ isAt ns k h ∧ ¬ isAt ns (k - 1) h := fun k b => by
    refine ⟨fun a => (n1 k a).1 b, fun a => ?_⟩
    have := a.2.2
    rw [b.2.1] at this
    exact ne2.1 (Option.some.inj this)
  funext k
  unfold rise
  by_cases c : isAt ns k h
  · obtain ⟨d1, d2⟩ := n1 k c
    rw [if_pos c, if_neg d1, if_neg d2, if_neg d1, if_pos c]
  · by_cases d : isAt ns k g
    · obtain ⟨c1, c2⟩ := n2 k d
      rw [if_neg c1, if_pos d, if_pos d, if_neg c1, if_neg c2]
    · rw [if_neg c, if_neg d, if_neg d, if_neg c]
/-- a knot of the first k + 1 ropes adds the first sum to the k-th one -/
def lift (k : Nat) (c : Int) (s : Nat → Int) : Nat → Int := fun j => if j = k then s j + c * s 0 else s j
theorem kstep_do {ns : List Str} (nd : ns.Nodup) {r : Row} {l x : Str} {k : Nat} (h0 : 0 < k) (hl : ns[k]? = some l) (hx : ns[k + 1]? = some x) (h : ∀ s, doing (rise ns) r s = lift k 1 s) : ∀ s, doing (rise ns) (kstep r l x) s = lift (k + 1) 1 s := fun s => by
  have hb : ∀ s, doing (rise ns) (back r) s = lift k (-1) s := fun s => by
    have e : doing (rise ns) r (lift k (-1) s) = s := by
      rw [h]
      funext j
      unfold lift
      by_cases c : j = k
      · subst c
        rw [if_pos rfl, if_pos rfl, if_neg (show ¬ 0 = j by omega)]
        omega
      · rw [if_neg c, if_neg c]
    have := doing_back (rise_back nd) r (lift k (-1) s)
    rw [e] at this
    exact this
  have hat : ∀ (z : Int) (j : Nat), isAt ns j (l, x, z) ↔ j = k + 1 := fun z j => by
    refine ⟨fun a => at_inj nd a.2.2 hx, fun e => ?_⟩
    subst e
    exact ⟨Nat.succ_pos _, hl, hx⟩
  have hr : ∀ (z : Int) (s : Nat → Int), rise ns (l, x, z) s = fun j => if j = k + 1 then s j + z * s k else s j := fun z s => by
    funext j
    unfold rise
    simp only [hat]
    by_cases c : j = k + 1
    · subst c
      rw [if_pos rfl, if_pos rfl]
      rfl
    · rw [if_neg c, if_neg c]
  unfold kstep
  rw [doing_app, doing_app, doing_app, h, hb]
  show rise ns (l, x, -1) (lift k (-1) (rise ns (l, x, 1) (lift k 1 s))) = _
  rw [hr, hr]
  funext j
  unfold lift
  by_cases c : j = k + 1
  · subst c
    simp only [if_true, show ¬ (k + 1 = k) by omega, if_false, show ¬ (k = k + 1) by omega, show ¬ (0 = k) by omega, show ¬ (0 = k + 1) by omega]
    omega
  · by_cases d : j = k
    · subst d
      simp only [if_true, show ¬ (j = j + 1) by omega, if_false, show ¬ (0 = j) by omega, show ¬ (0 = j + 1) by omega]
      omega
    · simp only [c, d, if_false]
theorem knotL_do {ns : List Str} (nd : ns.Nodup) : ∀ (xs : List Str) (r : Row) (l : Str) (k : Nat), 0 < k → ns[k]? = some l → ns.drop (k + 1) = xs → (∀ s, doing (rise ns) r s = lift k 1 s) → ∀ s, doing (rise ns) (knotL r l xs) s = lift (k + xs.length) 1 s
  | [], r, l, k, _, _, _, h, s => by rw [knotL]; exact h s
  | x :: xs, r, l, k, h0, hl, hd, h, s => by
    rw [knotL]
    have hx : ns[k + 1]? = some x := by
      have := congrArg List.head? hd
      rw [List.head?_drop] at this
      exact this
    have hd2 : ns.drop (k + 1 + 1) = xs := by
      have := congrArg List.tail hd
      rw [List.tail_drop] at this
      exact this
    have := knotL_do nd xs (kstep r l x) x (k + 1) (Nat.succ_pos _) hx hd2 (kstep_do nd h0 hl hx h) s
    rw [this, List.length_cons, show k + 1 + xs.length = k + (xs.length + 1) by omega]
theorem knot_do {a b : Str} {xs : List Str} (nd : (a :: b :: xs).Nodup) (s : Nat → Int) : doing (rise (a :: b :: xs)) (knot (a :: b :: xs)) s = lift (1 + xs.length) 1 s := by
  refine knotL_do nd xs [(a, b, 1)] b 1 (by decide) rfl rfl (fun s => ?_) s
  show rise (a :: b :: xs) (a, b, 1) s = _
  funext j
  unfold rise lift
  by_cases c : j = 1
  · subst c
    rw [if_pos (show isAt (a :: b :: xs) 1 (a, b, 1) from ⟨by decide, rfl, rfl⟩), if_pos rfl]
  · rw [if_neg (fun q => c (at_inj nd q.2.2 (show (a :: b :: xs)[1]? = some b from rfl))), if_neg c]
/-- so many knots one behind the other are not bare -/
theorem knots_not {a b : Str} {xs : List Str} (nd : (a :: b :: xs).Nodup) (n : Nat) (hn : 0 < n) : pile (List.replicate n (knot (a :: b :: xs))).flatten ≠ pile [] := fun e => by
  have h := congrFun (doing_same (rise_back nd) (rise_pass nd) e fun j => if j = 0 then 1 else 0) (1 + xs.length)
  have g : ∀ (n : Nat) (s : Nat → Int), doing (rise (a :: b :: xs)) (List.replicate n (knot (a :: b :: xs))).flatten s = lift (1 + xs.length) (n : Int) s := fun n => by
    induction n with
    | zero =>
      intro s
      funext j
      unfold lift
      show s j = _
      split <;> simp
    | succ n ih =>
      intro s
      rw [List.replicate_succ, List.flatten_cons, doing_app, knot_do nd, ih]
      funext j
      unfold lift
      by_cases c : j = 1 + xs.length
      · rw [if_pos c, if_pos c, if_pos c, if_neg (show ¬ 0 = 1 + xs.length by omega)]
        rw [Int.natCast_succ, Int.add_mul]
        omega
      · rw [if_neg c, if_neg c, if_neg c]
  rw [g] at h
  unfold lift at h
  rw [if_pos rfl] at h
  have : (if (1 + xs.length) = 0 then (1 : Int) else 0) = 0 := if_neg (by omega)
  rw [show doing (rise (a :: b :: xs)) [] (fun j => if j = 0 then (1 : Int) else 0) (1 + xs.length) = 0 from this] at h
  simp at h
  omega
theorem knot_not {a b : Str} {xs : List Str} (nd : (a :: b :: xs).Nodup) : pile (knot (a :: b :: xs)) ≠ pile [] := fun e => by
  have := knots_not nd 1 (by decide)
  simp at this
  exact this e
theorem bare_iff {r : Row} : leastF r = [] ↔ pile r = pile [] := ⟨fun e => by rw [← pile_least r, e], pile_nil_least⟩
theorem kept_app (x y : Row) (S : List Str) : keptF (x ++ y) S = keptF x S ++ keptF y S := List.filter_append ..
theorem kept_back (r : Row) (S : List Str) : keptF (back r) S = back (keptF r S) := by
  unfold keptF back
  rw [List.filter_map, ← List.filter_reverse]
  rfl
theorem kstep_bare {r : Row} {l x : Str} {S : List Str} (h : pile (keptF r S) = pile [] ∨ x ∉ S) : pile (keptF (kstep r l x) S) = pile [] := by
  unfold kstep
  rw [kept_app, kept_app, kept_app, kept_back]
  by_cases c : x ∈ S ∧ l ∈ S
  · have hp := h.resolve_right fun q => q c.1
    have e1 : keptF [(l, x, 1)] S = [(l, x, 1)] := by simp [keptF, c.1, c.2]
    have e2 : keptF [(l, x, -1)] S = back [(l, x, 1)] := by simp [keptF, c.1, c.2, back, turned]
    rw [e1, e2]
    have q1 := pile_both (pile_both (pile_both hp (rfl : pile [(l, x, (1 : Int))] = _)) (pile_backs hp)) (rfl : pile (back [(l, x, (1 : Int))]) = _)
    rw [q1]
    show pile ([] ++ [(l, x, (1 : Int))] ++ back [] ++ back [(l, x, (1 : Int))]) = _
    have : ([] ++ [(l, x, (1 : Int))] ++ back [] ++ back [(l, x, (1 : Int))] : Row) = [(l, x, 1)] ++ back [(l, x, 1)] := rfl
    rw [this, pile_undo]
  · have e : ∀ z : Int, keptF [(l, x, z)] S = [] := fun z => by
      unfold keptF
      rw [List.filter_eq_nil_iff]
      intro g hg
      rw [List.mem_singleton.mp hg]
      simp only [Bool.and_eq_true, decide_eq_true_eq]
      exact fun q => c ⟨q.2, q.1⟩
    rw [e, e, List.append_nil, List.append_nil, pile_undo]
theorem knotL_bare {S : List Str} : ∀ (xs : List Str) (r : Row) (l : Str), pile (keptF r S) = pile [] ∨ (∃ z ∈ xs, z ∉ S) → pile (keptF (knotL r l xs) S) = pile []
  | [], r, l, h => by
    rw [knotL]
    exact h.resolve_right fun ⟨z, hz, _⟩ => by cases hz
  | x :: xs, r, l, h => by
    rw [knotL]
    rcases h with h | ⟨z, hz, hn⟩
    · exact knotL_bare xs _ x (.inl (kstep_bare (.inl h)))
    · rcases List.mem_cons.mp hz with rfl | hz
      · exact knotL_bare xs _ _ (.inl (kstep_bare (.inr hn)))
      · exact knotL_bare xs _ _ (.inr ⟨z, hz, hn⟩)
theorem knot_bare {ns S : List Str} (h : ∃ z ∈ ns, z ∉ S) : pile (keptF (knot ns) S) = pile [] := by
  match ns, h with
  | [], _ => rfl
  | [_], _ => rfl
  | a :: b :: xs, ⟨z, hz, hn⟩ =>
    show pile (keptF (knotL [(a, b, 1)] b xs) S) = _
    by_cases c : a ∈ S ∧ b ∈ S
    · refine knotL_bare xs _ b (.inr ?_)
      rcases List.mem_cons.mp hz with rfl | hz
      · exact absurd c.1 hn
      rcases List.mem_cons.mp hz with rfl | hz
      · exact absurd c.2 hn
      exact ⟨z, hz, hn⟩
    · refine knotL_bare xs _ b (.inl ?_)
      have : keptF [(a, b, 1)] S = [] := by
        unfold keptF
        rw [List.filter_eq_nil_iff]
        intro g hg
        rw [List.mem_singleton.mp hg]
        simp only [Bool.and_eq_true, decide_eq_true_eq]
        exact c
      rw [this]
theorem conj_bare {x r : Row} : pile (x ++ r ++ back x) = pile [] ↔ pile r = pile [] := by
  refine ⟨fun e => ?_, fun e => ?_⟩
  · have h1 : pile (back x ++ (x ++ r ++ back x) ++ x) = pile (back x ++ [] ++ x) := pile_both (pile_both rfl e) rfl
    have h2 : pile (back x ++ (x ++ r ++ back x) ++ x) = pile (back x ++ x ++ r ++ (back x ++ x)) := by simp
    have h3 : pile (back x ++ x ++ r ++ (back x ++ x)) = pile ([] ++ r ++ []) := pile_both (pile_both (pile_undo2 x) rfl) (pile_undo2 x)
    rw [h2, h3] at h1
    have h4 : pile ([] ++ r ++ []) = pile r := by simp
    rw [← h4, h1, List.append_nil, pile_undo2]
  · rw [pile_both (pile_both rfl e) rfl, List.append_nil, pile_undo]
end SH
namespace SH
open PySem PySem.Spec PyProof.Rows L2 DL
abbrev Inc (s : List Str) : Prop := s.Pairwise fun x y => cs x < cs y
theorem subs_nodup : ∀ (ns ps : List Str) (f : List (List Str)), f.Nodup → (∀ s ∈ f, s.Sublist ps) → (ps ++ ns).Nodup → (ns.foldl stepF f).Nodup
  | [], ps, f, h, _, _ => h
  | z :: ns, ps, f, h, hs, nd => by
    have e : ps ++ z :: ns = (ps ++ [z]) ++ ns := by simp
    rw [List.foldl_cons]
    have nz : z ∉ ps := fun q => by
      rw [List.nodup_append] at nd
      exact nd.2.2 z q z (List.mem_cons_self ..) rfl
    refine subs_nodup ns (ps ++ [z]) (stepF f z) ?_ (fun s hm => ?_) (by rw [← e]; exact nd)
    · refine List.nodup_append.mpr ⟨h, List.Pairwise.map _ (fun a b hab q => hab (List.append_cancel_right q)) h, fun a ha b hb q => ?_⟩
      obtain ⟨u, hu, rfl⟩ := List.mem_map.mp hb
      exact nz ((hs a ha).subset (by rw [q]; simp))
    · rcases List.mem_append.mp hm with q | q
      · exact (hs s q).trans (List.sublist_append_left ps [z])
      · obtain ⟨u, hu, rfl⟩ := List.mem_map.mp q
        exact (hs u hu).append (List.Sublist.refl [z])
theorem sets_nodup {ns : List Str} (h : Inc ns) (low : Nat) : (setsF ns low).Nodup := by
  have h1 : (subsF ns).Nodup := subs_nodup ns [] [[]] (by simp) (fun s hs => by rw [List.mem_singleton.mp hs]; exact List.Sublist.refl _) (by rw [List.nil_append]; exact pw_nodup h)
  exact ((List.mergeSort_perm _ _).nodup_iff.mpr h1).sublist List.filter_sublist
theorem sorted_ext {l m : List (List Str)} (hl : l.Pairwise fun a b => leLen a b = true) (hm : m.Pairwise fun a b => leLen a b = true) (nl : l.Nodup) (nm : m.Nodup) (h : ∀ s, s ∈ l ↔ s ∈ m) : l = m :=
  sorted_uniq (le := leLen) (fun h1 h2 => leLen_anti h1 h2) ((List.perm_ext_iff_of_nodup nl nm).mpr h) hl hm
def lessF (S : List Str) : List (List Str) := (setsF S 2).filter fun T => decide (T.length < S.length)
def own (row : Row) (S : List Str) : Row := leastF (back (((lessF S).attach.map fun T => own row T.1).flatten) ++ keptF row S)
termination_by S.length
decreasing_by
  exact of_decide_eq_true (List.mem_filter.mp T.2).2
theorem own_eq (row : Row) (S : List Str) : own row S = leastF (back (((lessF S).map (own row)).flatten) ++ keptF row S) := by
  have e : (lessF S).attach.map (fun T => own row T.1) = (lessF S).map (own row) := List.attach_map_val ..
  rw [own, e]
theorem less_mem {S T : List Str} : T ∈ lessF S ↔ T.Sublist S ∧ 2 ≤ T.length ∧ T.length < S.length := by
  unfold lessF
  rw [List.mem_filter, sets_mem, decide_eq_true_eq, and_assoc]
theorem less_nodup {S : List Str} (h : Inc S) : (lessF S).Nodup := (sets_nodup h 2).sublist List.filter_sublist
theorem less_sorted (S : List Str) : (lessF S).Pairwise fun a b => leLen a b = true := (sets_sorted S 2).sublist List.filter_sublist
theorem sets_last {S : List Str} (h : Inc S) (h2 : 2 ≤ S.length) : setsF S 2 = lessF S ++ [S] := by
  refine sorted_ext (sets_sorted _ _) (List.pairwise_append.mpr ⟨less_sorted S, List.pairwise_singleton _ _, fun a ha b hb => ?_⟩) (sets_nodup h 2) (List.nodup_append.mpr ⟨less_nodup h, by simp, fun a ha b hb q => ?_⟩) fun T => ?_
  · rw [List.mem_singleton.mp hb]
    exact leLen_short (less_mem.mp ha).2.2
  · rw [List.mem_singleton.mp hb] at q
    have := (less_mem.mp ha).2.2
    rw [q] at this
    exact Nat.lt_irrefl _ this
  · rw [sets_mem, List.mem_append, less_mem, List.mem_singleton]
    refine ⟨fun ⟨q1, q2⟩ => ?_, fun q => q.elim (fun ⟨q1, q2, _⟩ => ⟨q1, q2⟩) fun q => by rw [q]; exact ⟨List.Sublist.refl _, h2⟩⟩
    rcases Nat.lt_or_ge T.length S.length with c | c
    · exact .inl ⟨q1, q2, c⟩
    · exact .inr (q1.eq_of_length_le c)
theorem pile_app2 {x y y' : Row} (h : pile y = pile y') : pile (x ++ y) = pile (x ++ y') := pile_both rfl h
theorem pile_app1 {x x' y : Row} (h : pile x = pile x') : pile (x ++ y) = pile (x' ++ y) := pile_both h rfl
theorem pile_way (x y : Row) : pile (back x ++ (x ++ y)) = pile y := by
  rw [← List.append_assoc, pile_app1 (pile_undo2 x), List.nil_append]
/-- what has these properties is the part -/
theorem own_uniq {row : Row} {g : List Str → Row} : ∀ (n : Nat) (S : List Str), S.length ≤ n → Inc S → 2 ≤ S.length → (∀ T, T.Sublist S → 2 ≤ T.length → leastF (g T) = g T ∧ pile (((setsF T 2).map g).flatten) = pile (keptF row T)) → g S = own row S
  | 0, S, hn, _, h2, _ => by omega
  | n + 1, S, hn, h, h2, hg => by
    have eJ : (lessF S).map g = (lessF S).map (own row) := by
      refine List.map_congr_left fun T hT => ?_
      obtain ⟨t1, t2, t3⟩ := less_mem.mp hT
      exact own_uniq n T (by omega) (h.sublist t1) t2 fun U hU => hg U (hU.trans t1)
    obtain ⟨e1, e2⟩ := hg S (List.Sublist.refl _) h2
    rw [sets_last h h2, List.map_append, List.flatten_append, eJ] at e2
    have e : ([S].map g).flatten = g S := by simp
    rw [e] at e2
    rw [own_eq, ← e1]
    refine least_same ?_
    rw [pile_app2 e2.symm, pile_way]
abbrev Pt := List Str × Row
/-- the parts of a row, its ropes among ns -/
def partsN (ns : List Str) (row : Row) : List Pt := ((setsF ns 2).filter fun S => !decide (own row S = [])).map fun S => (S, own row S)
theorem flat_if {g : List Str → Row} {p : List Str → Bool} : ∀ l : List (List Str), (l.map fun T => if p T = true then g T else []).flatten = ((l.filter p).map g).flatten
  | [] => rfl
  | T :: l => by
    rw [List.map_cons, List.flatten_cons, List.filter_cons, flat_if l]
    split
    · rw [List.map_cons, List.flatten_cons]
    · rw [List.nil_append]
theorem kept_on {r : Row} {S : List Str} (h : ∀ x ∈ r, x.1 ∈ S ∧ x.2.1 ∈ S) : keptF r S = r := by
  unfold keptF
  rw [List.filter_eq_self]
  intro x hx
  have := h x hx
  simp [this.1, this.2]
theorem own_one {r : Row} {ns : List Str} (hn : Inc ns) (n2 : 2 ≤ ns.length) (hon : ∀ x ∈ r, x.1 ∈ ns ∧ x.2.1 ∈ ns) (hp : ∀ U, (∃ z ∈ ns, z ∉ U) → pile (keptF r U) = pile []) {S : List Str} (h : Inc S) (h2 : 2 ≤ S.length) : own r S = if S = ns then leastF r else [] := by
  refine (own_uniq (row := r) (g := fun S => if S = ns then leastF r else []) S.length S (Nat.le_refl _) h h2 fun T hT t2 => ⟨?_, ?_⟩).symm
  · show leastF (if T = ns then leastF r else []) = if T = ns then leastF r else []
    split
    · exact least_least r
    · exact leastF_nil
  · have iT := h.sublist hT
    by_cases c : withinF ns T = true
    · have hs := names_sub hn iT (within_iff.mp c)
      have e : ((setsF T 2).map fun S => if S = ns then leastF r else []).flatten = leastF r := by
        have e1 : ((setsF T 2).map fun S => if S = ns then leastF r else []) = (setsF T 2).map fun S => if decide (S = ns) = true then leastF r else [] := by simp
        rw [e1, flat_if (g := fun _ => leastF r) (p := fun S => decide (S = ns))]
        have e2 : ((setsF T 2).filter fun S => decide (S = ns)) = [ns] := by
          refine sorted_ext ((sets_sorted _ _).sublist List.filter_sublist) (List.pairwise_singleton _ _) ((sets_nodup iT 2).sublist List.filter_sublist) (by simp) fun S => ?_
          rw [List.mem_filter, sets_mem, List.mem_singleton, decide_eq_true_eq]
          exact ⟨fun q => q.2, fun q => ⟨by rw [q]; exact ⟨hs, n2⟩, q⟩⟩
        rw [e2]
        simp
      rw [e, kept_on fun x hx => ⟨hs.subset (hon x hx).1, hs.subset (hon x hx).2⟩, pile_least]
    · have e : ((setsF T 2).map fun S => if S = ns then leastF r else []).flatten = [] := by
        rw [List.flatten_eq_nil_iff]
        intro l hl
        obtain ⟨S, hS, rfl⟩ := List.mem_map.mp hl
        split
        · rename_i q
          exfalso
          apply c
          rw [← q]
          exact within_iff.mpr fun z hz => (sets_mem.mp hS).1.subset hz
        · rfl
      rw [e]
      refine (hp T ?_).symm
      refine Classical.byContradiction fun d => c (within_iff.mpr fun z hz => Classical.byContradiction fun q => d ⟨z, hz, q⟩)
theorem parts_one {r : Row} {ns ms : List Str} (hn : Inc ns) (n2 : 2 ≤ ns.length) (hm : Inc ms) (hs : ns.Sublist ms) (hon : ∀ x ∈ r, x.1 ∈ ns ∧ x.2.1 ∈ ns) (hp : ∀ U, (∃ z ∈ ns, z ∉ U) → pile (keptF r U) = pile []) (hb : leastF r ≠ []) : partsN ms r = [(ns, leastF r)] := by
  unfold partsN
  have e : ((setsF ms 2).filter fun S => !decide (own r S = [])) = [ns] := by
    refine sorted_ext ((sets_sorted _ _).sublist List.filter_sublist) (List.pairwise_singleton _ _) ((sets_nodup hm 2).sublist List.filter_sublist) (by simp) fun S => ?_
    rw [List.mem_filter, List.mem_singleton, sets_mem]
    refine ⟨fun ⟨⟨s1, s2⟩, q⟩ => ?_, fun q => ?_⟩
    · rw [own_one hn n2 hon hp (hm.sublist s1) s2] at q
      refine Classical.byContradiction fun c => ?_
      rw [if_neg c] at q
      simp at q
    · subst q
      refine ⟨⟨hs, n2⟩, ?_⟩
      rw [own_one hn n2 hon hp hn n2, if_pos rfl]
      simp [hb]
  rw [e, List.map_singleton, own_one hn n2 hon hp hn n2, if_pos rfl]
end SH
namespace SH
open PySem PySem.Spec PyProof.Rows L2 DL
def lowStep (P : List Str → Bool) (f : List (List Str)) (s : List Str) : List (List Str) := if (!(f.any fun t => withinF t s) && P s) = true then f ++ [s] else f
/-- of some sets in order those asked for that have none of the found ones within -/
def lowF (P : List Str → Bool) (l : List (List Str)) : List (List Str) := l.foldl (lowStep P) []
def lowest (P : List Str → Bool) (l : List (List Str)) (s : List Str) : Bool := P s && l.all fun t => !(P t && withinF t s) || decide (t = s)
theorem lowest_iff {P : List Str → Bool} {l : List (List Str)} {s : List Str} : lowest P l s = true ↔ P s = true ∧ ∀ t ∈ l, P t = true → withinF t s = true → t = s := by
  unfold lowest
  rw [Bool.and_eq_true, List.all_eq_true]
  refine ⟨fun ⟨a, b⟩ => ⟨a, fun t ht h1 h2 => ?_⟩, fun ⟨a, b⟩ => ⟨a, fun t ht => ?_⟩⟩
  · have := b t ht
    rw [h1, h2] at this
    simpa using this
  · cases h1 : P t with
    | false => simp
    | true =>
      cases h2 : withinF t s with
      | false => simp
      | true => simp [b t ht h1 h2]
theorem within_trans {a b c : List Str} (h1 : withinF a b = true) (h2 : withinF b c = true) : withinF a c = true := within_iff.mpr fun z hz => within_iff.mp h2 z (within_iff.mp h1 z hz)
theorem within_refl (a : List Str) : withinF a a = true := within_iff.mpr fun _ h => h
theorem within_len {a b : List Str} (ha : Inc a) (hb : Inc b) (h : withinF a b = true) : a.length ≤ b.length := (names_sub ha hb (within_iff.mp h)).length_le
theorem within_same {a b : List Str} (ha : Inc a) (hb : Inc b) (h : withinF a b = true) (l : b.length ≤ a.length) : a = b := (names_sub ha hb (within_iff.mp h)).eq_of_length_le l
theorem low_under {P : List Str → Bool} {l : List (List Str)} (hi : ∀ s ∈ l, Inc s) : ∀ (n : Nat) (t : List Str), t.length ≤ n → t ∈ l → P t = true → ∃ u ∈ l, lowest P l u = true ∧ withinF u t = true := by
  intro n
  induction n with
  | zero =>
    intro t hn ht hp
    refine ⟨t, ht, lowest_iff.mpr ⟨hp, fun u hu _ h2 => ?_⟩, within_refl t⟩
    exact within_same (hi u hu) (hi t ht) h2 (by omega)
  | succ n ih =>
    intro t hn ht hp
    cases q : lowest P l t with
    | true => exact ⟨t, ht, q, within_refl t⟩
    | false =>
      have : ∃ u ∈ l, P u = true ∧ withinF u t = true ∧ u ≠ t := Classical.byContradiction fun c => by
        have : lowest P l t = true := lowest_iff.mpr ⟨hp, fun u hu h1 h2 => Classical.byContradiction fun d => c ⟨u, hu, h1, h2, d⟩⟩
        rw [q] at this
        cases this
      obtain ⟨u, hu, h1, h2, h3⟩ := this
      have l1 : u.length < t.length := Nat.lt_of_not_le fun c => h3 (within_same (hi u hu) (hi t ht) h2 c)
      obtain ⟨v, hv, v1, v2⟩ := ih u (by omega) hu h1
      exact ⟨v, hv, v1, within_trans v2 h2⟩
theorem low_step {P : List Str → Bool} {l l1 l2 : List (List Str)} {s : List Str} (e : l = l1 ++ s :: l2) (hs : l.Pairwise fun a b => leLen a b = true) (nd : l.Nodup) (hi : ∀ s ∈ l, Inc s) : (!((l1.filter (lowest P l)).any fun t => withinF t s) && P s) = lowest P l s := by
  have hsl : s ∈ l := by rw [e]; simp
  cases hp : P s with
  | false =>
    rw [Bool.and_false]
    refine ((Bool.not_eq_true _).mp fun c => ?_).symm
    rw [(lowest_iff.mp c).1] at hp
    cases hp
  | true =>
    rw [Bool.and_true]
    cases q : lowest P l s with
    | true =>
      rw [Bool.not_eq_true', List.any_eq_false]
      intro t ht hw
      obtain ⟨t1, t2⟩ := List.mem_filter.mp ht
      have e2 := (lowest_iff.mp q).2 t (by rw [e]; exact List.mem_append_left _ t1) (lowest_iff.mp t2).1 hw
      rw [e] at nd
      have := (List.nodup_append.mp nd).2.2 t t1 s (List.mem_cons_self ..)
      exact this e2
    | false =>
      rw [Bool.not_eq_false', List.any_eq_true]
      have : ∃ u ∈ l, P u = true ∧ withinF u s = true ∧ u ≠ s := Classical.byContradiction fun c => by
        have : lowest P l s = true := lowest_iff.mpr ⟨hp, fun u hu h1 h2 => Classical.byContradiction fun d => c ⟨u, hu, h1, h2, d⟩⟩
        rw [q] at this
        cases this
      obtain ⟨t, ht, h1, h2, h3⟩ := this
      obtain ⟨u, hu, u1, u2⟩ := low_under hi t.length t (Nat.le_refl _) ht h1
      have us := within_trans u2 h2
      have lt : u.length < s.length := by
        have a1 := within_len (hi u hu) (hi t ht) u2
        have a2 : t.length < s.length := Nat.lt_of_not_le fun c => h3 (within_same (hi t ht) (hi s hsl) h2 c)
        omega
      refine ⟨u, List.mem_filter.mpr ⟨?_, u1⟩, us⟩
      rw [e] at hu hs
      rcases List.mem_append.mp hu with hu | hu
      · exact hu
      · exfalso
        rcases List.mem_cons.mp hu with rfl | hu
        · omega
        · have b1 := (List.pairwise_cons.mp (List.pairwise_append.mp hs).2.1).1 u hu
          have := leLen_anti b1 (leLen_short lt)
          subst this
          omega
theorem low_run {P : List Str → Bool} {l : List (List Str)} (hs : l.Pairwise fun a b => leLen a b = true) (nd : l.Nodup) (hi : ∀ s ∈ l, Inc s) : ∀ (l2 l1 : List (List Str)), l = l1 ++ l2 → l2.foldl (lowStep P) (l1.filter (lowest P l)) = l.filter (lowest P l)
  | [], l1, e => by rw [e, List.append_nil]; rfl
  | s :: l2, l1, e => by
    have e2 : l = (l1 ++ [s]) ++ l2 := by rw [e]; simp
    have h := low_step (P := P) e hs nd hi
    rw [List.foldl_cons]
    have e3 : lowStep P (l1.filter (lowest P l)) s = (l1 ++ [s]).filter (lowest P l) := by
      unfold lowStep
      rw [h, List.filter_append, List.filter_cons, List.filter_nil]
      split
      · rfl
      · rw [List.append_nil]
    rw [e3]
    exact low_run hs nd hi l2 (l1 ++ [s]) e2
theorem low_eq {P : List Str → Bool} {l : List (List Str)} (hs : l.Pairwise fun a b => leLen a b = true) (nd : l.Nodup) (hi : ∀ s ∈ l, Inc s) : lowF P l = l.filter (lowest P l) := low_run hs nd hi l [] rfl
end SH
namespace SH
open PySem PySem.Spec PyProof.Rows L2 DL
end SH
namespace SH
open PySem PySem.Spec PyProof.Rows L2 DL
theorem RowIn.keptF {r : Row} (h : RowIn r) (s : List Str) : RowIn (SH.keptF r s) := fun x hx => h x (List.mem_filter.mp hx).1
end SH
namespace SH
open PySem PySem.Spec PyProof.Rows L2 DL
def wx : DTT := (wTru (wCall Ph_is_within (wCons (wVar 2) (wCons (wVar 1) wNil))))
theorem held_sub {ns : List Str} {row : Row} (hn : Names ns) (h : RowOf ns row) : (heldF row).Sublist ns := names_sub (held_ok (h.inn hn)).2 hn.2 fun z hz => by
  obtain ⟨x, hx, t⟩ := held_mem.mp hz
  have a := h x (settled_mem hx)
  unfold touches at t
  simp only [Bool.or_eq_true, decide_eq_true_eq] at t
  rcases t with e | e
  · rw [← e]; exact a.1
  · rw [← e]; exact a.2.1
end SH
namespace SH
open PySem PySem.Spec PyProof.Rows L2 DL
end SH
namespace SH
open PySem PySem.Spec PyProof.Rows L2 DL
def sgn (n : Int) : Int := if 0 < n then 1 else -1
def rep (a b : Str) (n : Int) : Row := List.replicate n.natAbs (a, b, sgn n)
theorem two_of {S : List Str} (h : S.length = 2) : ∃ a b, S = [a, b] := by
  match S, h with
  | [a, b], _ => exact ⟨a, b, rfl⟩
end SH
namespace SH
open PySem PySem.Spec PyProof.Rows L2 DL
/-- a hook of two ropes, either way about -/
def Joins (h : Hook) (a b : Str) : Prop := (h.1 = a ∧ h.2.1 = b ∨ h.1 = b ∧ h.2.1 = a) ∧ (h.2.2 = 1 ∨ h.2.2 = -1)
def isBy (ns : List Str) (k : Nat) (h : Hook) : Prop := 0 < k ∧ (ns[k - 1]? = some h.1 ∧ ns[k]? = some h.2.1 ∨ ns[k - 1]? = some h.2.1 ∧ ns[k]? = some h.1)
instance (ns : List Str) (k : Nat) (h : Hook) : Decidable (isBy ns k h) := by unfold isBy; exact inferInstance
def rise2 (ns : List Str) (h : Hook) (s : Nat → Int) : Nat → Int := fun k => if isBy ns k h then s k + h.2.2 * s (k - 1) else s k
theorem by_inj {ns : List Str} (nd : ns.Nodup) {i j : Nat} {h : Hook} (a : isBy ns i h) (b : isBy ns j h) : i = j := by
  obtain ⟨a0, a1 | a1⟩ := a <;> obtain ⟨b0, b1 | b1⟩ := b
  · exact at_inj nd a1.2 b1.2
  · have := at_inj nd a1.1 b1.2
    have := at_inj nd a1.2 b1.1
    omega
  · have := at_inj nd a1.1 b1.2
    have := at_inj nd a1.2 b1.1
    omega
  · exact at_inj nd a1.2 b1.2
theorem by_not {ns : List Str} (nd : ns.Nodup) {k : Nat} {h : Hook} (a : isBy ns k h) : ¬ isBy ns (k - 1) h := fun b => by
  have := by_inj nd a b
  have := a.1
  omega
theorem rise2_back {ns : List Str} (nd : ns.Nodup) (h : Hook) (s : Nat → Int) : rise2 ns (turned h) (rise2 ns h s) = s := by
  funext k
  have e : ∀ k, isBy ns k (turned h) ↔ isBy ns k h := fun k => Iff.rfl
  unfold rise2
  simp only [e]
  by_cases c : isBy ns k h
  · rw [if_pos c, if_pos c, if_neg (by_not nd c)]
    show s k + h.2.2 * s (k - 1) + -h.2.2 * s (k - 1) = s k
    rw [Int.neg_mul]
    omega
  · rw [if_neg c, if_neg c]
theorem by_on {ns : List Str} {k : Nat} {h : Hook} (a : isBy ns k h) {z : Str} (hz : ns[k]? = some z ∨ ns[k - 1]? = some z) : z = h.1 ∨ z = h.2.1 := by
  obtain ⟨_, a1 | a1⟩ := a <;> rcases hz with hz | hz
  · rw [a1.2] at hz; exact .inr (Option.some.inj hz).symm
  · rw [a1.1] at hz; exact .inl (Option.some.inj hz).symm
  · rw [a1.2] at hz; exact .inl (Option.some.inj hz).symm
  · rw [a1.1] at hz; exact .inr (Option.some.inj hz).symm
theorem by_at {ns : List Str} {k : Nat} {h : Hook} (a : isBy ns k h) : (∃ z, ns[k]? = some z ∧ (z = h.1 ∨ z = h.2.1)) ∧ ∃ z, ns[k - 1]? = some z ∧ (z = h.1 ∨ z = h.2.1) := by
  obtain ⟨_, a1 | a1⟩ := a
  · exact ⟨⟨_, a1.2, .inr rfl⟩, ⟨_, a1.1, .inl rfl⟩⟩
  · exact ⟨⟨_, a1.2, .inl rfl⟩, ⟨_, a1.1, .inr rfl⟩⟩
theorem rise2_pass {ns : List Str} (nd : ns.Nodup) (h g : Hook) (s : Nat → Int) (e : hits h g = false) : rise2 ns h (rise2 ns g s) = rise2 ns g (rise2 ns h s) := by
  have off := hits_false e
  have ne1 : g.1 ≠ h.1 ∧ g.2.1 ≠ h.1 := by
    have := off.1
    unfold touches at this
    simpa using this
  have ne2 : g.1 ≠ h.2.1 ∧ g.2.1 ≠ h.2.1 := by
    have := off.2
    unfold touches at this
    simpa using this
  have apart : ∀ z, (z = h.1 ∨ z = h.2.1) → (z = g.1 ∨ z = g.2.1) → False := fun z a b => by
    rcases a with rfl | rfl <;> rcases b with b | b
    · exact ne1.1 b.symm
    · exact ne1.2 b.symm
    · exact ne2.1 b.symm
    · exact ne2.2 b.symm
  have n1 : ∀ k, isBy ns k h → ¬ isBy ns k g ∧ ¬ isBy ns (k - 1) g := fun k a => by
    obtain ⟨⟨z, z1, z2⟩, y, y1, y2⟩ := by_at a
    exact ⟨fun b => apart z z2 (by_on b (.inl z1)), fun b => apart y y2 (by_on b (.inl y1))⟩
  have n2 : ∀ k, isBy ns k g → ¬ isBy ns k h ∧ ¬ isBy ns (k - 1) h := fun k a => by
    obtain ⟨⟨z, z1, z2⟩, y, y1, y2⟩ := by_at a
    exact ⟨fun b => apart z (by_on b (.inl z1)) z2, fun b => apart y (by_on b (.inl y1)) y2⟩
  funext k
  unfold rise2
  by_cases c : isBy ns k h
  · obtain ⟨d1, d2⟩ := n1 k c
    rw [if_pos c, if_neg d1, if_neg d2, if_neg d1, if_pos c]
  · by_cases d : isBy ns k g
    · obtain ⟨c1, c2⟩ := n2 k d
      rw [if_neg c1, if_pos d, if_pos d, if_neg c1, if_neg c2]
    · rw [if_neg c, if_neg d, if_neg d, if_neg c]
/-- a row woven rope by rope -/
inductive Wv : List Str → Row → Prop
  | two {a b : Str} {h : Hook} : Joins h a b → Wv [a, b] [h]
  | more {zs : List Str} {l x : Str} {r : Row} {h : Hook} : Wv (zs ++ [l]) r → Joins h l x → Wv (zs ++ [l, x]) (r ++ [h] ++ back r ++ [turned h])
theorem Wv.long {zs : List Str} {r : Row} (w : Wv zs r) : 2 ≤ zs.length := by
  induction w with
  | two _ => exact Nat.le_refl _
  | more _ _ ih => simp at ih ⊢
theorem Wv.on {zs : List Str} {r : Row} (w : Wv zs r) : ∀ x ∈ r, x.1 ∈ zs ∧ x.2.1 ∈ zs := by
  induction w with
  | two j =>
    intro x hx
    rw [List.mem_singleton.mp hx]
    rcases j.1 with ⟨e1, e2⟩ | ⟨e1, e2⟩ <;> rw [e1, e2] <;> simp
  | @more zs l x r h w j ih =>
    have sub : ∀ z, z ∈ zs ++ [l] → z ∈ zs ++ [l, x] := fun z hz => by simp at hz ⊢; rcases hz with hz | hz <;> simp [hz]
    have hh : ∀ g : Hook, g.1 = h.1 → g.2.1 = h.2.1 → g.1 ∈ zs ++ [l, x] ∧ g.2.1 ∈ zs ++ [l, x] := fun g e1 e2 => by
      rw [e1, e2]
      rcases j.1 with ⟨e1, e2⟩ | ⟨e1, e2⟩ <;> rw [e1, e2] <;> simp
    intro y hy
    simp only [List.mem_append, List.mem_singleton] at hy
    rcases hy with ((hy | rfl) | hy) | rfl
    · exact ⟨sub _ (ih y hy).1, sub _ (ih y hy).2⟩
    · exact hh _ rfl rfl
    · unfold back at hy
      obtain ⟨g, hg, rfl⟩ := List.mem_map.mp hy
      have := ih g (List.mem_reverse.mp hg)
      exact ⟨sub _ this.1, sub _ this.2⟩
    · exact hh _ rfl rfl
theorem Wv.bare {zs : List Str} {r : Row} (w : Wv zs r) {S : List Str} : (∃ z ∈ zs, z ∉ S) → pile (keptF r S) = pile [] := by
  induction w with
  | @two a b h j =>
    rintro ⟨z, hz, c⟩
    have : keptF [h] S = [] := by
      unfold keptF
      rw [List.filter_eq_nil_iff]
      intro g hg d
      rw [List.mem_singleton.mp hg, Bool.and_eq_true, decide_eq_true_iff, decide_eq_true_iff] at d
      simp only [List.mem_cons, List.not_mem_nil, or_false] at hz
      rcases j.1 with ⟨e1, e2⟩ | ⟨e1, e2⟩ <;> rw [e1, e2] at d <;> rcases hz with rfl | rfl
      · exact c d.1
      · exact c d.2
      · exact c d.2
      · exact c d.1
    rw [this]
  | @more zs l x r h w j ih =>
    rintro ⟨z, hz, c⟩
    have ka : ∀ u v : Row, keptF (u ++ v) S = keptF u S ++ keptF v S := fun u v => List.filter_append ..
    have kb : keptF (back r) S = back (keptF r S) := kept_back r S
    have kt : keptF [turned h] S = back (keptF [h] S) := kept_back [h] S
    rw [ka, ka, ka, kb, kt]
    by_cases d : z ∈ zs ++ [l]
    · have e := ih ⟨z, d, c⟩
      have eb := pile_backs e
      have h1 : pile (keptF r S ++ keptF [h] S ++ back (keptF r S) ++ back (keptF [h] S)) = pile ([] ++ keptF [h] S ++ [] ++ back (keptF [h] S)) := pile_app1 (pile_both (pile_app1 e) eb)
      rw [h1, List.nil_append, List.append_nil]
      exact pile_undo _
    · have zx : z = x := by
        simp at hz d
        rcases hz with hz | hz | hz
        · exact absurd hz d.1
        · exact absurd hz d.2
        · exact hz
      subst zx
      have : keptF [h] S = [] := by
        unfold keptF
        rw [List.filter_eq_nil_iff]
        intro g hg d
        rw [List.mem_singleton.mp hg, Bool.and_eq_true, decide_eq_true_iff, decide_eq_true_iff] at d
        rcases j.1 with ⟨e1, e2⟩ | ⟨e1, e2⟩ <;> rw [e1, e2] at d
        · exact c d.2
        · exact c d.1
      rw [this, List.append_nil]
      show pile (keptF r S ++ back (keptF r S) ++ []) = _
      rw [List.append_nil]
      exact pile_undo _
theorem lift_neg {k : Nat} (h0 : 0 < k) (c : Int) (s : Nat → Int) : lift k c (lift k (-c) s) = s := by
  funext j
  unfold lift
  by_cases d : j = k
  · subst d
    rw [if_pos rfl, if_pos rfl, if_neg (show ¬ 0 = j by omega), Int.neg_mul]
    omega
  · rw [if_neg d, if_neg d]
theorem Wv.does {zs : List Str} {r : Row} (w : Wv zs r) : ∀ {ns : List Str}, ns.Nodup → zs <+: ns → ∃ c : Int, (c = 1 ∨ c = -1) ∧ ∀ s, doing (rise2 ns) r s = lift (zs.length - 1) c s := by
  induction w with
  | @two a b h j =>
    intro ns nd hp
    obtain ⟨t, rfl⟩ := hp
    refine ⟨h.2.2, j.2, fun s => ?_⟩
    show rise2 _ h s = _
    have at1 : isBy ([a, b] ++ t) 1 h := by
      refine ⟨by decide, ?_⟩
      rcases j.1 with ⟨e1, e2⟩ | ⟨e1, e2⟩ <;> rw [e1, e2]
      · exact .inl ⟨rfl, rfl⟩
      · exact .inr ⟨rfl, rfl⟩
    funext k
    unfold rise2 lift
    by_cases c : k = 1
    · subst c
      rw [if_pos at1, if_pos (show 1 = [a, b].length - 1 from rfl)]
    · rw [if_neg fun q => c (by_inj nd q at1), if_neg (show ¬ k = [a, b].length - 1 from c)]
  | @more zs l x r h w j ih =>
    intro ns nd hp
    have hp2 : zs ++ [l] <+: ns := List.IsPrefix.trans ⟨[x], by simp⟩ hp
    obtain ⟨c, hc, e⟩ := ih nd hp2
    have lz : (zs ++ [l]).length - 1 = zs.length := by simp
    have z0 : 0 < zs.length := by
      have := w.long
      simp at this
      omega
    rw [lz] at e
    have eb : ∀ s, doing (rise2 ns) (back r) s = lift zs.length (-c) s := fun s => by
      have q : doing (rise2 ns) r (lift zs.length (-c) s) = s := by rw [e, lift_neg z0]
      have := doing_back (rise2_back nd) r (lift zs.length (-c) s)
      rw [q] at this
      exact this
    obtain ⟨t, rfl⟩ := hp
    have g1 : (zs ++ [l, x] ++ t)[zs.length]? = some l := by simp
    have g2 : (zs ++ [l, x] ++ t)[zs.length + 1]? = some x := by simp
    have at1 : isBy (zs ++ [l, x] ++ t) (zs.length + 1) h := by
      refine ⟨Nat.succ_pos _, ?_⟩
      rcases j.1 with ⟨e1, e2⟩ | ⟨e1, e2⟩ <;> rw [e1, e2]
      · exact .inl ⟨g1, g2⟩
      · exact .inr ⟨g1, g2⟩
    have hat : ∀ g : Hook, (g.1 = h.1 ∧ g.2.1 = h.2.1) → ∀ k, isBy (zs ++ [l, x] ++ t) k g ↔ k = zs.length + 1 := fun g eg k => by
      have ag : isBy (zs ++ [l, x] ++ t) (zs.length + 1) g := by
        unfold isBy
        rw [eg.1, eg.2]
        exact at1
      exact ⟨fun a => by_inj nd a ag, fun q => by rw [q]; exact ag⟩
    have hr : ∀ (g : Hook), (g.1 = h.1 ∧ g.2.1 = h.2.1) → ∀ s : Nat → Int, rise2 (zs ++ [l, x] ++ t) g s = fun k => if k = zs.length + 1 then s k + g.2.2 * s zs.length else s k := fun g eg s => by
      funext k
      unfold rise2
      simp only [hat g eg]
      by_cases d : k = zs.length + 1
      · subst d
        rw [if_pos rfl, if_pos rfl]
        rfl
      · rw [if_neg d, if_neg d]
    have ll : (zs ++ [l, x]).length - 1 = zs.length + 1 := by simp
    refine ⟨h.2.2 * c, by rcases j.2 with q | q <;> rcases hc with p | p <;> rw [q, p] <;> simp, fun s => ?_⟩
    rw [ll, doing_app, doing_app, doing_app, e, eb]
    show rise2 _ (turned h) (lift zs.length (-c) (rise2 _ h (lift zs.length c s))) = _
    rw [hr h ⟨rfl, rfl⟩, hr (turned h) ⟨rfl, rfl⟩]
    have ht : (turned h).2.2 = -h.2.2 := rfl
    funext k
    unfold lift
    by_cases d : k = zs.length + 1
    · subst d
      simp only [if_true, show ¬ (zs.length + 1 = zs.length) by omega, if_false, show ¬ (zs.length = zs.length + 1) by omega, show ¬ (0 = zs.length) by omega, show ¬ (0 = zs.length + 1) by omega, ht]
      rcases j.2 with q | q <;> rcases hc with p | p <;> rw [q, p] <;> omega
    · by_cases d2 : k = zs.length
      · subst d2
        simp only [if_true, show ¬ (zs.length = zs.length + 1) by omega, if_false, show ¬ (0 = zs.length) by omega, show ¬ (0 = zs.length + 1) by omega]
        rcases hc with p | p <;> rw [p] <;> omega
      · simp only [d, d2, if_false]
theorem Wv.not {zs : List Str} {r : Row} (w : Wv zs r) (nd : zs.Nodup) : pile r ≠ pile [] := fun e => by
  obtain ⟨c, hc, h⟩ := w.does nd (List.prefix_refl zs)
  have q := congrFun (doing_same (rise2_back nd) (rise2_pass nd) e fun j => if j = 0 then 1 else 0) (zs.length - 1)
  have l2 := w.long
  rw [h] at q
  unfold lift at q
  rw [if_pos rfl] at q
  have n0 : (if zs.length - 1 = 0 then (1 : Int) else 0) = 0 := if_neg (by omega)
  rw [show doing (rise2 zs) [] (fun j => if j = 0 then (1 : Int) else 0) (zs.length - 1) = 0 from n0] at q
  simp only [n0, if_true] at q
  rcases hc with p | p <;> rw [p] at q <;> omega
end SH
namespace SH
open PySem PySem.Spec PyProof.Rows L2 DL
def BoxesK (N : Int) (κ : Kap) : Prop := ∀ i, i < κ.length → ∃ bs, κ[i]? = some (.l bs) ∧ Box N bs
theorem BoxesK.snoc {N : Int} {κ : Kap} {bs : List PyData} (h : BoxesK N κ) (hb : Box N bs) : BoxesK N (κ ++ [.l bs]) := fun i hi => by
  rw [List.length_append, List.length_singleton] at hi
  by_cases c : i < κ.length
  · rw [List.getElem?_append_left c]; exact h i c
  · rw [List.getElem?_append_right (by omega), show i - κ.length = 0 by omega]
    exact ⟨bs, rfl, hb⟩
theorem BoxesK.put {N M : Int} {κ : Kap} {bs : List PyData} {j : Nat} (h : BoxesK N κ) (hm : N ≤ M) (hb : Box M bs) : BoxesK M (κ.set j (.l bs)) := fun i hi => by
  rw [List.length_set] at hi
  by_cases c : j = i
  · subst c
    exact ⟨bs, List.getElem?_set_self hi, hb⟩
  · rw [List.getElem?_set_ne c]
    obtain ⟨b, e, q⟩ := h i hi
    exact ⟨b, e, q.mono hm⟩
section
variable {Ph : List PyData → List R → (R → List PyData → Prop) → Prop} {c : Int}
end
end SH
namespace SH
open PySem PySem.Spec PyProof.Rows L2 DL
section
variable {Ph : List PyData → List R → (R → List PyData → Prop) → Prop} {c : Int}
theorem ask_box {N : Int} {bs : List PyData} {ns : List Int} {p1 : Option R} {κ : Kap} {P : Bool → Kap → Prop} (hp : RightOk Ph c) (h0 : 0 ≤ N) (hb : Box N bs) (hN : N ≤ 2 ^ 30) (k : ∀ bs', Box (N + c) bs' → P true (κ ++ [.l bs'])) :
    wTru (wCallL Ph (wCons (wVar 2) wNil)) [some (.s ns), p1, some (.c κ.length)] (κ ++ [.l bs]) P := by
  have gl : ∀ bs : List PyData, (κ ++ [Cell.l bs])[κ.length]? = some (.l bs) := fun bs => by
    rw [List.getElem?_append_right (Nat.le_refl _), Nat.sub_self]; rfl
  have st : ∀ bs bs' : List PyData, (κ ++ [Cell.l bs]).set κ.length (.l bs') = κ ++ [.l bs'] := fun bs bs' => by
    rw [List.set_append_right _ _ (Nat.le_refl _), Nat.sub_self]; rfl
  simp only [s_tru, s_callL, s_cons, s_nil, s_var, List.getElem?_cons_succ, List.getElem?_cons_zero, st_c, lend_c, DL.args_nil, gl, Opt_some]
  refine hp.2.2 N bs _ hb h0 hN fun bs' hb' => ?_
  simp only [lab_d, st_d, val_d, Opt_some, st, istt]
  exact k bs' hb'
def wb_lawD (Ph : List PyData → List R → (R → List PyData → Prop) → Prop) : DTS := (wSeq (wSet true 2 (wCall Ph_law_box (wCons (wVar 0) (wCons (wVar 1) wNil))))
  (wIfS (wOr (wNot (wTru (wCallL Ph (wCons (wVar 2) wNil)))) (wNot (wTru (wCallL Ph (wCons (wVar 2) wNil))))) (wRet (wC (.bool false))) wNext))
theorem law_bodyD (hp : RightOk Ph c) {E : DEnds} {ns : List Int} {i : Nat} {p2 : Option R} {κ : Kap} (hi : i ≤ 1000) (k : ∀ p2 κ', E.nx [some (.s ns), some (.d (.int i)), p2] κ') : wb_lawD Ph E [some (.s ns), some (.d (.int i)), p2] κ := by
  have c0 := hp.1
  have c1 := hp.2.1
  unfold wb_lawD
  rw [s_seq]
  simp only [s_set, s_call, s_cons, s_nil, s_var, List.getElem?_cons_succ, List.getElem?_cons_zero, st_d, st_s, args_d, args_s, DL.args_nil, Opt_some]
  refine ⟨ns, i, rfl, by omega, by omega, fun bs hb => ?_⟩
  simp only [sto_t, List.set_cons_succ, List.set_cons_zero]
  rw [s_if, s_or, s_not]
  refine ask_box (P := fun b κ1 => _) hp (by omega) hb (by decide) fun bs1 hb1 => ?_
  simp only [Bool.not_true, Bool.false_eq_true, if_false]
  rw [s_not]
  refine ask_box (P := fun b κ1 => _) hp (by omega) hb1 (by omega) fun bs2 hb2 => ?_
  simp only [Bool.not_true, Bool.false_eq_true, if_false, s_next]
  exact k _ _
theorem law_loop3 {Pd : R → Prop} {wb : DTS} {n : Nat} (hn : n ≤ 1000) (hw : ∀ {E : DEnds} {ns : List Int} {i : Nat} {p2 : Option R} {κ : Kap}, i ≤ 1000 → (∀ p2 κ', E.nx [some (.s ns), some (.d (.int i)), p2] κ') → wb E [some (.s ns), some (.d (.int i)), p2] κ) {ns : List Int} (k : Pd (.d (.bool true))) :
    wSeq (fun E ρ κ => forL (fun _ => True) (wName 1) wb E ((List.range n).map fun (i : Nat) => .int (0 + (i : Int))) ρ κ) (wRet (wC (.bool true)))
    { nx := fun _ _ => Pd (.d .none), rt := fun r κ => Opt (outR κ 0 r) Pd } [some (.s ns), none, none] [] := by
  rw [s_seq]
  refine for_each (fun ρ κ => ∃ p1 p2, ρ = [some (.s ns), p1, p2]) (fun _ => trivial) _ _ _ ⟨_, _, rfl⟩ (fun x hx ρ κ h E' h1 h2 h3 h4 => ?_) (fun ρ κ h => ?_)
  · obtain ⟨p1, p2, rfl⟩ := h
    obtain ⟨i, hi, rfl⟩ := List.mem_map.mp hx
    have := List.mem_range.mp hi
    simp only [s_name, List.set_cons_succ, List.set_cons_zero, Int.zero_add]
    exact hw (by omega) fun p2 κ' => h3 _ _ ⟨_, _, rfl⟩
  · obtain ⟨p1, p2, rfl⟩ := h
    simp
    exact k
/-- for k in range(max(1, min(M, len(script)))) -/
def w_max3 (M : Nat) (wb : DTS) : DTS := (wSeq (wFor (wRng1 (wCons (wCB max2D (wCons (wC (.int 1)) (wCons (wCB min2D (wCons (wC (.int (M : Int))) (wCons (wLenS (wVar 0)) wNil))) wNil))) wNil)) (wName 1) wb)
  (wRet (wC (.bool true))))
theorem r_max3 {M : Nat} {wb : DTS} (hM : M ≤ 100) (hw : ∀ {E : DEnds} {ns : List Int} {i : Nat} {p2 : Option R} {κ : Kap}, i ≤ 1000 → (∀ p2 κ', E.nx [some (.s ns), some (.d (.int i)), p2] κ') → wb E [some (.s ns), some (.d (.int i)), p2] κ) (rs : List R) (Pd : R → Prop) (h : Ph_law rs Pd) (hl : rs.length = 1) : w_max3 M wb { nx := fun _ _ => Pd (.d .none), rt := fun r κ => Opt (outR κ 0 r) Pd } (rs.map some ++ List.replicate 2 none) [] := by
  obtain ⟨ns, rfl, k⟩ := h
  have := law_loop3 (n := max 1 (min M ns.length)) (by omega) hw (ns := ns) k
  simp [w_max3] at this ⊢
  refine ⟨by split <;> split <;> omega, by split <;> split <;> omega, ?_⟩
  rw [rng_C]
  exact this
end
end SH
namespace SH
open PySem PySem.Spec PyProof.Rows L2 DL
/-- can be told: depth at most n, weight at most w -/
def Tell (n w : Nat) (d : PyData) : Prop := d.canLay0 = true ∧ d.depth ≤ n ∧ d.showable = true ∧ d.leavesShort 13 = true ∧ d.weight ≤ w
theorem tell_int {i : Int} (h : i.natAbs < 2 ^ 30) : Tell 0 31 (.int i) := by
  have l : i.natAbs ≠ 0 → i.natAbs.log2 < 30 := fun q => (Nat.log2_lt q).mpr h
  refine ⟨by simp [PyData.canLay0], by simp [PyData.depth], ?_, ?_, ?_⟩
  · simp only [PyData.showable]
    refine decide_eq_true ?_
    by_cases q : i.natAbs = 0
    · rw [q]; decide
    · have := l q; omega
  · simp only [PyData.leavesShort]
    exact decide_eq_true (PyData.shown_int_le (by omega))
  · simp only [PyData.weight]
    split
    · omega
    · rename_i q
      have : i.natAbs ≠ 0 := fun e => q (by simpa using Int.natAbs_eq_zero.mp e)
      have := l this
      omega
theorem Tell.mono {n w n' w' : Nat} {d : PyData} (h : Tell n w d) (h1 : n ≤ n') (h2 : w ≤ w') : Tell n' w' d := ⟨h.1, by have := h.2.1; omega, h.2.2.1, h.2.2.2.1, by have := h.2.2.2.2; omega⟩
theorem Tell.text {n w : Nat} {xs : List PyData} (h : Tell n w (.list xs)) (h1 : n ≤ 100) (h2 : w ≤ 2 ^ 20) : TextOk (.list xs) :=
  ⟨h.2.2.1, h.1, by have := h.2.1; omega, PyData.shown_fits (B := 13) (by decide) (by decide) h.2.2.2.1 (by have := h.2.2.2.2; omega), .inl ⟨_, rfl⟩⟩
end SH
namespace SH
open PySem PySem.Spec PyProof.Rows L2 DL
/-- as GoodN, without truths -/
def GoodC : Nat → PyData → Prop
  | n + 1, .list xs => xs.length ≤ sizeLine ∧ ∀ x ∈ xs, GoodC n x
  | n + 1, .tuple xs => xs.length ≤ sizeLine ∧ ∀ x ∈ xs, GoodC n x
  | _ + 1, .str z => SeqAt.shaped (.str z) = true
  | _ + 1, .int _ => True
  | _ + 1, .none => True
  | _, _ => False
theorem GoodC.good : ∀ {n : Nat} {x : PyData}, GoodC n x → GoodN n x
  | 0, x, h => by cases x <;> exact h.elim
  | n + 1, .list xs, h => ⟨h.1, fun x hx => GoodC.good (h.2 x hx)⟩
  | n + 1, .tuple xs, h => ⟨h.1, fun x hx => GoodC.good (h.2 x hx)⟩
  | n + 1, .str z, h => h
  | n + 1, .int i, _ => trivial
  | n + 1, .none, _ => trivial
  | n + 1, .bool _, h => h.elim
  | n + 1, .dict _, h => h.elim
theorem eqvAll_c {n m : Nat} (ih : ∀ (x y : PyData), GoodC n x → GoodC m y → (PyData.eqv x y = true ↔ x = y)) : ∀ (xs ys : List PyData), (∀ x ∈ xs, GoodC n x) → (∀ y ∈ ys, GoodC m y) → (PyData.eqvAll xs ys = true ↔ xs = ys)
  | [], [], _, _ => by simp [PyData.eqvAll]
  | x :: xs, [], _, _ => by simp [PyData.eqvAll]
  | [], y :: ys, _, _ => by simp [PyData.eqvAll]
  | x :: xs, y :: ys, hx, hy => by
    rw [PyData.eqvAll, Bool.and_eq_true, ih x y (hx x (List.mem_cons_self ..)) (hy y (List.mem_cons_self ..)), eqvAll_c ih xs ys (fun z hz => hx z (List.mem_cons_of_mem _ hz)) (fun z hz => hy z (List.mem_cons_of_mem _ hz)), List.cons.injEq]
theorem eqv_c : ∀ (n m : Nat) (x y : PyData), GoodC n x → GoodC m y → (PyData.eqv x y = true ↔ x = y) := by
  intro n
  induction n with
  | zero => intro m x y hx _; cases x <;> exact hx.elim
  | succ n ih =>
    intro m x y hx hy
    match m, hy with
    | 0, hy => cases y <;> exact hy.elim
    | m + 1, hy =>
      cases x <;> cases y <;> first
        | (rw [PyData.eqv, eqvAll_c (ih m) _ _ hx.2 hy.2]; simp)
        | exact hx.elim
        | exact hy.elim
        | simp [PyData.eqv]
theorem eqD_p {n m : Nat} {x y : PyData} {p : Prop} [Decidable p] (neg : Bool) (gx : GoodC n x) (gy : GoodC m y) (h : x = y ↔ p) (hn : n ≤ 64 := by decide) (hm : m ≤ 64 := by decide) : eqD neg x y = some (.v (.bool (if neg then !decide p else decide p))) := by
  have e : PyData.eqv x y = decide p := by
    rw [Bool.eq_iff_iff, eqv_c n m x y gx gy, h, decide_eq_true_iff]
  rw [eqD_of (good_shaped gx.good hn) (good_shaped gy.good hm), e]
theorem map_inj_iff {α β : Type} {f : α → β} (hf : ∀ a b, f a = f b → a = b) : ∀ {xs ys : List α}, xs.map f = ys.map f ↔ xs = ys
  | [], [] => by simp
  | x :: xs, [] => by simp
  | [], y :: ys => by simp
  | x :: xs, y :: ys => by
    rw [List.map_cons, List.map_cons, List.cons.injEq, List.cons.injEq, map_inj_iff hf]
    exact ⟨fun ⟨a, b⟩ => ⟨hf _ _ a, b⟩, fun ⟨a, b⟩ => ⟨congrArg f a, b⟩⟩
theorem str_inj (a b : Str) (h : PyData.str a = PyData.str b) : a = b := by cases h; rfl
theorem strsD_inj (a b : List Str) (h : strsD a = strsD b) : a = b := (map_inj_iff str_inj).mp (PyData.tuple.inj h)
theorem list_inj {α : Type} {f : α → PyData} (hf : ∀ a b, f a = f b → a = b) {xs ys : List α} : PyData.list (xs.map f) = .list (ys.map f) ↔ xs = ys := by
  rw [PyData.list.injEq, map_inj_iff hf]
theorem c_str {n : Nat} {z : Str} (h : IsName z) : GoodC (n + 1) (.str z) := h.shaped
theorem c_list {α : Type} {n : Nat} {f : α → PyData} {xs : List α} (hl : xs.length ≤ 1000000) (h : ∀ x ∈ xs, GoodC n (f x)) : GoodC (n + 1) (.list (xs.map f)) := ⟨by rw [List.length_map, sizeLine_eq]; omega, fun x hx => by
  obtain ⟨y, hy, rfl⟩ := List.mem_map.mp hx
  exact h y hy⟩
theorem c_tuple {α : Type} {n : Nat} {f : α → PyData} {xs : List α} (hl : xs.length ≤ 1000000) (h : ∀ x ∈ xs, GoodC n (f x)) : GoodC (n + 1) (.tuple (xs.map f)) := ⟨by rw [List.length_map, sizeLine_eq]; omega, fun x hx => by
  obtain ⟨y, hy, rfl⟩ := List.mem_map.mp hx
  exact h y hy⟩
theorem c_strs {n : Nat} {s : List Str} (h : ∀ z ∈ s, IsName z) (hl : s.length ≤ 1000000) : GoodC (n + 2) (strsD s) := c_tuple hl fun z hz => c_str (h z hz)
theorem c_sets {n : Nat} {l : List (List Str)} (h : ∀ s ∈ l, (∀ z ∈ s, IsName z) ∧ s.length ≤ 1000000) (hl : l.length ≤ 1000000) : GoodC (n + 3) (.list (l.map strsD)) := c_list hl fun s hs => c_strs (h s hs).1 (h s hs).2
end SH
namespace SH
open PySem PySem.Spec PyProof.Rows L2 DL
theorem RowOf.leastF {ns : List Str} {r : Row} (h : RowOf ns r) : RowOf ns (SH.leastF r) := fun x hx => h x (least_mem hx)
end SH
namespace SH
open PySem PySem.Spec PyProof.Rows L2 DL
/-- on these ropes, bare without one of them, not bare -/
def PureOn (ns : List Str) (r : Row) : Prop := RowOf ns r ∧ (∀ U, (∃ z ∈ ns, z ∉ U) → pile (keptF r U) = pile []) ∧ pile r ≠ pile []
section
variable {ns : List Str} {r x : Row}
theorem PureOn.drawn (p : PureOn ns r) {z : Str} (hz : z ∈ ns) : pile (drawnF r [z]) = pile [] := by
  rw [← kept_rest p.1]
  exact p.2.1 _ ⟨z, hz, by simp⟩
theorem PureOn.held (hn : Names ns) (p : PureOn ns r) : heldF r = ns := by
  refine strict_uniq (held_ok (p.1.inn hn)).2 hn.2 fun z => ⟨fun h => ?_, fun h => ?_⟩
  · exact (held_sub hn p.1).subset h
  · rw [held_iff, least_same (p.drawn h), leastF_nil]
    exact fun e => p.2.2 (bare_iff.mp e.symm)
theorem PureOn.kept (p : PureOn ns r) {z : Str} (hz : z ∈ ns) : leastF (keptF r (ns.filter fun x => !decide (x = z))) = [] := bare_iff.mpr (p.2.1 _ ⟨z, hz, by simp⟩)
theorem PureOn.pure (hn : Names ns) (p : PureOn ns r) : pureF r ns = true := by
  unfold pureF
  rw [← held_ropes, p.held hn, within_refl, Bool.true_and, List.all_eq_true]
  exact fun z hz => decide_eq_true (bare_iff.mpr (p.drawn hz))
theorem PureOn.parts (hn : Names ns) (n2 : 2 ≤ ns.length) (p : PureOn ns r) : partsN ns r = [(ns, leastF r)] :=
  parts_one hn.2 n2 hn.2 (List.Sublist.refl _) (fun x hx => ⟨(p.1 x hx).1, (p.1 x hx).2.1⟩) p.2.1 fun e => p.2.2 (bare_iff.mp e)
theorem PureOn.least (p : PureOn ns r) : leastF r ≠ [] := fun e => p.2.2 (bare_iff.mp e)
theorem PureOn.knot (hn : Names ns) (n2 : 2 ≤ ns.length) : PureOn ns (SH.knot ns) := by
  obtain ⟨a, b, xs, rfl⟩ := two_of_set n2
  have nd : (a :: b :: xs).Nodup := hn.2.imp fun q e => by subst e; exact absurd q (List.lt_irrefl _)
  exact ⟨knot_of hn, fun U h => knot_bare h, knot_not nd⟩
theorem flat_bare {g : Row} (h : pile g = pile []) : ∀ n, pile (List.replicate n g).flatten = pile []
  | 0 => rfl
  | n + 1 => by
    rw [List.replicate_succ, List.flatten_cons, pile_both h (flat_bare h n)]
    rfl
theorem kept_rep (U : List Str) (g : Row) : ∀ n, keptF (List.replicate n g).flatten U = (List.replicate n (keptF g U)).flatten
  | 0 => rfl
  | n + 1 => by rw [List.replicate_succ, List.replicate_succ, List.flatten_cons, List.flatten_cons, kept_app, kept_rep U g n]
theorem PureOn.knots (hn : Names ns) (n2 : 2 ≤ ns.length) {n : Nat} (h : 0 < n) : PureOn ns (List.replicate n (SH.knot ns)).flatten := by
  obtain ⟨a, b, xs, rfl⟩ := two_of_set n2
  have nd : (a :: b :: xs).Nodup := hn.2.imp fun q e => by subst e; exact absurd q (List.lt_irrefl _)
  exact ⟨rep_of (knot_of hn) n, fun U h => by rw [kept_rep]; exact flat_bare (knot_bare h) n, knots_not nd n h⟩
theorem PureOn.led (p : PureOn ns r) (hx : RowOf ns x) : PureOn ns (x ++ r ++ SH.back x) :=
  ⟨(hx.app p.1).app hx.back, fun U h => by rw [kept_app, kept_app, kept_back]; exact conj_bare.mpr (p.2.1 U h), fun e => p.2.2 (conj_bare.mp e)⟩
end
end SH
namespace SH
open PySem PySem.Spec PyProof.Rows L2 DL
theorem lenD_strs (s : List Str) : lenD [strsD s] = some (.v (.int (s.length : Nat))) := by
  show lenD [.tuple (s.map .str)] = _
  rw [lenD_tuple, List.length_map]
end SH
namespace SH
open PySem PySem.Spec PyProof.Rows L2 DL
theorem low_any_run {P : List Str → Bool} {l : List (List Str)} (hs : l.Pairwise fun a b => leLen a b = true) (hi : ∀ s ∈ l, Inc s) : ∀ (l2 l1 f : List (List Str)), l = l1 ++ l2 → f.Sublist l1 → f.Nodup → (∀ s, s ∈ f ↔ s ∈ l1 ∧ lowest P l s = true) →
    (l2.foldl (lowStep P) f).Sublist l ∧ (l2.foldl (lowStep P) f).Nodup ∧ ∀ s, s ∈ l2.foldl (lowStep P) f ↔ s ∈ l ∧ lowest P l s = true
  | [], l1, f, e, h1, h2, h3 => by rw [e, List.append_nil]; rw [e, List.append_nil] at h3; exact ⟨h1, h2, h3⟩
  | s :: l2, l1, f, e, h1, h2, h3 => by
    have e2 : l = (l1 ++ [s]) ++ l2 := by rw [e]; simp
    have hsl : s ∈ l := by rw [e]; simp
    rw [List.foldl_cons]
    have keep : lowest P l s = false ∨ s ∈ f → ∀ t, t ∈ f ↔ t ∈ l1 ++ [s] ∧ lowest P l t = true := fun c t => by
      rw [h3, List.mem_append, List.mem_singleton]
      refine ⟨fun ⟨a, b⟩ => ⟨.inl a, b⟩, fun ⟨a, b⟩ => ⟨?_, b⟩⟩
      rcases a with a | rfl
      · exact a
      · rcases c with c | c
        · rw [b] at c; cases c
        · exact ((h3 t).mp c).1
    cases q : lowest P l s with
    | true =>
      obtain ⟨hp, hmin⟩ := lowest_iff.mp q
      by_cases c : s ∈ f
      · have e3 : lowStep P f s = f := by
          unfold lowStep
          rw [show (f.any fun t => withinF t s) = true from List.any_eq_true.mpr ⟨s, c, within_refl s⟩]
          rfl
        rw [e3]
        exact low_any_run hs hi l2 (l1 ++ [s]) f e2 (h1.trans (List.sublist_append_left _ _)) h2 (keep (.inr c))
      · have e4 : (f.any fun t => withinF t s) = false := by
          rw [List.any_eq_false]
          intro t ht hw
          obtain ⟨t1, t2⟩ := (h3 t).mp ht
          have := hmin t (by rw [e]; exact List.mem_append_left _ t1) (lowest_iff.mp t2).1 hw
          subst this
          exact c ht
        have e3 : lowStep P f s = f ++ [s] := by
          unfold lowStep
          rw [e4, hp]
          rfl
        rw [e3]
        refine low_any_run hs hi l2 (l1 ++ [s]) (f ++ [s]) e2 (h1.append (List.Sublist.refl _)) ?_ fun t => ?_
        · rw [List.nodup_append]
          refine ⟨h2, by simp, fun a ha b hb => ?_⟩
          rw [List.mem_singleton.mp hb]
          rintro rfl
          exact c ha
        · rw [List.mem_append, List.mem_append, h3, List.mem_singleton]
          refine ⟨fun h => ?_, fun ⟨a, b⟩ => ?_⟩
          · rcases h with ⟨a, b⟩ | rfl
            · exact ⟨.inl a, b⟩
            · exact ⟨.inr rfl, q⟩
          · rcases a with a | a
            · exact .inl ⟨a, b⟩
            · exact .inr a
    | false =>
      have e3 : lowStep P f s = f := by
        unfold lowStep
        cases hp : P s with
        | false => rw [Bool.and_false]; rfl
        | true =>
          have : ∃ u ∈ l, P u = true ∧ withinF u s = true ∧ u ≠ s := Classical.byContradiction fun c => by
            have : lowest P l s = true := lowest_iff.mpr ⟨hp, fun u hu h1 h2 => Classical.byContradiction fun d => c ⟨u, hu, h1, h2, d⟩⟩
            rw [q] at this
            cases this
          obtain ⟨t, ht, t1, t2, t3⟩ := this
          obtain ⟨u, hu, u1, u2⟩ := low_under hi t.length t (Nat.le_refl _) ht t1
          have us := within_trans u2 t2
          have lt : u.length < s.length := by
            have a1 := within_len (hi u hu) (hi t ht) u2
            have a2 : t.length < s.length := Nat.lt_of_not_le fun c => t3 (within_same (hi t ht) (hi s hsl) t2 c)
            omega
          have hul : u ∈ l1 := by
            rw [e] at hu hs
            rcases List.mem_append.mp hu with hu | hu
            · exact hu
            · exfalso
              rcases List.mem_cons.mp hu with rfl | hu
              · omega
              · have b1 := (List.pairwise_cons.mp (List.pairwise_append.mp hs).2.1).1 u hu
                have := leLen_anti b1 (leLen_short lt)
                subst this
                omega
          rw [show (f.any fun t => withinF t s) = true from List.any_eq_true.mpr ⟨u, (h3 u).mpr ⟨hul, u1⟩, us⟩]
          rfl
      rw [e3]
      exact low_any_run hs hi l2 (l1 ++ [s]) f e2 (h1.trans (List.sublist_append_left _ _)) h2 (keep (.inl q))
theorem low_any {P : List Str → Bool} {l : List (List Str)} (hs : l.Pairwise fun a b => leLen a b = true) (hi : ∀ s ∈ l, Inc s) : (lowF P l).Sublist l ∧ (lowF P l).Nodup ∧ ∀ s, s ∈ lowF P l ↔ s ∈ l ∧ lowest P l s = true :=
  low_any_run hs hi l [] [] rfl (List.Sublist.refl _) List.nodup_nil fun s => by simp
/-- the least ones of some sets, in order -/
def leastOnes (l : List (List Str)) : List (List Str) := lowF (fun _ => true) (l.mergeSort leLen)
theorem ones_mem {l : List (List Str)} (hi : ∀ s ∈ l, Inc s) {s : List Str} : s ∈ leastOnes l ↔ s ∈ l ∧ ∀ t ∈ l, withinF t s = true → t = s := by
  have p := List.mergeSort_perm l leLen
  unfold leastOnes
  rw [(low_any (leLen_sorted l) fun s hs => hi s (p.mem_iff.mp hs)).2.2, lowest_iff, p.mem_iff]
  exact ⟨fun ⟨a, _, b⟩ => ⟨a, fun t ht => b t (p.mem_iff.mpr ht) rfl⟩, fun ⟨a, b⟩ => ⟨a, rfl, fun t ht _ => b t (p.mem_iff.mp ht)⟩⟩
theorem ones_ok {l : List (List Str)} (hi : ∀ s ∈ l, Inc s) : (leastOnes l).Pairwise (fun a b => leLen a b = true) ∧ (leastOnes l).Nodup := by
  have p := List.mergeSort_perm l leLen
  have := low_any (P := fun _ => true) (leLen_sorted l) fun s hs => hi s (p.mem_iff.mp hs)
  exact ⟨(leLen_sorted l).sublist this.1, this.2.1⟩
def restF (ns : List Str) (z : Str) : List Str := ns.filter fun x => !decide (x = z)
theorem rest_mem {ns : List Str} {z x : Str} : x ∈ restF ns z ↔ x ∈ ns ∧ x ≠ z := by
  unfold restF
  rw [List.mem_filter, Bool.not_eq_true', decide_eq_false_iff_not]
theorem rest_sub (ns : List Str) (z : Str) : (restF ns z).Sublist ns := List.filter_sublist
section
variable {ns : List Str} {row : Row} {rope : Str}
def others (ns ropes : List Str) : List Str := ns.filter fun z => !decide (z ∈ ropes)
end
end SH
namespace SH
open PySem PySem.Spec PyProof.Rows L2 DL
end SH
namespace SH
open PySem PySem.Spec PyProof.Rows L2 DL
def Small (f : List (List Str)) : Prop := ∀ s ∈ f, (∀ z ∈ s, IsName z) ∧ s.length ≤ 1000
end SH
namespace SH
open PySem PySem.Spec PyProof.Rows L2 DL
section
variable {ns ropes cut : List Str} {row : Row}
end
end SH
namespace SH
open PySem PySem.Spec PyProof.Rows L2 DL
section
variable {ns ropes : List Str} {row : Row}
end
theorem ones_len (l : List (List Str)) : (leastOnes l).length ≤ l.length := by
  have h : ∀ (l2 f : List (List Str)), (l2.foldl (lowStep fun _ => true) f).length ≤ f.length + l2.length := by
    intro l2
    induction l2 with
    | nil => intro f; exact Nat.le_refl _
    | cons s l2 ih =>
      intro f
      rw [List.foldl_cons, List.length_cons]
      refine Nat.le_trans (ih _) ?_
      unfold lowStep
      split
      · rw [List.length_append, List.length_singleton]; omega
      · omega
  have := h (l.mergeSort leLen) []
  rw [List.length_mergeSort, List.length_nil] at this
  unfold leastOnes lowF
  omega
end SH
namespace SH
open PySem PySem.Spec PyProof.Rows L2 DL
section
variable {Ph : List PyData → List R → (R → List PyData → Prop) → Prop} {c : Int}
end
theorem in_c {α : Type} {f : α → PyData} (hf : ∀ a b, f a = f b → a = b) {n : Nat} {a : α} {l : List α} [Decidable (a ∈ l)] (neg : Bool) (ga : GoodC n (f a)) (gl : ∀ x ∈ l, GoodC n (f x)) (hl : l.length ≤ 1000000) (hn : n ≤ 60 := by decide) : inD neg (f a) (.list (l.map f)) = some (.v (.bool (if neg then !decide (a ∈ l) else decide (a ∈ l)))) := by
  have s1 : SeqAt.shaped (f a) = true := good_shaped ga.good (by omega)
  have s2 : SeqAt.shaped (.list (l.map f)) = true := good_shaped (n := n + 1) (c_list hl gl).good (by omega)
  have e : ((l.map f).any fun z => PyData.eqv z (f a)) = decide (a ∈ l) := by
    rw [Bool.eq_iff_iff, List.any_eq_true, decide_eq_true_iff]
    refine ⟨fun ⟨z, hz, q⟩ => ?_, fun h => ⟨f a, List.mem_map.mpr ⟨a, h, rfl⟩, (eqv_c n n _ _ ga ga).mpr rfl⟩⟩
    obtain ⟨x, hx, rfl⟩ := List.mem_map.mp hz
    rw [← hf _ _ ((eqv_c n n _ _ (gl x hx) ga).mp q)]
    exact hx
  unfold inD
  cases h : f a <;> (rw [h] at s1 e; simp only; rw [if_pos ⟨s1, s2⟩, e])
theorem in_sets {s : List Str} {l : List (List Str)} (neg : Bool) (hs : (∀ z ∈ s, IsName z) ∧ s.length ≤ 1000) (hl : Small l) (ll : l.length ≤ 1000000) : inD neg (strsD s) (.list (l.map strsD)) = some (.v (.bool (if neg then !decide (s ∈ l) else decide (s ∈ l)))) :=
  in_c strsD_inj (n := 3) neg (c_strs hs.1 (by omega)) (fun t ht => c_strs (hl t ht).1 (by have := (hl t ht).2; omega)) ll
theorem eqD_sets_nil (neg : Bool) {l : List (List Str)} (hl : Small l) (ll : l.length ≤ 1000000) : eqD neg (.list (l.map strsD)) (.list []) = some (.v (.bool (if neg then !decide (l = []) else decide (l = [])))) :=
  eqD_p (n := 3) (m := 3) neg (c_sets (fun s hs => ⟨(hl s hs).1, by have := (hl s hs).2; omega⟩) ll) (show GoodC 3 (.list []) from ⟨by simp, fun x hx => nomatch hx⟩) (list_inj (ys := []) strsD_inj)
end SH
namespace SH
open PySem PySem.Spec PyProof.Rows L2 DL
section
variable {ns : List Str} {fam : List (List Str)}
end
def topsF (l : List (List Str)) : List (List Str) := l.filter fun s => !(l.any fun t => decide (t.length < s.length) && withinF t s)
theorem tops_ones {l : List (List Str)} (hi : ∀ s ∈ l, Inc s) (nd : l.Nodup) : topsF (l.mergeSort leLen) = leastOnes l := by
  have p := List.mergeSort_perm l leLen
  have hi' : ∀ s ∈ l.mergeSort leLen, Inc s := fun s hs => hi s (p.mem_iff.mp hs)
  unfold leastOnes
  rw [low_eq (leLen_sorted l) (p.nodup_iff.mpr nd) hi']
  unfold topsF
  refine List.filter_congr fun s hs => ?_
  rw [Bool.eq_iff_iff, lowest_iff, Bool.not_eq_true', Bool.eq_false_iff, Ne, List.any_eq_true]
  refine ⟨fun h => ⟨rfl, fun t ht _ hw => Classical.byContradiction fun c => h ⟨t, ht, ?_⟩⟩, fun ⟨_, h⟩ ⟨t, ht, q⟩ => ?_⟩
  · rw [Bool.and_eq_true, decide_eq_true_iff]
    exact ⟨Nat.lt_of_not_le fun d => c (within_same (hi' t ht) (hi' s hs) hw d), hw⟩
  · rw [Bool.and_eq_true, decide_eq_true_iff] at q
    have := h t ht rfl q.2
    subst this
    omega
theorem rest_nodup {l : List (List Str)} {z : Str} (hi : ∀ s ∈ l, Inc s) (nd : l.Nodup) : ((l.filter fun S => decide (z ∈ S)).map fun S => restF S z).Nodup := by
  refine List.pairwise_map.mpr ((nd.sublist List.filter_sublist).imp_of_mem fun {S T} hS hT ne e => ne ?_)
  obtain ⟨a1, a2⟩ := List.mem_filter.mp hS
  obtain ⟨b1, b2⟩ := List.mem_filter.mp hT
  refine strict_uniq (hi S a1) (hi T b1) fun x => ?_
  by_cases c : x = z
  · subst c
    exact ⟨fun _ => of_decide_eq_true b2, fun _ => of_decide_eq_true a2⟩
  · have h : x ∈ restF S z ↔ x ∈ restF T z := by rw [e]
    rw [rest_mem, rest_mem] at h
    exact ⟨fun q => (h.mp ⟨q, c⟩).1, fun q => (h.mpr ⟨q, c⟩).1⟩
end SH
namespace SH
open PySem PySem.Spec PyProof.Rows L2 DL
def Ph_law_inside (rs : List R) (P : R → Prop) : Prop := ∃ (ss tt : List Str) (D E : PyData), NmD D ss ∧ NmD E tt ∧ rs = [.d D, .d E] ∧ ss.length ≤ 1000000 ∧ P (.d (.bool (withinF ss tt)))
/-- _law_inside -/
def w_law_inside : DTS := (wRet (wCB (allC fun bs => bs.all id) (wCons (wLc (wSq (wVar 0)) (wName 2) wYes (wBin (inD false) (wVar 2) (wVar 1)) [2]) wNil)))
theorem r_law_inside (rs : List R) (Pd : R → Prop) (h : Ph_law_inside rs Pd) (hl : rs.length = 2) : w_law_inside { nx := fun _ _ => Pd (.d .none), rt := fun r κ => Opt (outR κ 0 r) Pd } (rs.map some ++ List.replicate 1 none) [] := r_is_within rs Pd h hl
def Ph_law_tops (rs : List R) (P : R → Prop) : Prop := ∃ l : List (List Str), rs = [.d (.list (l.map strsD))] ∧ Small l ∧ l.length ≤ 1000 ∧ P (.f ((topsF l).map strsD))
/-- _law_tops -/
def w_law_tops : DTS := (wRet (wLc (wSq (wVar 0)) (wName 1) (wNot (wTru (wCB (allC fun bs => bs.any id) (wCons (wLc (wSq (wVar 0)) (wName 2) wYes (wAndV (wBin (ordD ltI ltS) (wCB lenD (wCons (wVar 2) wNil)) (wCB lenD (wCons (wVar 1) wNil))) (wCall Ph_law_inside (wCons (wVar 2) (wCons (wVar 1) wNil)))) [2]) wNil)))) (wVar 1) [1]))
theorem r_law_tops (rs : List R) (Pd : R → Prop) (h : Ph_law_tops rs Pd) (hl : rs.length = 1) : w_law_tops { nx := fun _ _ => Pd (.d .none), rt := fun r κ => Opt (outR κ 0 r) Pd } (rs.map some ++ List.replicate 2 none) [] := by
  obtain ⟨l, rfl, hs, hl, k⟩ := h
  have hz := sizeLine_eq
  simp only [List.map_cons, List.map_nil, List.replicate_succ, List.replicate_zero, List.cons_append, List.nil_append]
  unfold w_law_tops
  rw [s_ret]
  simp only [s_callL, s_call, s_cons, s_consM, s_nil, s_c, s_var, s_bin, s_un, s_lst, s_tup, s_cb, s_B, s_tru, s_not, s_repr, List.getElem?_cons_succ, List.getElem?_cons_zero, List.set_cons_succ, List.set_cons_zero, st_d, st_f, st_c, val_d, val_f, dats_d, dats_nil, vals_cons, vals_nil, lend_c, args_d, DL.args_nil, Opt_some, out_v, out_n, out_t, lab_d, lab_f, sto_f, sto_d, List.length_cons, List.length_nil, lenD_list, lenD_tuple, listC_list, listC_tuple, tupC_list, tupC_tuple, istt, istf, Bool.not_true, Bool.not_false, Bool.false_eq_true, if_false, if_true, s_lc, s_sq, wipeR_cons, wipeR_nil]
  refine lc_filter strsD (fun s => !(l.any fun t => decide (t.length < s.length) && withinF t s)) strsD (by trivial) l [] (by rw [List.length_nil]; omega) (fun s hsm C hC => ?_) ?_
  · have hC := hC [some (.d (.list (l.map strsD))), some (.d (strsD s)), none] fun _ D hD => by
      simp only [s_callL, s_call, s_cons, s_consM, s_nil, s_c, s_var, s_bin, s_un, s_lst, s_tup, s_cb, s_B, s_tru, s_not, s_repr, List.getElem?_cons_succ, List.getElem?_cons_zero, List.set_cons_succ, List.set_cons_zero, st_d, st_f, st_c, val_d, val_f, dats_d, dats_nil, vals_cons, vals_nil, lend_c, args_d, DL.args_nil, Opt_some, out_v, out_n, out_t, lab_d, lab_f, sto_f, sto_d, List.length_cons, List.length_nil, lenD_list, lenD_tuple, listC_list, listC_tuple, tupC_list, tupC_tuple, istt, istf, Bool.not_true, Bool.not_false, Bool.false_eq_true, if_false, if_true]
      exact hD
    rw [s_name]
    simp only [s_callL, s_call, s_cons, s_consM, s_nil, s_c, s_var, s_bin, s_un, s_lst, s_tup, s_cb, s_B, s_tru, s_not, s_repr, List.getElem?_cons_succ, List.getElem?_cons_zero, List.set_cons_succ, List.set_cons_zero, st_d, st_f, st_c, val_d, val_f, dats_d, dats_nil, vals_cons, vals_nil, lend_c, args_d, DL.args_nil, Opt_some, out_v, out_n, out_t, lab_d, lab_f, sto_f, sto_d, List.length_cons, List.length_nil, lenD_list, lenD_tuple, listC_list, listC_tuple, tupC_list, tupC_tuple, istt, istf, Bool.not_true, Bool.not_false, Bool.false_eq_true, if_false, if_true, s_lc, s_sq, wipeR_cons, wipeR_nil]
    refine lc_map strsD (fun t => .bool (decide (t.length < s.length) && withinF t s)) (by trivial) l [] (by rw [List.length_nil]; omega) (fun t ht C hC => ?_) ?_
    · have ts := (hs t ht).2
      have ss := (hs s hsm).2
      have e : ordD ltI ltS (.int (t.length : Nat)) (.int (s.length : Nat)) = some (.v (.bool (decide (t.length < s.length)))) := by
        rw [ordD_int]
        unfold ltI
        congr 3
        exact decide_eq_decide.mpr (by omega)
      rw [s_name]
      simp only [s_callL, s_call, s_cons, s_consM, s_nil, s_c, s_var, s_bin, s_un, s_lst, s_tup, s_cb, s_B, s_tru, s_not, s_repr, List.getElem?_cons_succ, List.getElem?_cons_zero, List.set_cons_succ, List.set_cons_zero, st_d, st_f, st_c, val_d, val_f, dats_d, dats_nil, vals_cons, vals_nil, lend_c, args_d, DL.args_nil, Opt_some, out_v, out_n, out_t, lab_d, lab_f, sto_f, sto_d, List.length_cons, List.length_nil, lenD_list, lenD_tuple, listC_list, listC_tuple, tupC_list, tupC_tuple, istt, istf, Bool.not_true, Bool.not_false, Bool.false_eq_true, if_false, if_true, s_andV, lenD_strs, e]
      cases q : decide (t.length < s.length) with
      | false =>
        rw [q] at hC
        rw [if_neg (by decide)]
        exact hC
      | true =>
        rw [q] at hC
        rw [if_pos rfl]
        refine ⟨t, s, _, _, ⟨.inr rfl, (hs t ht).1⟩, ⟨.inr rfl, (hs s hsm).1⟩, rfl, by omega, ?_⟩
        rw [Bool.true_and] at hC
        exact hC
    · simp only [s_callL, s_call, s_cons, s_consM, s_nil, s_c, s_var, s_bin, s_un, s_lst, s_tup, s_cb, s_B, s_tru, s_not, s_repr, List.getElem?_cons_succ, List.getElem?_cons_zero, List.set_cons_succ, List.set_cons_zero, st_d, st_f, st_c, val_d, val_f, dats_d, dats_nil, vals_cons, vals_nil, lend_c, args_d, DL.args_nil, Opt_some, out_v, out_n, out_t, lab_d, lab_f, sto_f, sto_d, List.length_cons, List.length_nil, lenD_list, lenD_tuple, listC_list, listC_tuple, tupC_list, tupC_tuple, istt, istf, Bool.not_true, Bool.not_false, Bool.false_eq_true, if_false, if_true, List.nil_append, any_f, truth_b]
      exact hC
  · rw [List.nil_append]
    simp only [s_callL, s_call, s_cons, s_consM, s_nil, s_c, s_var, s_bin, s_un, s_lst, s_tup, s_cb, s_B, s_tru, s_not, s_repr, List.getElem?_cons_succ, List.getElem?_cons_zero, List.set_cons_succ, List.set_cons_zero, st_d, st_f, st_c, val_d, val_f, dats_d, dats_nil, vals_cons, vals_nil, lend_c, args_d, DL.args_nil, Opt_some, out_v, out_n, out_t, lab_d, lab_f, sto_f, sto_d, List.length_cons, List.length_nil, lenD_list, lenD_tuple, listC_list, listC_tuple, tupC_list, tupC_tuple, istt, istf, Bool.not_true, Bool.not_false, Bool.false_eq_true, if_false, if_true, outR_f]
    exact k
/-- the sets with a rope, less it -/
def bareZ (fam : List (List Str)) (z : Str) : List (List Str) := (fam.filter fun S => decide (z ∈ S)).map fun S => restF S z
def Ph_law_holds_by (rs : List R) (P : R → Prop) : Prop := ∃ (fam : List (List Str)) (z : Str), rs = [.d (.list (fam.map strsD)), .d (.str z)] ∧ Small fam ∧ fam.length ≤ 1000 ∧ fam.Nodup ∧ (∀ s ∈ fam, Inc s) ∧ IsName z ∧ P (.f ((leastOnes (bareZ fam z)).map strsD))
/-- _law_holds_by -/
def w_law_holds_by : DTS := (wSeq (wSet false 2 (wLc (wSq (wVar 0)) (wName 3) (wB (wBin (inD false) (wVar 1) (wVar 3))) (wCB tupC (wCons (wLc (wSq (wVar 3)) (wName 4) (wB (wBin (eqD true) (wVar 4) (wVar 1))) (wVar 4) [4]) wNil)) [3]))
  (wRet (wCall Ph_law_tops (wCons (wLc (wSq (wCB sortC (wCons (wLc (wSq (wVar 2)) (wName 4) wYes (wTup (wCons (wCB lenD (wCons (wVar 4) wNil)) (wCons (wVar 4) wNil))) [4]) wNil))) (wName 5) wYes (wBin ixD (wVar 5) (wC (.int 1))) [5]) wNil))))
theorem r_law_holds_by (rs : List R) (Pd : R → Prop) (h : Ph_law_holds_by rs Pd) (hl : rs.length = 2) : w_law_holds_by { nx := fun _ _ => Pd (.d .none), rt := fun r κ => Opt (outR κ 0 r) Pd } (rs.map some ++ List.replicate 4 none) [] := by
  obtain ⟨fam, z, rfl, hs, hl, nd, hi, hz, k⟩ := h
  have hz' := sizeLine_eq
  have fl := List.length_filter_le (fun S => decide (z ∈ S)) fam
  have bS : Small (bareZ fam z) := fun b hb => by
    obtain ⟨S, h1, rfl⟩ := List.mem_map.mp hb
    have hS := hs S (List.mem_filter.mp h1).1
    exact ⟨fun y hy => hS.1 y (rest_mem.mp hy).1, Nat.le_trans (rest_sub S z).length_le hS.2⟩
  have bl : (bareZ fam z).length ≤ 1000 := by unfold bareZ; rw [List.length_map]; omega
  simp only [List.map_cons, List.map_nil, List.replicate_succ, List.replicate_zero, List.cons_append, List.nil_append]
  unfold w_law_holds_by
  rw [s_seq, s_set]
  simp only [s_callL, s_call, s_cons, s_consM, s_nil, s_c, s_var, s_bin, s_un, s_lst, s_tup, s_cb, s_B, s_tru, s_not, s_repr, List.getElem?_cons_succ, List.getElem?_cons_zero, List.set_cons_succ, List.set_cons_zero, st_d, st_f, st_c, val_d, val_f, dats_d, dats_nil, vals_cons, vals_nil, lend_c, args_d, DL.args_nil, Opt_some, out_v, out_n, out_t, lab_d, lab_f, sto_f, sto_d, List.length_cons, List.length_nil, lenD_list, lenD_tuple, listC_list, listC_tuple, tupC_list, tupC_tuple, istt, istf, Bool.not_true, Bool.not_false, Bool.false_eq_true, if_false, if_true, s_lc, s_sq, wipeR_cons, wipeR_nil]
  refine lc_filter strsD (fun S => decide (z ∈ S)) (fun S => strsD (restF S z)) (by trivial) fam [] (by rw [List.length_nil]; omega) (fun S hS C hC => ?_) ?_
  · have hSs := hs S hS
    have hC := hC [some (.d (.list (fam.map strsD))), some (.d (.str z)), none, some (.d (strsD S)), none, none] fun _ D hD => by
      simp only [s_callL, s_call, s_cons, s_consM, s_nil, s_c, s_var, s_bin, s_un, s_lst, s_tup, s_cb, s_B, s_tru, s_not, s_repr, List.getElem?_cons_succ, List.getElem?_cons_zero, List.set_cons_succ, List.set_cons_zero, st_d, st_f, st_c, val_d, val_f, dats_d, dats_nil, vals_cons, vals_nil, lend_c, args_d, DL.args_nil, Opt_some, out_v, out_n, out_t, lab_d, lab_f, sto_f, sto_d, List.length_cons, List.length_nil, lenD_list, lenD_tuple, listC_list, listC_tuple, tupC_list, tupC_tuple, istt, istf, Bool.not_true, Bool.not_false, Bool.false_eq_true, if_false, if_true, s_lc, s_sq, wipeR_cons, wipeR_nil]
      refine lc_filter PyData.str (fun y => !decide (y = z)) PyData.str (by trivial) S [] (by rw [List.length_nil]; omega) (fun y hy C hC => ?_) ?_
      · have hC := hC [some (.d (.list (fam.map strsD))), some (.d (.str z)), none, some (.d (strsD S)), some (.d (.str y)), none] fun _ D hD => by
          simp only [s_callL, s_call, s_cons, s_consM, s_nil, s_c, s_var, s_bin, s_un, s_lst, s_tup, s_cb, s_B, s_tru, s_not, s_repr, List.getElem?_cons_succ, List.getElem?_cons_zero, List.set_cons_succ, List.set_cons_zero, st_d, st_f, st_c, val_d, val_f, dats_d, dats_nil, vals_cons, vals_nil, lend_c, args_d, DL.args_nil, Opt_some, out_v, out_n, out_t, lab_d, lab_f, sto_f, sto_d, List.length_cons, List.length_nil, lenD_list, lenD_tuple, listC_list, listC_tuple, tupC_list, tupC_tuple, istt, istf, Bool.not_true, Bool.not_false, Bool.false_eq_true, if_false, if_true]
          exact hD
        rw [s_name]
        simp only [s_callL, s_call, s_cons, s_consM, s_nil, s_c, s_var, s_bin, s_un, s_lst, s_tup, s_cb, s_B, s_tru, s_not, s_repr, List.getElem?_cons_succ, List.getElem?_cons_zero, List.set_cons_succ, List.set_cons_zero, st_d, st_f, st_c, val_d, val_f, dats_d, dats_nil, vals_cons, vals_nil, lend_c, args_d, DL.args_nil, Opt_some, out_v, out_n, out_t, lab_d, lab_f, sto_f, sto_d, List.length_cons, List.length_nil, lenD_list, lenD_tuple, listC_list, listC_tuple, tupC_list, tupC_tuple, istt, istf, Bool.not_true, Bool.not_false, Bool.false_eq_true, if_false, if_true, eqD_ss]
        exact hC
      rw [List.nil_append]
      simp only [s_callL, s_call, s_cons, s_consM, s_nil, s_c, s_var, s_bin, s_un, s_lst, s_tup, s_cb, s_B, s_tru, s_not, s_repr, List.getElem?_cons_succ, List.getElem?_cons_zero, List.set_cons_succ, List.set_cons_zero, st_d, st_f, st_c, val_d, val_f, dats_d, dats_nil, vals_cons, vals_nil, lend_c, args_d, DL.args_nil, Opt_some, out_v, out_n, out_t, lab_d, lab_f, sto_f, sto_d, List.length_cons, List.length_nil, lenD_list, lenD_tuple, listC_list, listC_tuple, tupC_list, tupC_tuple, istt, istf, Bool.not_true, Bool.not_false, Bool.false_eq_true, if_false, if_true]
      exact hD
    rw [s_name]
    simp only [s_callL, s_call, s_cons, s_consM, s_nil, s_c, s_var, s_bin, s_un, s_lst, s_tup, s_cb, s_B, s_tru, s_not, s_repr, List.getElem?_cons_succ, List.getElem?_cons_zero, List.set_cons_succ, List.set_cons_zero, st_d, st_f, st_c, val_d, val_f, dats_d, dats_nil, vals_cons, vals_nil, lend_c, args_d, DL.args_nil, Opt_some, out_v, out_n, out_t, lab_d, lab_f, sto_f, sto_d, List.length_cons, List.length_nil, lenD_list, lenD_tuple, listC_list, listC_tuple, tupC_list, tupC_tuple, istt, istf, Bool.not_true, Bool.not_false, Bool.false_eq_true, if_false, if_true, in_names false (D := strsD S) ⟨.inr rfl, hSs.1⟩ hz]
    exact hC
  have e1 : (fam.filter fun S => decide (z ∈ S)).map (fun S => strsD (restF S z)) = (bareZ fam z).map strsD := by
    unfold bareZ
    rw [List.map_map]
    rfl
  rw [List.nil_append, e1]
  simp only [s_callL, s_call, s_cons, s_consM, s_nil, s_c, s_var, s_bin, s_un, s_lst, s_tup, s_cb, s_B, s_tru, s_not, s_repr, List.getElem?_cons_succ, List.getElem?_cons_zero, List.set_cons_succ, List.set_cons_zero, st_d, st_f, st_c, val_d, val_f, dats_d, dats_nil, vals_cons, vals_nil, lend_c, args_d, DL.args_nil, Opt_some, out_v, out_n, out_t, lab_d, lab_f, sto_f, sto_d, List.length_cons, List.length_nil, lenD_list, lenD_tuple, listC_list, listC_tuple, tupC_list, tupC_tuple, istt, istf, Bool.not_true, Bool.not_false, Bool.false_eq_true, if_false, if_true]
  rw [s_ret]
  simp only [s_callL, s_call, s_cons, s_consM, s_nil, s_c, s_var, s_bin, s_un, s_lst, s_tup, s_cb, s_B, s_tru, s_not, s_repr, List.getElem?_cons_succ, List.getElem?_cons_zero, List.set_cons_succ, List.set_cons_zero, st_d, st_f, st_c, val_d, val_f, dats_d, dats_nil, vals_cons, vals_nil, lend_c, args_d, DL.args_nil, Opt_some, out_v, out_n, out_t, lab_d, lab_f, sto_f, sto_d, List.length_cons, List.length_nil, lenD_list, lenD_tuple, listC_list, listC_tuple, tupC_list, tupC_tuple, istt, istf, Bool.not_true, Bool.not_false, Bool.false_eq_true, if_false, if_true, s_lc, s_sq, wipeR_cons, wipeR_nil]
  refine lc_map strsD keyLen (by trivial) (bareZ fam z) [] (by rw [List.length_nil]; omega) (fun s hsm C hC => ?_) ?_
  · rw [s_name]
    simp only [s_callL, s_call, s_cons, s_consM, s_nil, s_c, s_var, s_bin, s_un, s_lst, s_tup, s_cb, s_B, s_tru, s_not, s_repr, List.getElem?_cons_succ, List.getElem?_cons_zero, List.set_cons_succ, List.set_cons_zero, st_d, st_f, st_c, val_d, val_f, dats_d, dats_nil, vals_cons, vals_nil, lend_c, args_d, DL.args_nil, Opt_some, out_v, out_n, out_t, lab_d, lab_f, sto_f, sto_d, List.length_cons, List.length_nil, lenD_list, lenD_tuple, listC_list, listC_tuple, tupC_list, tupC_tuple, istt, istf, Bool.not_true, Bool.not_false, Bool.false_eq_true, if_false, if_true, lenD_strs]
    refine ⟨by omega, ?_⟩
    exact hC
  simp only [s_callL, s_call, s_cons, s_consM, s_nil, s_c, s_var, s_bin, s_un, s_lst, s_tup, s_cb, s_B, s_tru, s_not, s_repr, List.getElem?_cons_succ, List.getElem?_cons_zero, List.set_cons_succ, List.set_cons_zero, st_d, st_f, st_c, val_d, val_f, dats_d, dats_nil, vals_cons, vals_nil, lend_c, args_d, DL.args_nil, Opt_some, out_v, out_n, out_t, lab_d, lab_f, sto_f, sto_d, List.length_cons, List.length_nil, lenD_list, lenD_tuple, listC_list, listC_tuple, tupC_list, tupC_tuple, istt, istf, Bool.not_true, Bool.not_false, Bool.false_eq_true, if_false, if_true, List.nil_append, sortC_list (keys_ok (sss := bareZ fam z) (by omega)), sort_keys]
  have p := List.mergeSort_perm (bareZ fam z) leLen
  refine lc_map keyLen strsD (by trivial) ((bareZ fam z).mergeSort leLen) [] (by rw [List.length_mergeSort, List.length_nil]; omega) (fun s hsm C hC => ?_) ?_
  · have i1 : ixD (keyLen s) (.int 1) = some (.v (strsD s)) := ixD_tuple (atI_nat (j := 1) rfl)
    rw [s_name]
    simp only [s_callL, s_call, s_cons, s_consM, s_nil, s_c, s_var, s_bin, s_un, s_lst, s_tup, s_cb, s_B, s_tru, s_not, s_repr, List.getElem?_cons_succ, List.getElem?_cons_zero, List.set_cons_succ, List.set_cons_zero, st_d, st_f, st_c, val_d, val_f, dats_d, dats_nil, vals_cons, vals_nil, lend_c, args_d, DL.args_nil, Opt_some, out_v, out_n, out_t, lab_d, lab_f, sto_f, sto_d, List.length_cons, List.length_nil, lenD_list, lenD_tuple, listC_list, listC_tuple, tupC_list, tupC_tuple, istt, istf, Bool.not_true, Bool.not_false, Bool.false_eq_true, if_false, if_true, i1]
    exact hC
  rw [List.nil_append]
  simp only [s_callL, s_call, s_cons, s_consM, s_nil, s_c, s_var, s_bin, s_un, s_lst, s_tup, s_cb, s_B, s_tru, s_not, s_repr, List.getElem?_cons_succ, List.getElem?_cons_zero, List.set_cons_succ, List.set_cons_zero, st_d, st_f, st_c, val_d, val_f, dats_d, dats_nil, vals_cons, vals_nil, lend_c, args_d, DL.args_nil, Opt_some, out_v, out_n, out_t, lab_d, lab_f, sto_f, sto_d, List.length_cons, List.length_nil, lenD_list, lenD_tuple, listC_list, listC_tuple, tupC_list, tupC_tuple, istt, istf, Bool.not_true, Bool.not_false, Bool.false_eq_true, if_false, if_true]
  refine ⟨_, rfl, fun s hs => bS s (p.mem_iff.mp hs), by rw [List.length_mergeSort]; exact bl, ?_⟩
  have hib : ∀ s ∈ bareZ fam z, Inc s := fun s hs => by
    obtain ⟨S, h1, rfl⟩ := List.mem_map.mp hs
    exact (hi S (List.mem_filter.mp h1).1).sublist (rest_sub _ _)
  have ndb : (bareZ fam z).Nodup := rest_nodup hi nd
  rw [tops_ones hib ndb]
  simp only [s_callL, s_call, s_cons, s_consM, s_nil, s_c, s_var, s_bin, s_un, s_lst, s_tup, s_cb, s_B, s_tru, s_not, s_repr, List.getElem?_cons_succ, List.getElem?_cons_zero, List.set_cons_succ, List.set_cons_zero, st_d, st_f, st_c, val_d, val_f, dats_d, dats_nil, vals_cons, vals_nil, lend_c, args_d, DL.args_nil, Opt_some, out_v, out_n, out_t, lab_d, lab_f, sto_f, sto_d, List.length_cons, List.length_nil, lenD_list, lenD_tuple, listC_list, listC_tuple, tupC_list, tupC_tuple, istt, istf, Bool.not_true, Bool.not_false, Bool.false_eq_true, if_false, if_true, outR_f]
  exact k
end SH
namespace DL
open PySem PySem.Spec PyProof.Rows L2
def mergeT (kvs more : List (List Key × V)) : List (List Key × V) := more.foldl (fun acc kv => putK acc kv.1 kv.2) kvs
section
variable {prog : Program} {w : World} {A : Around} {E : Value → Shared → Prop}
/-- a tuple that is a key -/
def TupK (prog : Program) (w : World) (h : Heap) (q : List Key) (b : Addr) : Prop := ∃ its, IsTup h b its ∧ ItemsAre (mixKind prog w) q its.toList
theorem TupK.is {h : Heap} {q : List Key} {b : Addr} (x : TupK prog w h q b) : (tupleKind (mixKind prog w)).is h q b := by
  obtain ⟨its, ⟨o, ho, hc, n, hd⟩, hi⟩ := x
  exact ⟨o, its, n, ho, hc, hd, hi⟩
theorem TupK.ext {h h' : Heap} {q : List Key} {b : Addr} (x : TupK prog w h q b) (k : ∀ o, h.get? b = some o → h'.get? b = some o) : TupK prog w h' q b := by
  obtain ⟨its, ⟨o, ho, hc, n, hd⟩, hi⟩ := x
  exact ⟨its, ⟨o, k _ ho, hc, n, hd⟩, hi⟩
end
section
variable {X : Cx}
end
end DL
namespace DL
open PySem PySem.Spec PyProof.Rows L2
abbrev GEnt := List Str × PyData
def lookG (es : List GEnt) (s : List Str) : Option PyData := (es.find? fun e => decide (e.1 = s)).map (·.2)
def putG (es : List GEnt) (s : List Str) (d : PyData) : List GEnt := if (es.any fun e => decide (e.1 = s)) = true then es.map (fun e => if e.1 = s then (e.1, d) else e) else es ++ [(s, d)]
def mergeG (es more : List GEnt) : List GEnt := more.foldl (fun acc e => putG acc e.1 e.2) es
theorem inr_inj {a b : List Str} : (a.map (Sum.inr : Str → Key) = b.map Sum.inr) ↔ a = b := by
  refine ⟨fun h => ?_, fun h => by rw [h]⟩
  induction a generalizing b with
  | nil => cases b with
    | nil => rfl
    | cons y b => simp at h
  | cons x a ih => cases b with
    | nil => simp at h
    | cons y b =>
      simp only [List.map_cons, List.cons.injEq, Sum.inr.injEq] at h
      rw [h.1, ih h.2]
abbrev RelG (K : PySem.W.Frag) (G : Hp) (kvs : List (List Key × V)) (es : List GEnt) : Prop := Paired (fun (kv : List Key × V) (e : GEnt) => kv.1 = e.1.map Sum.inr ∧ Rp K G kv.2 e.2) kvs es
section
variable {K : PySem.W.Frag} {G : Hp}
theorem RelG.any {kvs : List (List Key × V)} {es : List GEnt} (h : RelG K G kvs es) (s : List Str) : (kvs.any fun kv => decide (kv.1 = s.map Sum.inr)) = es.any fun e => decide (e.1 = s) := by
  unfold RelG at h
  induction h with
  | nil => rfl
  | @cons kv e kvs es q _ ih =>
    rw [List.any_cons, List.any_cons, ih, q.1]
    congr 1
    exact decide_eq_decide.mpr inr_inj
theorem RelG.put {kvs : List (List Key × V)} {es : List GEnt} (h : RelG K G kvs es) {s : List Str} {v : V} {d : PyData} (hv : Rp K G v d) : RelG K G (putK kvs (s.map Sum.inr) v) (putG es s d) := by
  unfold putK putG
  rw [h.any s]
  by_cases cc : (es.any fun e => decide (e.1 = s)) = true
  · rw [if_pos cc, if_pos cc]
    clear cc
    unfold RelG at h ⊢
    induction h with
    | nil => exact .nil
    | @cons kv e kvs es q _ ih =>
      rw [List.map_cons, List.map_cons]
      refine .cons ?_ ih
      by_cases c : e.1 = s
      · rw [if_pos c, if_pos (by rw [q.1, c])]
        exact ⟨q.1, hv⟩
      · rw [if_neg c, if_neg (fun z => c (inr_inj.mp (q.1.symm.trans z)))]
        exact q
  · rw [if_neg cc, if_neg cc]
    clear cc
    unfold RelG at h ⊢
    induction h with
    | nil => exact .cons ⟨rfl, hv⟩ .nil
    | cons q _ ih => exact .cons q ih
theorem RelG.merge {more : List (List Key × V)} {ms : List GEnt} (h : RelG K G more ms) : ∀ {kvs : List (List Key × V)} {es : List GEnt}, RelG K G kvs es → RelG K G (mergeT kvs more) (mergeG es ms) := by
  unfold RelG at h
  induction h with
  | nil => exact fun h => h
  | @cons kv e _ _ q _ ih =>
    intro kvs es hk
    show RelG K G (mergeT (putK kvs kv.1 kv.2) _) (mergeG (putG es e.1 e.2) _)
    refine ih ?_
    rw [q.1]
    exact hk.put q.2
theorem RelG.look {kvs : List (List Key × V)} {es : List GEnt} (h : RelG K G kvs es) (s : List Str) : (∀ d, lookG es s = some d → ∃ v, valV kvs (s.map Sum.inr) = some v ∧ Rp K G v d) ∧ (lookG es s = none → valV kvs (s.map Sum.inr) = none) := by
  unfold RelG at h
  induction h with
  | nil => exact ⟨fun d e => by simp [lookG] at e, fun _ => rfl⟩
  | @cons kv e kvs es q _ ih =>
    by_cases c : e.1 = s
    · have e0 : lookG (e :: es) s = some e.2 := by simp [lookG, List.find?_cons, c]
      rw [e0]
      exact ⟨fun d z => by cases z; exact ⟨kv.2, valV_pos (by rw [q.1, c]), q.2⟩, fun z => nomatch z⟩
    · have e0 : lookG (e :: es) s = lookG es s := by simp [lookG, List.find?_cons, c]
      rw [e0, valV_neg (fun z => c (inr_inj.mp (q.1.symm.trans z)))]
      exact ih
end
section
variable {K : PySem.W.Frag} {G H G0 H0 : Hp} {As As0 : List Addr} {κ : Kap}
theorem strs_keys {vs : List V} {s : List Str} (h : RpA K G vs (s.map .str)) : vs = (s.map (Sum.inr : Str → Key)).map kV := by
  induction s generalizing vs with
  | nil => cases h; rfl
  | cons z s ih => cases h with
    | cons h1 h2 =>
      cases h1
      rw [List.map_cons, List.map_cons, ih h2]
      rfl
theorem tup_key {v : V} {s : List Str} (h : Rp K G v (strsD s)) : ∃ b, v = .ref b ∧ G b = some (.tup ((s.map (Sum.inr : Str → Key)).map kV)) := by
  have h : Rp K G v (.tuple (s.map .str)) := h
  cases h with
  | tup h1 h2 =>
    rw [strs_keys h2] at h1
    exact ⟨_, rfl, h1⟩
end
section
variable {X : Cx} {e o i y : Expr} {we wo wi wy : DTE} {p pos apos cpos : Pos}
theorem upd2 {H : Hp} {p : Addr} {a b : HO} : upd (upd H p a) p b = upd H p b := by
  funext x
  by_cases q : x = p
  · subst q; rw [upd_same, upd_same]
  · rw [upd_ne q, upd_ne q, upd_ne q]
theorem getT {H : Hp} {a b : Addr} {o : Obj} {kvs : List (List Key × V)} {k : List Key} (h : H a = some (.frz o (.dT kvs))) (hb : H b = some (.tup (k.map kV))) : DGet H a (.ref b) (valV kvs k) := .inr ⟨kvs, k, b, .inr ⟨o, h⟩, rfl, hb, rfl⟩
theorem key_at {K : PySem.W.Frag} {G H : Hp} {v : V} {s : List Str} {κ : Kap} {As : List Addr} (c : Cells K G H As κ) (h : Vw K G H v (strsD s)) : ∃ b, v = .ref b ∧ H b = some (.tup ((s.map (Sum.inr : Str → Key)).map kV)) := by
  have h : Rp K G v (strsD s) := h
  obtain ⟨b, e, hb⟩ := tup_key h
  exact ⟨b, e, c.ext _ _ hb⟩
end
end DL
namespace SH
open PySem PySem.Spec PyProof.Rows L2 DL
end SH
namespace SH
open PySem PySem.Spec PyProof.Rows L2 DL
/-- one row between the other, each in its order -/
inductive Shuf : Row → Row → Row → Prop
  | nil : Shuf [] [] []
  | left {x : Hook} {r q w : Row} : Shuf r q w → Shuf (x :: r) q (x :: w)
  | right {x : Hook} {r q w : Row} : Shuf r q w → Shuf r (x :: q) (x :: w)
theorem Shuf.len {r q w : Row} (h : Shuf r q w) : w.length = r.length + q.length := by
  induction h with
  | nil => rfl
  | left _ ih => simp only [List.length_cons]; omega
  | right _ ih => simp only [List.length_cons]; omega
theorem pile_past {a : Hook} {y : Row} (h : ∀ b ∈ y, hits a b = false) : pile ([a] ++ y) = pile (y ++ [a]) := by
  rw [pile_app, pile_app]
  exact (acts_free h fun _ => []).symm
theorem Shuf.pile {r q w : Row} (h : Shuf r q w) : (∀ a ∈ r, ∀ b ∈ q, hits a b = false) → pile w = SH.pile (r ++ q) := by
  induction h with
  | nil => intro _; rfl
  | @left x r q w _ ih =>
    intro hh
    exact pile_app2 (x := [x]) (ih fun a ha => hh a (List.mem_cons_of_mem _ ha))
  | @right x r q w _ ih =>
    intro hh
    have e1 : SH.pile ([x] ++ w) = SH.pile ([x] ++ (r ++ q)) := pile_app2 (ih fun a ha b hb => hh a ha b (List.mem_cons_of_mem _ hb))
    have e2 : SH.pile ([x] ++ r ++ q) = SH.pile (r ++ [x] ++ q) := pile_app1 (pile_past fun b hb => by rw [hits_symm]; exact hh b hb x (List.mem_cons_self ..))
    rw [List.append_assoc, List.append_assoc] at e2
    exact e1.trans e2
section
variable {ns near far : List Str} {r q w : Row}
end
end SH
namespace SH
open PySem PySem.Spec PyProof.Rows L2 DL
end SH
namespace SH
open PySem PySem.Spec PyProof.Rows L2 DL
end SH
namespace SH
open PySem PySem.Spec PyProof.Rows L2 DL
end SH
namespace DL
open PySem PySem.Spec PyProof.Rows L2
section
variable {K : PySem.W.Frag} {G H : Hp} {As : List Addr} {κ : Kap}
end
/-- i in o, i not in o -/
def wInG (neg : Bool) (wi wo : DTE) : DTE := fun ρ κ P => wi ρ κ fun ri κ1 => wo ρ κ1 fun ro κ2 => match ro with
  | .g es => Opt (val κ2 ri.st) fun x => ∃ s, x = strsD s ∧ P (.d (.bool (if neg then !(lookG es s).isSome else (lookG es s).isSome))) κ2
  | .c kk => Opt (val κ2 ri.st) fun x => match κ2[kk]? with
    | some (.m es) => Opt (keyD x) fun k => P (.d (.bool (if neg then !(lookM es k).isSome else (lookM es k).isSome))) κ2
    | _ => False
  | _ => False
section
variable {X : Cx} {tg e o i : Expr} {we wo wi : DTE} {pos : Pos}
theorem inG_reads (neg : Bool) {ti to : TE} (hi : ∀ (G H : Hp) (As : List Addr) (σ : L2.St) (ρ : Rho) (κ : Kap) (P : R → Kap → Prop) (Q : VK), Cells X.K G H As κ → Places X.K G As σ ρ → wi ρ κ P → (∀ v r G' H' As' κ', Step G H As G' H' As' → Cells X.K G' H' As' κ' → Places X.K G' As' σ ρ → Rv X.K H G' H' As' v r → P r κ' → Q v H') → ti σ H Q)
    (ho : ∀ (G H : Hp) (As : List Addr) (σ : L2.St) (ρ : Rho) (κ : Kap) (P : R → Kap → Prop) (Q : VK), Cells X.K G H As κ → Places X.K G As σ ρ → wo ρ κ P → (∀ v r G' H' As' κ', Step G H As G' H' As' → Cells X.K G' H' As' κ' → Places X.K G' As' σ ρ → Rv X.K H G' H' As' v r → P r κ' → Q v H') → to σ H Q)
    (G H : Hp) (As : List Addr) (σ : L2.St) (ρ : Rho) (κ : Kap) (P : R → Kap → Prop) (Q : VK) (c : Cells X.K G H As κ) (p : Places X.K G As σ ρ) (w : wInG neg wi wo ρ κ P)
    (k : ∀ v r G' H' As' κ', Step G H As G' H' As' → Cells X.K G' H' As' κ' → Places X.K G' As' σ ρ → Rv X.K H G' H' As' v r → P r κ' → Q v H') :
    ti σ H fun y H1 => to σ H1 fun x H2 => ∃ a o, x = .ref a ∧ DGet H2 a y o ∧ Q (.bl (if neg then !o.isSome else o.isSome)) H2 := by
  refine hi G H As σ ρ κ _ _ c p w fun v1 r1 G1 H1 As1 κ1 s1 c1 p1 i1 w1 => ?_
  obtain ⟨G1', s1', c1', p1', i1', _⟩ := settle s1 c1 p1 i1
  refine ho G1' H1 As1 σ ρ κ1 _ _ c1' p1' w1 fun v2 r2 G2 H2 As2 κ2 s2 c2 p2 i2 w2 => ?_
  have j1 : It X.K G2 As2 v1 r1.st := i1'.mono s2.ex s2.pre
  cases r2 with
  | g es =>
    obtain ⟨a, oo, kvs, rfl, ha, rel⟩ := i2
    have rel : RelG X.K G2 kvs es := rel
    obtain ⟨x, ex, s, rfl, w3⟩ := w2.ex
    obtain ⟨b, rfl, hb⟩ := key_at c2 (j1.vw c2 ex)
    have eq : (valV kvs (s.map Sum.inr)).isSome = (lookG es s).isSome := by
      cases lk : lookG es s with
      | some d =>
        obtain ⟨v', z1, _⟩ := (rel.look s).1 d lk
        rw [z1]; rfl
      | none => rw [(rel.look s).2 lk]; rfl
    refine ⟨a, _, rfl, getT (c2.ext _ _ ha) hb, ?_⟩
    rw [eq]
    exact k _ (.d (.bool _)) G2 H2 As2 κ2 (s1'.trans s2) c2 p2 (Rp.bl _) w3
  | c kk =>
    obtain ⟨a, ha, rfl⟩ := i2
    obtain ⟨x, ex, w3⟩ := w2.ex
    split at w3
    · rename_i es hk
      obtain ⟨q, eq, w4⟩ := w3.ex
      have vv : Vw X.K G2 H2 v1 x := j1.vw c2 ex
      obtain ⟨g0, kvs, hq, mp⟩ := c2.ok kk _ a hk ha
      have ek : v1 = kV q := by
        cases x with
        | int i => exact key_rel eq (show Rp X.K G2 v1 (.int i) from vv)
        | str z => exact key_rel eq (show Rp X.K G2 v1 (.str z) from vv)
        | _ => cases eq
      have eqs : (valV kvs q).isSome = (lookM es q).isSome := by
        cases lk : lookM es q with
        | some d =>
          obtain ⟨v', z1, _⟩ := mp.look lk
          rw [z1]; rfl
        | none => rw [mp.lookN lk]; rfl
      refine ⟨a, _, rfl, by rw [ek]; exact DGet.k hq, ?_⟩
      rw [eqs]
      exact k _ (.d (.bool _)) G2 H2 As2 κ2 (s1'.trans s2) c2 p2 (Rp.bl _) w4
    · exact w3.elim
  | _ => exact w2.elim
theorem dt_notInG (hu : X.A.units + 65 < cLine) (hi : DE X i wi) (ho : DE X o wo) (hm : behindInMarks .NotIn o = false := by rfl) : DT X (.Compare i [.NotIn] [o] pos) (wB (wInG true wi wo)) := by
  obtain ⟨ti, pi, hi⟩ := hi
  obtain ⟨to, po, ho⟩ := ho
  refine ⟨_, pt_cmp (pc_dnotin (by omega) pi po) hm, fun G H As σ ρ κ P Q c p w k => ?_⟩
  refine inG_reads true hi ho G H As σ ρ κ _ (fun v H1 => ∃ z, v = V.bl z ∧ Q z H1) c p w fun v r G1 H1 As1 κ1 s1 c1 p1 i1 w1 => ?_
  cases r with
  | d x =>
    cases x with
    | bool z =>
      have i1 : Rp X.K G1 v (.bool z) := i1
      cases i1
      exact ⟨z, rfl, k z G1 H1 As1 κ1 s1 c1 p1 w1⟩
    | _ => exact w1.elim
  | _ => exact w1.elim
end
theorem s_inG {neg : Bool} {wi wo : DTE} {ρ : Rho} {κ : Kap} {P : R → Kap → Prop} : wInG neg wi wo ρ κ P = wi ρ κ fun ri κ1 => wo ρ κ1 fun ro κ2 => match ro with
  | .g es => Opt (val κ2 ri.st) fun x => ∃ s, x = strsD s ∧ P (.d (.bool (if neg then !(lookG es s).isSome else (lookG es s).isSome))) κ2
  | .c kk => Opt (val κ2 ri.st) fun x => match κ2[kk]? with
    | some (.m es) => Opt (keyD x) fun k => P (.d (.bool (if neg then !(lookM es k).isSome else (lookM es k).isSome))) κ2
    | _ => False
  | _ => False := rfl
section
variable {X : Cx} {a b c : Expr} {wr : DTA} {pos : Pos}
end
end DL
namespace DL
open PySem PySem.Spec PyProof.Rows L2
def mergeM (es ms : List (Key × R)) : List (Key × R) := ms.foldl (fun acc e => putM acc e.1 e.2) es
theorem Mp.merge {K : PySem.W.Frag} {G : Hp} {As : List Addr} : ∀ {more : List (Key × V)} {ms : List (Key × R)} {kvs : List (Key × V)} {es : List (Key × R)}, Mp K G As more ms → Mp K G As kvs es → Mp K G As (mergeK kvs more) (mergeM es ms) := by
  intro more ms kvs es h
  unfold Mp at h
  induction h generalizing kvs es with
  | nil => exact fun h => h
  | @cons kv e _ _ q _ ih =>
    intro hk
    show Mp K G As (mergeK (putK kvs kv.1 kv.2) _) (mergeM (putM es e.1 e.2) _)
    refine ih ?_
    rw [← q.1]
    exact hk.put q.2
section
variable {X : Cx} {o e : Expr} {wo we : DTE} {apos cpos : Pos}
end
end DL
namespace DL
open PySem PySem.Spec PyProof.Rows L2
open PySem.SeqAt (EqP)
open PySem.Calls PyProof.V
section
variable {prog : Program} {w : World} {K : Type} [DecidableEq K] {knd : HeapKind prog w K} {A : Around} {E : Value → Shared → Prop} {s : Shared}
end
section
variable {X : Cx} {pins : List (Addr × Obj)} {σ : L2.St} {H : Hp} {s : Shared}
end
section
variable {X : Cx} {a b : Expr} {wa wb : DTE} {pos : Pos}
end
end DL
namespace DL
open PySem PySem.Spec PyProof.Rows L2
section
variable {X : Cx} {o e : Expr} {wo we : DTE} {apos cpos pos : Pos}
def upperD : PyData → Option Out
  | .str a => if a.length ≤ 5592405 then some (.v (.str (Txt.upper a))) else none
  | _ => none
def wUpper (wo : DTE) : DTE := fun ρ κ P => wo ρ κ fun r κ1 => Opt (val κ1 r.st) fun x => Opt (upperD x) fun o => P o.r κ1
theorem s_upper {wo : DTE} {ρ : Rho} {κ : Kap} {P : R → Kap → Prop} : wUpper wo ρ κ P = wo ρ κ fun r κ1 => Opt (val κ1 r.st) fun x => Opt (upperD x) fun o => P o.r κ1 := rfl
theorem de_upper (ho : DE X o wo) (hbase : attributeBase o "upper" X.env (eval o X.env) = eval o X.env := by rfl) (hline : (apos.endLine == cpos.line) = true := by rfl) : DE X (.Call (.Attribute o "upper" apos) [] [] cpos) (wUpper wo) := by
  obtain ⟨to, po, ho⟩ := ho
  refine ⟨_, pe_upper po hbase hline, fun G H As σ ρ κ P Q c p w k => ?_⟩
  refine ho G H As σ ρ κ _ _ c p w fun v1 r1 G1 H1 As1 κ1 s1 c1 p1 i1 w1 => ?_
  obtain ⟨G1', s1', c1', p1', i1', _⟩ := settle s1 c1 p1 i1
  obtain ⟨x, ex, w2⟩ := w1.ex
  obtain ⟨oo, eo, w3⟩ := w2.ex
  have hv := i1'.vw c1' ex
  unfold upperD at eo
  split at eo
  · split at eo
    · cases eo
      rw [vw_str hv]
      refine ⟨⟨_, rfl⟩, _, rfl, rfl, by assumption, ?_⟩
      exact out_ok (P := P) s1' c1' p1' _ w3 k _ (.str _)
    · cases eo
  · cases eo
end
end DL
namespace DL
open PySem PySem.Spec PyProof.Rows L2
section
variable {X : Cx} {es : List Expr} {wr : DTA} {pos : Pos}
end
end DL
namespace DL
open PySem PySem.Spec PyProof.Rows L2
section
variable {prog : Program} {w : World} {A : Around} {E : Value → Shared → Prop} {s : Shared}
theorem bounds_past {a c n : Nat} (ha : a ≤ n) : sliceBounds (some (a : Int)) (some (c : Int)) none n = ((a : Int), ((min c n : Nat) : Int), 1) := by
  have q1 : ¬ ((a : Int) < 0) := by omega
  have q2 : ¬ ((c : Int) < 0) := by omega
  simp only [sliceBounds, Option.getD_none, q1, q2, if_false, show (1 : Int) > 0 by decide, if_true]
  refine Prod.ext ?_ (Prod.ext ?_ rfl)
  · show max 0 (min (a : Int) (n : Int)) = (a : Int); omega
  · show max 0 (min (c : Int) (n : Int)) = ((min c n : Nat) : Int); omega
theorem put_slice {l b sl : Addr} {ys zs : Array Value} {n m : Nat} {vl vu : Value} {a c : Nat} {Q : Unit → Shared → Prop}
    (eL : s.heap.get? l = some { cls := .type "list", data := .seq ys n }) (eB : s.heap.get? b = some { cls := .type "list", data := .seq zs m }) (ne : l ≠ b)
    (iS : s.heap.IsSliceOf sl vl vu .none) (p1 : IsPart vl (some (a : Int))) (p2 : IsPart vu (some (c : Int))) (hac : a ≤ min c ys.size)
    (hsz : ys.size + zs.size ≤ sizeLine) (k : Q () { s with heap := s.heap.update l (Obj.mapSeq fun xs => xs.extract 0 a ++ zs ++ xs.extract (min c ys.size) xs.size) }) :
    wpAny (model prog w) A (setItem (.ref l) (.ref sl) (.ref b)) Q E s := by
  have iL : s.heap.IsList l ys := PySem.IsL.isList eL
  have iB : s.heap.IsList b zs := PySem.IsL.isList eB
  obtain ⟨o, ho, hc, hd⟩ := id iS
  have tS : s.TypeIs (.ref sl) "slice" := ⟨o, ho, hc⟩
  have dif : Builtin.List.listSameRef (.ref l) (.ref b) = false := by
    unfold Builtin.List.listSameRef
    exact beq_eq_false_iff_ne.mpr ne
  have top : (max (a : Int) ((min c ys.size : Nat) : Int)).toNat = min c ys.size := by omega
  have room : ((fun xs : Array Value => xs.extract 0 a ++ zs ++ xs.extract (min c ys.size) xs.size) ys).size ≤ sizeLine + 1 := by
    simp only [Array.size_append, Array.size_extract]; omega
  unfold setItem
  try with_reducible refine wpAny_holding ?_
  first | refine wpAny_bind (wpAny_pure ?_) | skip
  refine wpAny_bind (wpAny_sequenceKey iL.typeIs (by decide) ?_)
  refine wpAny_bind (wpAny_callSpecial?_slot (name := Str.ofString "__setitem__") iL.typeIs slot_list_setitem (wpAny_call_entry slot_list_setitem iL.typeIs entry_list_setitem ?_ (args_list_setitem _ _ _)))
  show wpAny _ _ (Builtin.List.listSubscript? (.ref sl) >>= _) _ _ s
  refine wpAny_bind ?_
  unfold Builtin.List.listSubscript?
  refine wpAny_bind (wpAny_specialOf tS slice_no_index ?_)
  simp only [Option.isNone_none, if_true]
  refine wpAny_pure ?_
  show wpAny _ _ (typeOf (.ref sl) >>= _) _ _ s
  refine wpAny_bind (wpAny_typeOf tS ?_)
  first | rw [if_neg (by decide)] | refine PySem.W.KFB.if_not (by decide) ?_
  rw [listSliceParts_eq]
  refine wpAny_bind (wpAny_bind (wpAny_field ho hd (x := .none) rfl (wpAny_bind (wpAny_listPart .none ?_))))
  rw [if_neg (show ¬ ((rawPart none == rawInt 0) = true) from Bool.false_ne_true)]
  refine wpAny_bind (wpAny_field ho hd (x := vl) rfl (wpAny_bind (wpAny_listPart p1 ?_)))
  refine wpAny_bind (wpAny_field ho hd (x := vu) rfl (wpAny_bind (wpAny_listPart p2 (wpAny_pure ?_))))
  first | simp only [dif, Bool.false_eq_true, if_false] | refine PySem.W.KFB.if_not dif ?_ | (dsimp only; rw [if_neg (by rw [dif]; exact Bool.false_ne_true)])
  refine wpAny_bind (m := Builtin.List.listAllItems (.ref b) "must assign iterable to extended slice") ?_
  unfold Builtin.List.listAllItems
  refine wpAny_bind (wpAny_typeOf iB.typeIs ?_)
  first | refine PySem.W.KFB.if_so (by decide) ?_ | rw [if_pos (by decide)] | simp only [beq_self_eq_true, Bool.true_or, if_true]
  unfold Builtin.List.listItems
  refine wpAny_bind (wpAny_seqItems eB rfl (wpAny_pure ?_))
  refine wpAny_bind (wpAny_bind (wpAny_seqItems eL rfl (wpAny_pure ?_)))
  refine wpAny_bind (wpAny_of_eq ((sliceIndices_raw (some (a : Int)) (some (c : Int)) none ys.size (by simp)).trans (congrArg (pure : Int × Int × Int → Sem (Int × Int × Int)) (bounds_past (by omega)))) ?_)
  show wpAny _ _ (if ((1 : Int) == 1) = true then _ else _) _ _ s
  rw [if_pos (by decide)]
  refine wpAny_bind (wpAny_rule ?_)
  first | simp only [notLongL hsz, Bool.false_eq_true, if_false] | refine PySem.W.KFB.if_not (notLongL hsz) ?_
  first | refine wpAny_bind (wpAny_pure ?_) | skip
  show wpAny _ _ (updateSeq l (fun xs => xs.extract 0 ((a : Int)).toNat ++ zs ++ xs.extract (max (a : Int) ((min c ys.size : Nat) : Int)).toNat xs.size) >>= _) _ _ s
  rw [top, Int.toNat_natCast]
  refine wpAny_bind (wpAny_updateSeq (hz := Nat.le_trans (Nat.le_add_right _ _) hsz) (_hz' := room) eL rfl ?_)
  refine wpAny_bind (wpAny_letGo ?_)
  first | exact wpAny_bind (wpAny_pure (wpAny_pure ⟨.none, rfl, wpAny_pure k⟩)) | exact wpAny_pure ⟨.none, rfl, wpAny_pure k⟩
end
section
variable {X : Cx} {o e lo hi : Expr} {wo wl wh wa : DTE} {wl' wh' : DTO} {pos p2 : Pos}
theorem set_past {pins : List (Addr × Obj)} {s : Shared} {σ : L2.St} {H : Hp} {l b sl : Addr} {xs ys : List V} {a c : Nat} {vl vu : Value} {Q : Unit → Shared → Prop} (I : Inv X pins σ H s)
    (hH : H l = some (.lst xs)) (hB : H b = some (.lst ys)) (ne : l ≠ b) (hs : s.heap.IsSliceOf sl vl vu .none) (p1 : IsPart vl (some (a : Int))) (p2 : IsPart vu (some (c : Int))) (hac : a ≤ min c xs.length)
    (hz : xs.length + ys.length ≤ sizeLine) (h : ∀ s', Inv X pins σ (upd H l (.lst (xs.take a ++ ys ++ xs.drop (min c xs.length)))) s' → Q () s') :
    wpAny (model X.prog X.w) X.A (setItem (.ref l) (.ref sl) (.ref b)) Q X.xe s := by
  obtain ⟨z, its, n, r, hl, e⟩ := I.lstM hH
  obtain ⟨z2, its2, n2, r2, hl2, e2⟩ := I.lstM hB
  refine put_slice (a := a) (c := c) e e2 ne hs p1 p2 (by rw [List.size_toArray]; omega) (by rw [List.size_toArray, List.size_toArray]; omega) (h _ ?_)
  have hlen : its.toArray.size = xs.length := by rw [List.size_toArray]; omega
  rw [hlen]
  refine I.lset (its' := its.take a ++ its2 ++ its.drop (min c xs.length)) (t' := s.toks) hH e ?_ (Vals.append (Vals.append (r.take _) r2) (r.drop _)) ?_
  · exact splice_eq its its2 a (min c xs.length)
  · rw [List.length_append, List.length_append, List.length_take, List.length_drop]
    omega
/-- o[lo:hi] = v -/
def wSubSl (wo : DTE) (wl wh : DTO) : DTG := fun r ρ κ P => Opt (dat κ r) fun q => match q.1 with
  | .list ys => wo ρ q.2 fun ro κ1 => match ro with
    | .c k => wl ρ κ1 fun l κ2 => wh ρ κ2 fun h κ3 => match l, h, κ3[k]? with
      | some (.ofNat a), some (.ofNat c), some (.l xs) => a ≤ min c xs.length ∧ xs.length + ys.length ≤ 1000000 ∧ P ρ (κ3.set k (.l (xs.take a ++ ys ++ xs.drop (min c xs.length))))
      | _, _, _ => False
    | _ => False
  | _ => False
def gSl (to : TE) (tl th : TO) : TG := fun v σ H Q => to σ H fun x H1 => tl σ H1 fun l H2 => th σ H2 fun h H3 => ∃ (d b : Addr) (xs ys : List V) (a c : Nat), x = .ref d ∧ v = .ref b ∧ l = some (a : Int) ∧ h = some (c : Int) ∧ H3 d = some (.lst xs) ∧ H3 b = some (.lst ys) ∧ d ≠ b ∧ a ≤ min c xs.length ∧ xs.length + ys.length ≤ sizeLine ∧ Q σ (upd H3 d (.lst (xs.take a ++ ys ++ xs.drop (min c xs.length))))
theorem pg_sl {to : TE} {tl th : TO} (po : PE X o to) (pl : PO X (some lo) tl) (ph : PO X (some hi) th)
    (hx : ∀ v, assign (.Subscript o (.Slice (some lo) (some hi) none p2) pos) X.env v = (do
      let ov ← holding [v] (eval o X.env)
      let iv ← holding [v, ov] (eval (.Slice (some lo) (some hi) none p2) X.env)
      standAt pos
      holding [v, ov, iv] (setItem ov iv v)
      release [iv, v, ov] []) := by intro _; rfl) : PG X (.Subscript o (.Slice (some lo) (some hi) none p2) pos) (gSl to tl th) := by
  refine ⟨fun pins s σ H v u Q I r w => ?_⟩
  rw [hx]
  refine wpAny_bind (wpAny_holding (thn (po.run pins s σ H _ I w) fun ov s1 ⟨x, H1, I1, r1, q1⟩ => ?_))
  refine wpAny_bind (wpAny_holding (wpAny_Slice (thn (pl.run pins s1 σ H1 _ I1 q1) fun vl s2 ⟨l, H2, I2, pl', q2⟩ => thn (ph.run pins s2 σ H2 _ I2 q2) fun vu s3 ⟨h, H3, I3, ph', q3⟩ => ?_)))
  obtain ⟨d, b, xs, ys, a, c, rfl, rfl, rfl, rfl, hd, hb, ne, hac, hz, q⟩ := q3
  cases r1
  cases r
  rw [evalPart_none]
  refine wpAny_pure ?_
  have I4 : Inv X pins σ H3 { s3 with heap := s3.heap.push { cls := .type "slice", data := .fields #[vl, vu, .none] } } := I3.kept (t' := s3.toks) fun y ob e => Heap.get?_push_of_some _ e
  refine wpAny_bind (wpAny_standAt (wpAny_bind (wpAny_holding (set_past I4 hd hb ne (Heap.IsSliceOf.new ..) pl' ph' hac hz fun s' I' => ?_))))
  exact wpAny_release ⟨σ, _, I', q⟩
theorem dg_sl (ho : DE X o wo) (hl : DO X (some lo) wl') (hh : DO X (some hi) wh')
    (hx : ∀ v, assign (.Subscript o (.Slice (some lo) (some hi) none p2) pos) X.env v = (do
      let ov ← holding [v] (eval o X.env)
      let iv ← holding [v, ov] (eval (.Slice (some lo) (some hi) none p2) X.env)
      standAt pos
      holding [v, ov, iv] (setItem ov iv v)
      release [iv, v, ov] []) := by intro _; rfl) : DG X (.Subscript o (.Slice (some lo) (some hi) none p2) pos) [] (wSubSl wo wl' wh') := by
  obtain ⟨to, po, ho⟩ := ho
  obtain ⟨tl, pl, hl⟩ := hl
  obtain ⟨th, ph, hh⟩ := hh
  refine ⟨_, pg_sl po pl ph hx, fun G H As σ ρ κ v r P Q c p i0 w k => ?_⟩
  obtain ⟨⟨x, κ0⟩, e0, w⟩ := w.ex
  obtain ⟨G0, s0, c0, r0⟩ := dat_ok c i0 e0
  cases x with
  | list ys =>
    obtain ⟨b, vb, rfl, hb, rb⟩ : ∃ b vb, v = V.ref b ∧ G0 b = some (.lst vb) ∧ RpA X.K G0 vb ys := by
      cases r0 with
      | lst h1 h2 => exact ⟨_, _, rfl, h1, h2⟩
    refine ho G0 H As σ ρ κ0 _ _ c0 (p.step s0) w fun v1 r1 G1 H1 As1 κ1 s1 c1 p1 i1 w1 => ?_
    cases r1 with
    | c kk =>
      obtain ⟨d, hd, rfl⟩ := i1
      refine hl G1 H1 As1 σ ρ κ1 _ _ c1 p1 w1 fun l G2 H2 As2 κ2 s2 c2 p2 w2 => ?_
      refine hh G2 H2 As2 σ ρ κ2 _ _ c2 p2 w2 fun h G3 H3 As3 κ3 s3 c3 p3 w3 => ?_
      split at w3
      · rename_i l' h' c' a c xs hk
        obtain ⟨n1, n2, w4⟩ := w3
        have st := s2.trans s3
        obtain ⟨bs, eb⟩ := st.pre
        have hd3 : As3[kk]? = some d := by rw [eb, List.getElem?_append_left (List.getElem?_eq_some_iff.mp hd).1]; exact hd
        obtain ⟨g0, vs, hq, rp⟩ := c3.ok kk _ d hk hd3
        have sa := (s1.trans st)
        have gb : G3 b = some (.lst vb) := sa.ex _ _ hb
        have hB : H3 b = some (.lst vb) := c3.ext _ _ gb
        have ne : d ≠ b := fun e => by rw [e] at g0; rw [g0] at gb; cases gb
        have rb3 := RpA.mono sa.ex _ _ rb
        have hz := sizeLine_eq
        refine ⟨d, b, vs, vb, a, c, rfl, rfl, rfl, rfl, hq, hB, ne, by rw [rp.len]; exact n1, by rw [rp.len, rb.len]; omega, ?_⟩
        have sw : Step G3 H3 As3 G3 (upd H3 d (.lst (vs.take a ++ vb ++ vs.drop (min c vs.length)))) As3 := Step.write (List.mem_of_getElem? hd3) hq
        have rr : RpA X.K G3 (vs.take a ++ vb ++ vs.drop (min c vs.length)) (xs.take a ++ ys ++ xs.drop (min c xs.length)) := by
          rw [rp.len]
          exact ((RpA.take a rp).app rb3).app (RpA.drop _ rp)
        exact k σ ρ G3 _ As3 _ Wr.refl ((s0.trans sa).trans sw) (c3.write hk hd3 rr) (p.step ((s0.trans sa).trans sw)) w4
      · exact w3.elim
    | _ => exact w1.elim
  | _ => exact w.elim
end
/-- what can be told, a thing of any make -/
def TellOk : PyData → Prop
  | .list xs => TextOk (.list xs)
  | .tuple xs => TextOk (.tuple xs)
  | .str z => (reprText z).length ≤ sizeLine
  | .int i => i.natAbs.log2 < 1920
  | .bool _ => True
  | .none => True
  | _ => False
def tellS : PyData → Str
  | .str z => reprText z
  | .int i => (toString i : String)
  | .bool b => ((if b then "True" else "False" : String) : Str)
  | .none => ("None" : String)
  | x => x.shown
def rReprA (K : PySem.W.Frag) : List V → Hp → VK → Prop := fun vs H Q => ∃ (v : V) (d : PyData), vs = [v] ∧ Dp K H v d ∧ TellOk d ∧ Q (.str (tellS d)) H
theorem cr_reprA {X : Cx} (hg : X.A.guards = some []) (hu : X.A.units + 150 < cLine) : CallR X (.builtin "repr") (rReprA X.K) := by
  intro pins s σ H vs us Q I r h
  obtain ⟨v, d, rfl, hd, ok, q⟩ := h
  cases d with
  | list xs => exact cr_repr hg hu pins s σ H _ us Q I r ⟨v, _, rfl, hd, ok, q⟩
  | tuple xs => exact cr_repr hg hu pins s σ H _ us Q I r ⟨v, _, rfl, hd, ok, q⟩
  | str z =>
    obtain ⟨u, rfl, rx⟩ := vals1 r
    cases hd
    obtain ⟨t, rfl⟩ := rx
    exact PySem.P.repr_of_str ⟨.str _, H, I.tok _, ⟨_, rfl⟩, q⟩ ok
  | int i =>
    obtain ⟨u, rfl, rx⟩ := vals1 r
    cases hd
    obtain ⟨t, rfl⟩ := rx
    exact PySem.P.repr_of_int ok ⟨.str _, H, I.tok _, ⟨_, rfl⟩, q⟩
  | bool b =>
    obtain ⟨u, rfl, rx⟩ := vals1 r
    cases hd
    cases rx
    refine PySem.P.repr_of_bool ⟨.str _, H, I.tok _, ⟨_, rfl⟩, ?_⟩
    cases b <;> exact q
  | none =>
    obtain ⟨u, rfl, rx⟩ := vals1 r
    cases hd
    cases rx
    exact PySem.P.repr_of_none ⟨.str _, H, I.tok _, ⟨_, rfl⟩, q⟩
  | _ => exact ok.elim
def wReprA (we : DTE) : DTE := fun ρ κ P => we ρ κ fun r κ1 => Opt (val κ1 r.st) fun x => TellOk x ∧ P (.d (.str (tellS x))) κ1
theorem s_reprA {we : DTE} {ρ : Rho} {κ : Kap} {P : R → Kap → Prop} : wReprA we ρ κ P = we ρ κ fun r κ1 => Opt (val κ1 r.st) fun x => TellOk x ∧ P (.d (.str (tellS x))) κ1 := rfl
section
variable {X : Cx} {e : Expr} {we : DTE} {p pos : Pos}
theorem de_reprA (hgd : X.A.guards = some []) (hu : X.A.units + 150 < cLine) (hm : X.mg "repr" = none) (he : DE X e we) (hg : Gl X "repr" := by rfl) (h1 : starEach [e] X.env = (false, eval e X.env) :: starEach [] X.env := by rfl) (h4 : (backTo pos (starEach [] X.env)).any (·.1) = false := by rfl) :
    DE X (.Call (.Name "repr" p) [e] [] pos) (wReprA we) := by
  obtain ⟨t, pt, he⟩ := he
  refine ⟨_, pe_callB (cr_reprA hgd hu) hg hm (by decide +kernel) (pa_cons pt pa_nil h1) (by decide) (by decide) h1 h4, fun G H As σ ρ κ P Q c pl w k => ?_⟩
  refine he G H As σ ρ κ _ _ c pl w fun v r G1 H1 As1 κ1 s1 c1 p1 i1 w1 => ?_
  obtain ⟨G1', s1', c1', p1', i1', _⟩ := settle s1 c1 p1 i1
  obtain ⟨x, ex, ok, w2⟩ := w1.ex
  exact ⟨v, x, rfl, Vw.dp c1'.ext (i1'.vw c1' ex), ok, k _ (.d (.str (tellS x))) G1' H1 As1 κ1 s1' c1' p1' (.str _) w2⟩
end
section
variable {prog : Program} {w : World} {A : Around} {E : Value → Shared → Prop} {s : Shared}
theorem back_applied {sl : Addr} {vl vu vs : Value} {n : Nat} {Q : Int × Int × Nat → Shared → Prop} (iS : s.heap.IsSliceOf sl vl vu vs) (p1 : IsPart vl none) (p2 : IsPart vu none) (p3 : IsPart vs (some (-1))) (k : Q ((n : Int) - 1, -1, n) s) :
    wpAny (model prog w) A (Builtin.Slice.sliceApplied (.ref sl) (pure (n : Int))) Q E s := by
  obtain ⟨o, ho, hc, hd⟩ := id iS
  unfold Builtin.Slice.sliceApplied Builtin.Slice.sliceFields
  refine wpAny_bind (wpAny_bind (wpAny_field ho hd (x := vl) rfl (wpAny_bind (wpAny_field ho hd (x := vu) rfl (wpAny_bind (wpAny_field ho hd (x := vs) rfl (wpAny_pure ?_)))))))
  refine wpAny_bind (HT.slicePart_ p3 ?_)
  show wpAny _ _ (if ((-1 : Int) == 0) = true then _ else _) _ _ s
  rw [if_neg (by decide)]
  refine wpAny_bind (HT.slicePart_ p1 (wpAny_bind (HT.slicePart_ p2 (wpAny_bind (wpAny_pure ?_)))))
  have e1 : Builtin.Slice.sliceAdjust none none (-1) (n : Int) = ((n : Int) - 1, -1) := rfl
  have e2 : Builtin.Slice.slicePlaces ((n : Int) - 1) (-1) (-1) = n := by
    unfold Builtin.Slice.slicePlaces
    rw [if_neg (by decide)]
    split
    · have : ((n : Int) - 1 - (-1) - 1) / (-(-1)) + 1 = n := by
        rw [show (-(-1 : Int)) = 1 from rfl, Int.ediv_one]; omega
      omega
    · omega
  show wpAny _ _ (match Builtin.Slice.sliceAdjust none none (-1) (n : Int) with | (lo, hi) => pure (lo, (-1 : Int), Builtin.Slice.slicePlaces lo hi (-1))) _ _ s
  rw [e1]
  show wpAny _ _ (pure ((n : Int) - 1, (-1 : Int), Builtin.Slice.slicePlaces ((n : Int) - 1) (-1) (-1))) _ _ s
  rw [e2]
  exact wpAny_pure k
theorem fm_congr {α β : Type} {f g : α → Option β} : ∀ {l : List α}, (∀ x ∈ l, f x = g x) → l.filterMap f = l.filterMap g
  | [], _ => rfl
  | x :: l, h => by
    rw [List.filterMap_cons, List.filterMap_cons, h x (List.mem_cons_self ..), fm_congr fun y hy => h y (List.mem_cons_of_mem _ hy)]
theorem pick_back (xs : Array Value) : ((List.range xs.size).filterMap fun (m : Nat) => xs[(((xs.size : Int) - 1) + (m : Int) * (-1)).toNat]?).toArray = xs.toList.reverse.toArray := by
  have e : (List.range xs.size).filterMap (fun (m : Nat) => xs[(((xs.size : Int) - 1) + (m : Int) * (-1)).toNat]?) = ((List.range xs.size).map fun m => xs.size - 1 - m).filterMap (xs[·]?) := by
    rw [List.filterMap_map]
    refine fm_congr fun m hm => ?_
    have := List.mem_range.mp hm
    have : (((xs.size : Int) - 1) + (m : Int) * (-1)).toNat = xs.size - 1 - m := by omega
    simp only [Function.comp, this]
  rw [e, PySem.W.krv_range, List.filterMap_reverse, PySem.W.krv_all]
theorem getItem_tuple_back {t sl : Addr} {items : Array Value} {vl vu vs : Value} {Q : Value → Shared → Prop} (ht : IsTup s.heap t items) (iS : s.heap.IsSliceOf sl vl vu vs) (p1 : IsPart vl none) (p2 : IsPart vu none) (p3 : IsPart vs (some (-1)))
    (k : Q (.ref s.heap.objs.size) { s with heap := s.heap.push { cls := .type "tuple", data := .seq items.toList.reverse.toArray } })
    (hsz : items.size ≤ sizeLine) : wpAny (model prog w) A (getItem (.ref t) (.ref sl)) Q E s := by
  have hrev : sizeOk (.seq items.toList.reverse.toArray) := by
    show items.toList.reverse.toArray.size ≤ sizeLine
    rw [List.size_toArray, List.length_reverse, Array.length_toList]
    omega
  obtain ⟨o, ho, hc, hd⟩ := id iS
  have tS : s.TypeIs (.ref sl) "slice" := ⟨o, ho, hc⟩
  unfold getItem
  try with_reducible refine wpAny_holding ?_
  first | refine wpAny_bind (wpAny_pure ?_) | skip
  refine wpAny_bind (wpAny_sequenceKey ht.typeIs (by decide) ?_)
  refine wpAny_bind (wpAny_callSpecial?_slot (name := Str.ofString "__getitem__") ht.typeIs PyProof.Rows.slot_tuple_getitem (wpAny_call_entry PyProof.Rows.slot_tuple_getitem ht.typeIs entry_tuple_getitem ?_ (args_tuple_getitem _ _)))
  show wpAny _ _ (Builtin.Tuple.tupleItemsOf (.ref t) >>= _) _ _ s
  refine wpAny_bind (tupleItemsOf_ ht ?_)
  refine wpAny_bind (wpAny_typeOf tS ?_)
  rw [if_pos (by decide)]
  refine wpAny_bind (back_applied iS p1 p2 p3 ?_)
  have hno : ¬ ((((items.size : Int) - 1) == 0 && (-1 : Int) == 1 && items.size == items.size) = true) := by simp
  show wpAny _ _ (if (((items.size : Int) - 1) == 0 && (-1 : Int) == 1 && items.size == items.size) = true then _ else _) _ _ s
  rw [if_neg hno, pick_back]
  first
    | exact wpAny_bind (m := Builtin.Tuple.tupleExact _) (wpAny_newObj_type (wpAny_pure ⟨_, rfl, wpAny_pure k⟩) hrev)
    | exact wpAny_bind (m := Builtin.Tuple.tupleExact _) (wpAny_newObj_type (wpAny_bind (wpAny_pure (wpAny_pure ⟨_, rfl, wpAny_pure k⟩))) hrev)
    | exact wpAny_bind (wpAny_bind (m := Builtin.Tuple.tupleExact _) (wpAny_newObj_type (wpAny_pure (wpAny_pure ⟨_, rfl, wpAny_pure k⟩)) hrev))
    | exact wpAny_bind (wpAny_bind (m := Builtin.Tuple.tupleExact _) (wpAny_newObj_type (wpAny_pure ⟨_, rfl, wpAny_pure k⟩) hrev))
end
section
variable {X : Cx} {e : Expr} {te : TE} {wa : DTE} {k : Nat} {p1 p2 p3 pos : Pos}
end
def strIC : List PyData → Option Out
  | [.int i] => if i.natAbs.log2 < 1920 then some (.v (.str ((toString i : String) : Str))) else none
  | _ => none
theorem strIC_ok {K : PySem.W.Frag} : CallD K (fun xs H Q => ∃ i, xs = [.int i] ∧ i.natAbs.log2 < 1920 ∧ Q (.str (toString i)) H) strIC := by
  intro G H vs xs oo Q ext h0 e k
  unfold strIC at e
  split at e
  · split at e
    · cases e
      obtain ⟨u, rfl, h⟩ := one_of h0
      rw [vw_int h]
      exact ⟨_, rfl, by assumption, k _ (.str _)⟩
    · cases e
  · cases e
end DL
namespace SH
open PySem PySem.Spec PyProof.Rows L2 DL
mutual
/-- texts of plain signs, small numbers, no dicts -/
def plain (b : Nat) : PyData → Bool
  | .none => true
  | .bool _ => true
  | .int i => decide (i.natAbs ≤ b)
  | .str z => (cs z).all fun c => decide (c < 128)
  | .list xs => plainAll b xs
  | .tuple xs => plainAll b xs
  | .dict _ => false
def plainAll (b : Nat) : List PyData → Bool
  | [] => true
  | x :: xs => plain b x && plainAll b xs
end
theorem plainAll_iff {b : Nat} : ∀ {xs : List PyData}, plainAll b xs = true ↔ ∀ x ∈ xs, plain b x = true
  | [] => by simp [plainAll]
  | x :: xs => by
    rw [plainAll, Bool.and_eq_true, plainAll_iff]
    simp
theorem plain_list {b : Nat} {xs : List PyData} : plain b (.list xs) = true ↔ ∀ x ∈ xs, plain b x = true := by
  rw [plain, plainAll_iff]
theorem plain_tuple {b : Nat} {xs : List PyData} : plain b (.tuple xs) = true ↔ ∀ x ∈ xs, plain b x = true := by
  rw [plain, plainAll_iff]
theorem weight_mem {x : PyData} : ∀ {xs : List PyData}, x ∈ xs → x.weight + 1 ≤ PyData.weightAll xs
  | y :: ys, h => by
    rw [PyData.weightAll]
    rcases List.mem_cons.mp h with rfl | h
    · omega
    · have := weight_mem h
      omega
theorem weight_len : ∀ xs : List PyData, xs.length ≤ PyData.weightAll xs
  | [] => Nat.le_refl _
  | x :: xs => by
    rw [PyData.weightAll, List.length_cons]
    have := weight_len xs
    omega
theorem weight_app : ∀ xs ys : List PyData, PyData.weightAll (xs ++ ys) = PyData.weightAll xs + PyData.weightAll ys
  | [], ys => by rw [List.nil_append, PyData.weightAll, Nat.zero_add]
  | x :: xs, ys => by
    rw [List.cons_append, PyData.weightAll, PyData.weightAll, weight_app xs ys]
    omega
theorem weight_rev : ∀ xs : List PyData, PyData.weightAll xs.reverse = PyData.weightAll xs
  | [] => rfl
  | x :: xs => by
    rw [List.reverse_cons, weight_app, weight_rev xs, PyData.weightAll, PyData.weightAll, PyData.weightAll]
    omega
theorem depth_mem {x : PyData} : ∀ {xs : List PyData}, x ∈ xs → x.depth ≤ PyData.depthAll xs
  | y :: ys, h => by
    rw [PyData.depthAll]
    rcases List.mem_cons.mp h with rfl | h
    · omega
    · have := depth_mem h
      omega
theorem depth_all {n : Nat} : ∀ {xs : List PyData}, (∀ x ∈ xs, x.depth ≤ n) → PyData.depthAll xs ≤ n
  | [], _ => Nat.zero_le _
  | x :: xs, h => by
    rw [PyData.depthAll]
    have h1 := h x (List.mem_cons_self ..)
    have h2 := depth_all (xs := xs) fun y hy => h y (List.mem_cons_of_mem _ hy)
    omega
theorem log2_31 {i : Int} (h : i.natAbs ≤ 100) : i.natAbs.log2 ≤ 7 := by
  by_cases q : i.natAbs = 0
  · rw [q]; decide
  · have := (Nat.log2_lt q).mpr (show i.natAbs < 2 ^ 7 by omega)
    omega
theorem weight_int {i : Int} (h : i.natAbs ≤ 100) : (PyData.int i).weight ≤ 8 := by
  rw [PyData.weight]
  have := log2_31 h
  split <;> omega
mutual
theorem plain_ok {b : Nat} (hb : b ≤ 100) : ∀ {x : PyData}, plain b x = true → x.canLay0 = true ∧ x.showable = true ∧ x.leavesShort 13 = true
  | .none, _ => ⟨by simp [PyData.canLay0], by simp [PyData.showable], by simp [PyData.leavesShort]⟩
  | .bool _, _ => ⟨by simp [PyData.canLay0], by simp [PyData.showable], by simp [PyData.leavesShort]⟩
  | .int i, h => by
    have h : i.natAbs ≤ b := by
      rw [plain] at h
      exact of_decide_eq_true h
    obtain ⟨a, _, c, d, _⟩ := tell_int (i := i) (show i.natAbs < 2 ^ 30 by omega)
    exact ⟨a, c, d⟩
  | .str z, h => by
    rw [plain, List.all_eq_true] at h
    have sh : (PyData.str z).canLay0 = true := by
      rw [PyData.canLay0]
      have e : z.cps.all (fun c => decide (c < 0x110000)) = true := by
        rw [← Array.all_toList, List.all_eq_true]
        intro c hc
        have := of_decide_eq_true (h c hc)
        exact decide_eq_true (by omega)
      first | exact e | simpa using e
    exact ⟨sh, by simp [PyData.showable], PyData.leavesShort_of_canLay0 13 _ sh (by simp [PyData.intsShort])⟩
  | .list xs, h => by
    rw [plain] at h
    obtain ⟨a, c, d⟩ := plainAll_ok hb h
    exact ⟨by simpa [PyData.canLay0] using a, by simpa [PyData.showable] using c, by simpa [PyData.leavesShort] using d⟩
  | .tuple xs, h => by
    rw [plain] at h
    obtain ⟨a, c, d⟩ := plainAll_ok hb h
    exact ⟨by simpa [PyData.canLay0] using a, by simpa [PyData.showable] using c, by simpa [PyData.leavesShort] using d⟩
theorem plainAll_ok {b : Nat} (hb : b ≤ 100) : ∀ {xs : List PyData}, plainAll b xs = true → PyData.canLayAll0 xs = true ∧ PyData.showableAll xs = true ∧ PyData.leavesShortAll 13 xs = true
  | [], _ => by simp [PyData.canLayAll0, PyData.showableAll, PyData.leavesShortAll]
  | x :: xs, h => by
    rw [plainAll, Bool.and_eq_true] at h
    obtain ⟨a, c, d⟩ := plain_ok hb h.1
    obtain ⟨a', c', d'⟩ := plainAll_ok hb h.2
    exact ⟨by simp [PyData.canLayAll0, a, a'], by simp [PyData.showableAll, c, c'], by simp [PyData.leavesShortAll, d, d']⟩
end
/-- small: not deep, not heavy, plain -/
structure Fine (b n s : Nat) (x : PyData) : Prop where
  deep : x.depth ≤ n
  pl : plain b x = true
  wt : x.weight ≤ s
theorem Fine.tell {b n s : Nat} {x : PyData} (f : Fine b n s x) (hb : b ≤ 100) (hn : n ≤ 100) (hs : s ≤ 1000000) : TellOk x := by
  obtain ⟨h1, h2, h3⟩ := plain_ok hb f.pl
  have hw : x.weight ≤ 2 ^ 20 := Nat.le_trans f.wt (by rw [show (2 : Nat) ^ 20 = 1048576 by decide]; omega)
  have fits := PyData.shown_fits (B := 13) (by decide) (by decide) h3 hw
  cases x with
  | list xs => exact ⟨h2, h1, Nat.le_trans f.deep hn, fits, .inl ⟨_, rfl⟩⟩
  | tuple xs => exact ⟨h2, h1, Nat.le_trans f.deep hn, fits, .inr ⟨_, rfl⟩⟩
  | str z =>
    show (reprText z).length ≤ sizeLine
    rw [PyData.shown] at fits
    exact fits
  | int i =>
    have h := f.pl
    rw [plain] at h
    have := of_decide_eq_true h
    have := log2_31 (i := i) (by omega)
    show i.natAbs.log2 < 1920
    omega
  | bool _ => trivial
  | none => trivial
  | dict _ => have h := f.pl; rw [plain] at h; cases h
theorem Fine.item {b n s : Nat} {xs : List PyData} {x : PyData} (f : Fine b (n + 1) s (.list xs)) (h : x ∈ xs) : Fine b n s x := by
  have h1 := f.deep
  rw [PyData.depth] at h1
  have h2 := f.wt
  rw [PyData.weight] at h2
  have := depth_mem h
  have := weight_mem h
  exact ⟨by omega, plain_list.mp f.pl x h, by omega⟩
theorem plain_mono {b c : Nat} (h : b ≤ c) : ∀ {x : PyData}, plain b x = true → plain c x = true := by
  have key : ∀ (n : Nat) {x : PyData}, x.depth ≤ n → plain b x = true → plain c x = true := fun n => by
    induction n with
    | zero =>
      intro x hd hp
      cases x with
      | int i => rw [plain] at hp ⊢; exact decide_eq_true (Nat.le_trans (of_decide_eq_true hp) h)
      | list xs => rw [PyData.depth] at hd; omega
      | tuple xs => rw [PyData.depth] at hd; omega
      | dict _ => rw [plain] at hp; cases hp
      | str z => rw [plain] at hp ⊢; exact hp
      | none => rw [plain]
      | bool _ => rw [plain]
    | succ n ih =>
      intro x hd hp
      cases x with
      | int i => rw [plain] at hp ⊢; exact decide_eq_true (Nat.le_trans (of_decide_eq_true hp) h)
      | list xs =>
        rw [PyData.depth] at hd
        exact plain_list.mpr fun y hy => ih (Nat.le_trans (depth_mem hy) (by omega)) (plain_list.mp hp y hy)
      | tuple xs =>
        rw [PyData.depth] at hd
        exact plain_tuple.mpr fun y hy => ih (Nat.le_trans (depth_mem hy) (by omega)) (plain_tuple.mp hp y hy)
      | dict _ => rw [plain] at hp; cases hp
      | str z => rw [plain] at hp ⊢; exact hp
      | none => rw [plain]
      | bool _ => rw [plain]
  exact fun {x} hp => key _ (Nat.le_refl _) hp
theorem Fine.mono {b n s b' n' s' : Nat} {x : PyData} (f : Fine b n s x) (h1 : b ≤ b') (h2 : n ≤ n') (h3 : s ≤ s') : Fine b' n' s' x := ⟨Nat.le_trans f.deep h2, plain_mono h1 f.pl, Nat.le_trans f.wt h3⟩
theorem fine_list {b n s : Nat} {xs : List PyData} (h : ∀ x ∈ xs, plain b x = true ∧ x.depth ≤ n) (w : PyData.weightAll xs ≤ s) : Fine b (n + 1) s (.list xs) :=
  ⟨by rw [PyData.depth]; have := depth_all fun x hx => (h x hx).2; omega, plain_list.mpr fun x hx => (h x hx).1, by rw [PyData.weight]; exact w⟩
theorem fine_tuple {b n s : Nat} {xs : List PyData} (h : ∀ x ∈ xs, plain b x = true ∧ x.depth ≤ n) (w : PyData.weightAll xs ≤ s) : Fine b (n + 1) s (.tuple xs) :=
  ⟨by rw [PyData.depth]; have := depth_all fun x hx => (h x hx).2; omega, plain_tuple.mpr fun x hx => (h x hx).1, by rw [PyData.weight]; exact w⟩
theorem fine_str {b s : Nat} {z : Str} (h : ∀ c ∈ cs z, c < 128) (l : z.length ≤ s) : Fine b 0 s (.str z) :=
  ⟨by simp [PyData.depth], by rw [plain, List.all_eq_true]; exact fun c hc => decide_eq_true (h c hc), by rw [PyData.weight]; exact l⟩
theorem str_ascii {b : Nat} {z : Str} (h : plain b (.str z) = true) : ∀ c ∈ cs z, c < 128 := by
  rw [plain, List.all_eq_true] at h
  exact fun c hc => of_decide_eq_true (h c hc)
theorem upper_tab : ∀ c : Fin 128, (Unicode.upperOf c.val).length = 1 ∧ ((Unicode.upperOf c.val).all fun u => decide (u < 128)) = true := by decide +kernel
theorem idx_const {α β : Type} (f : α → β) : ∀ l : List α, l.mapIdx (fun _ c => f c) = l.map f
  | [] => rfl
  | x :: l => by
    rw [List.mapIdx_cons, List.map_cons]
    exact congrArg (f x :: ·) (idx_const f l)
theorem cs_upper (z : Str) : cs (Txt.upper z) = ((cs z).map Unicode.upperOf).flatten := by
  show (placed z fun _ c => Unicode.upperOf c).toList = _
  unfold placed
  simp only [Array.toList_flatten, Array.toList_map, Array.toList_mapIdx]
  rw [idx_const (fun c => (Unicode.upperOf c).toArray), List.map_map]
  congr 1
theorem upper_ascii {z : Str} (h : ∀ c ∈ cs z, c < 128) : (∀ c ∈ cs (Txt.upper z), c < 128) ∧ (Txt.upper z).length = z.length := by
  have key : ∀ l : List Nat, (∀ c ∈ l, c < 128) → (∀ c ∈ (l.map Unicode.upperOf).flatten, c < 128) ∧ ((l.map Unicode.upperOf).flatten).length = l.length := fun l => by
    induction l with
    | nil => exact fun _ => ⟨(fun c hc => by simp at hc), rfl⟩
    | cons c l ih =>
      intro h
      obtain ⟨i1, i2⟩ := ih fun x hx => h x (List.mem_cons_of_mem _ hx)
      have t1 : (Unicode.upperOf c).length = 1 := (upper_tab ⟨c, h c (List.mem_cons_self ..)⟩).1
      have t2 : ((Unicode.upperOf c).all fun u => decide (u < 128)) = true := (upper_tab ⟨c, h c (List.mem_cons_self ..)⟩).2
      rw [List.map_cons, List.flatten_cons]
      refine ⟨fun x hx => ?_, by rw [List.length_append, i2, List.length_cons]; omega⟩
      rcases List.mem_append.mp hx with q | q
      · exact of_decide_eq_true (List.all_eq_true.mp t2 x q)
      · exact i1 x q
  obtain ⟨a, b⟩ := key (cs z) h
  rw [← cs_upper] at a b
  refine ⟨a, ?_⟩
  exact b
theorem cut_str {z : Str} {lo hi : Option Int} (h : ∀ c ∈ cs z, c < 128) : (∀ c ∈ cs (cutS z lo hi), c < 128) ∧ (cutS z lo hi).length ≤ z.length := by
  unfold cutS
  refine ⟨fun c hc => h c ?_, ?_⟩
  · exact List.mem_of_mem_drop (List.mem_of_mem_take (by simpa [cs] using hc))
  · show Array.size _ ≤ z.cps.size
    rw [List.size_toArray, List.length_take, List.length_drop, Array.length_toList]
    omega
theorem int_tab : ∀ i : Fin 201, ((toString ((i.val : Int) - 100) : String) : Str).length ≤ 5 ∧ ((cs ((toString ((i.val : Int) - 100) : String) : Str)).all fun c => decide (c < 128)) = true := by decide +kernel
theorem int_text {i : Int} (h : i.natAbs ≤ 100) : ((toString i : String) : Str).length ≤ 5 ∧ ∀ c ∈ cs ((toString i : String) : Str), c < 128 := by
  obtain ⟨k, rfl⟩ : ∃ k : Nat, i = (k : Int) - 100 := ⟨(i + 100).toNat, by omega⟩
  obtain ⟨a, b⟩ := int_tab ⟨k, by omega⟩
  exact ⟨a, fun c hc => of_decide_eq_true (List.all_eq_true.mp b c hc)⟩
end SH
namespace SH
open PySem PySem.Spec PyProof.Rows L2 DL
/-- it comes to x, and nothing is changed -/
def Gv (w : DTE) (ρ : Rho) (κ : Kap) (x : PyData) : Prop := ∀ Q : R → Kap → Prop, (∀ r : R, r.st = .d x → Q r κ) → w ρ κ Q
def Tv (w : DTT) (ρ : Rho) (κ : Kap) (b : Bool) : Prop := ∀ Q : Bool → Kap → Prop, Q b κ → w ρ κ Q
section
variable {ρ : Rho} {κ : Kap} {wa wb wc wd : DTE} {wt wu : DTT} {x y z u : PyData} {b c : Bool}
theorem gv_var {i : Nat} (h : ρ[i]? = some (some (.d x))) : Gv (wVar i) ρ κ x := fun Q k => by
  rw [s_var, h]
  exact k _ rfl
theorem gv_c : Gv (wC x) ρ κ x := fun Q k => by
  rw [s_c]
  exact k _ rfl
theorem gv_bin {f : PyData → PyData → Option Out} {o : Out} (ha : Gv wa ρ κ x) (hb : Gv wb ρ κ y) (e : f x y = some o) (ez : o.r.st = .d z) : Gv (wBin f wa wb) ρ κ z := fun Q k => by
  rw [s_bin]
  refine ha _ fun r hr => hb _ fun q hq => ?_
  rw [hr, hq, val_d, Opt_some, val_d, Opt_some, e, Opt_some]
  exact k _ ez
theorem gv_un {f : PyData → Option Out} {o : Out} (ha : Gv wa ρ κ x) (e : f x = some o) (ez : o.r.st = .d z) : Gv (wUn f wa) ρ κ z := fun Q k => by
  rw [s_un]
  refine ha _ fun r hr => ?_
  rw [hr, val_d, Opt_some, e, Opt_some]
  exact k _ ez
theorem gv_cb {f : List PyData → Option Out} {o : Out} (ha : Gv wa ρ κ x) (e : f [x] = some o) (ez : o.r.st = .d z) : Gv (wCB f (wCons wa wNil)) ρ κ z := fun Q k => by
  rw [s_cb, s_cons]
  refine ha _ fun r hr => ?_
  simp only [s_nil, hr, vals_cons, vals_nil, val_d, Opt_some, e]
  exact k _ ez
theorem gv_call2 {Φ : List R → (R → Prop) → Prop} (ha : Gv wa ρ κ x) (hb : Gv wb ρ κ y) (hΦ : ∀ P : R → Prop, (∀ r : R, r.st = .d z → P r) → Φ [.d x, .d y] P) : Gv (wCall Φ (wCons wa (wCons wb wNil))) ρ κ z := fun Q k => by
  rw [s_call, s_cons]
  refine ha _ fun r hr => ?_
  rw [s_cons]
  refine hb _ fun q hq => ?_
  rw [s_nil, hr, hq]
  show Φ [.d x, .d y] _
  exact hΦ _ fun r hr => k r hr
theorem gv_lst0 : Gv (wLst wNil) ρ κ (.list []) := fun Q k => by
  have hz := sizeLine_eq
  rw [s_lst, s_nil, dats_nil, Opt_some]
  exact ⟨by simp, k _ rfl⟩
theorem gv_lst1 (ha : Gv wa ρ κ x) : Gv (wLst (wCons wa wNil)) ρ κ (.list [x]) := fun Q k => by
  have hz := sizeLine_eq
  rw [s_lst, s_cons]
  refine ha _ fun r hr => ?_
  rw [s_nil, hr, dats_d, dats_nil]
  simp only [s_callL, s_call, s_cons, s_consM, s_nil, s_c, s_var, s_bin, s_un, s_lst, s_tup, s_cb, s_B, s_tru, s_not, s_repr, List.getElem?_cons_succ, List.getElem?_cons_zero, List.set_cons_succ, List.set_cons_zero, st_d, st_f, st_c, val_d, val_f, dats_d, dats_nil, vals_cons, vals_nil, lend_c, args_d, DL.args_nil, Opt_some, out_v, out_n, out_t, lab_d, lab_f, sto_f, sto_d, List.length_cons, List.length_nil, lenD_list, lenD_tuple, listC_list, listC_tuple, tupC_list, tupC_tuple, istt, istf, Bool.not_true, Bool.not_false, Bool.false_eq_true, if_false, if_true]
  exact ⟨by omega, k _ rfl⟩
theorem gv_tup2 (ha : Gv wa ρ κ x) (hb : Gv wb ρ κ y) : Gv (wTup (wCons wa (wCons wb wNil))) ρ κ (.tuple [x, y]) := fun Q k => by
  have hz := sizeLine_eq
  rw [s_tup, s_cons]
  refine ha _ fun r hr => ?_
  rw [s_cons]
  refine hb _ fun q hq => ?_
  rw [s_nil, hr, hq, dats_d, dats_d, dats_nil]
  simp only [s_callL, s_call, s_cons, s_consM, s_nil, s_c, s_var, s_bin, s_un, s_lst, s_tup, s_cb, s_B, s_tru, s_not, s_repr, List.getElem?_cons_succ, List.getElem?_cons_zero, List.set_cons_succ, List.set_cons_zero, st_d, st_f, st_c, val_d, val_f, dats_d, dats_nil, vals_cons, vals_nil, lend_c, args_d, DL.args_nil, Opt_some, out_v, out_n, out_t, lab_d, lab_f, sto_f, sto_d, List.length_cons, List.length_nil, lenD_list, lenD_tuple, listC_list, listC_tuple, tupC_list, tupC_tuple, istt, istf, Bool.not_true, Bool.not_false, Bool.false_eq_true, if_false, if_true]
  exact ⟨by omega, k _ rfl⟩
theorem gv_sl {lo hi : Option Int} {wl wh : DTO} {o : Out} (ha : Gv wa ρ κ x) (h1 : ∀ P : Option Int → Kap → Prop, P lo κ → wl ρ κ P) (h2 : ∀ P : Option Int → Kap → Prop, P hi κ → wh ρ κ P) (e : slD x lo hi = some o) (ez : o.r.st = .d z) : Gv (wSl wa wl wh) ρ κ z := fun Q k => by
  rw [s_sl]
  refine ha _ fun r hr => h1 _ (h2 _ ?_)
  rw [hr, val_d, Opt_some, e, Opt_some]
  exact k _ ez
theorem go_no {P : Option Int → Kap → Prop} (h : P none κ) : wNoP ρ κ P := by rw [s_noP]; exact h
theorem go_at {i : Int} (ha : Gv wa ρ κ (.int i)) : ∀ P : Option Int → Kap → Prop, P (some i) κ → wP wa ρ κ P := fun P h => by
  rw [s_P]
  refine ha _ fun r hr => ?_
  have e : r = .d (.int i) := by
    cases r with
    | d y => exact hr
    | f xs => exact nomatch (show R.d (.list xs) = R.d (.int i) from hr)
    | _ => cases hr
  rw [e]
  exact h
theorem st_bool {r : R} (h : r.st = .d (.bool b)) : r = .d (.bool b) := by
  cases r with
  | d y => exact h
  | f xs => exact nomatch (show R.d (.list xs) = R.d (.bool b) from h)
  | _ => cases h
theorem tv_tru (ha : Gv wa ρ κ (.bool b)) : Tv (wTru wa) ρ κ b := fun Q k => by
  rw [s_tru]
  refine ha _ fun r hr => ?_
  rw [hr, val_d, Opt_some]
  exact k
theorem tv_B (ha : Gv wa ρ κ (.bool b)) : Tv (wB wa) ρ κ b := fun Q k => by
  rw [s_B]
  refine ha _ fun r hr => ?_
  rw [st_bool hr]
  exact k
theorem tv_not (h : Tv wt ρ κ b) : Tv (wNot wt) ρ κ (!b) := fun Q k => by
  rw [s_not]
  exact h _ k
theorem tv_or (h : Tv wt ρ κ b) (h2 : b = false → Tv wu ρ κ c) : Tv (wOr wt wu) ρ κ (b || c) := fun Q k => by
  rw [s_or]
  refine h _ ?_
  cases b with
  | true => exact k
  | false =>
    rw [if_neg (by decide)]
    exact h2 rfl _ k
theorem pass_gv {E : DEnds} {a : DTS} (h : Tv wt ρ κ false) (k : E.nx ρ κ) : wIfS wt a wNext E ρ κ := by
  rw [s_if]
  refine h _ ?_
  rw [if_neg (by decide), s_next]
  exact k
theorem set_gv {E : DEnds} {i : Nat} (h : Gv wa ρ κ x) (k : E.nx (ρ.set i (some (.d x))) κ) : wSet false i wa E ρ κ := by
  rw [s_set]
  refine h _ fun r hr => ?_
  have e : sto false r κ = (.d x, κ) := by
    cases r with
    | d y => cases hr; exact sto_d _ _
    | f xs => cases (show R.d (.list xs) = R.d x from hr); exact sto_f ..
    | _ => cases hr
  rw [e]
  exact k
theorem gv_same (ha : Gv wa ρ κ x) (hb : Gv wb ρ κ x) (g : GoodN 8 x) : Gv (wCall Ph_law_same (wCons wa (wCons wb wNil))) ρ κ (.bool true) := gv_call2 ha hb fun P k => ⟨x, rfl, g, k _ rfl⟩
theorem tv_same (ha : Gv wa ρ κ x) (hb : Gv wb ρ κ x) (g : GoodN 8 x) : Tv (wNot (wTru (wCall Ph_law_same (wCons wa (wCons wb wNil))))) ρ κ false := tv_not (tv_tru (gv_same ha hb g))
end
end SH
namespace SH
open PySem PySem.Spec PyProof.Rows L2 DL
def Ph_law_pick (bs : List PyData) (rs : List R) (P : R → List PyData → Prop) : Prop := ∃ (N : Int) (xs : List PyData), Box N bs ∧ N ≤ 2 ^ 39 ∧ rs = [.d (.list xs)] ∧ 0 < xs.length ∧ xs.length ≤ 1000000 ∧ ∀ (x : PyData) (bs' : List PyData), x ∈ xs → Box (N + 1) bs' → P (.d x) bs'
/-- _law_pick -/
def w_law_pick : DTS := (wRet (wBin ixD (wVar 1) (wCallL Ph_law_take (wCons (wVar 0) (wCons (wCB lenD (wCons (wVar 1) wNil)) wNil)))))
theorem r_law_pick (bs : List PyData) (rs : List R) (Pd : R → List PyData → Prop) (h : Ph_law_pick bs rs Pd) (hl : rs.length = 1) : w_law_pick { nx := fun _ κ => endL κ (.d .none) Pd, rt := fun r κ => endL κ r Pd } (some (.c 0) :: (rs.map some ++ List.replicate 0 none)) [.l bs] := by
  obtain ⟨N, xs, hb, hN, rfl, l0, l1, k⟩ := h
  clear hl
  simp only [List.map_cons, List.map_nil, List.replicate_zero, List.append_nil]
  unfold w_law_pick
  rw [s_ret]
  simp only [s_callL, s_call, s_cons, s_consM, s_nil, s_c, s_var, s_bin, s_un, s_lst, s_tup, s_cb, s_B, s_tru, s_not, s_repr, List.getElem?_cons_succ, List.getElem?_cons_zero, List.set_cons_succ, List.set_cons_zero, st_d, st_f, st_c, val_d, val_f, dats_d, dats_nil, vals_cons, vals_nil, lend_c, args_d, DL.args_nil, Opt_some, out_v, out_n, out_t, lab_d, lab_f, sto_f, sto_d, List.length_cons, List.length_nil, lenD_list, lenD_tuple, listC_list, listC_tuple, tupC_list, tupC_tuple, istt, istf, Bool.not_true, Bool.not_false, Bool.false_eq_true, if_false, if_true]
  refine ⟨N, xs.length, hb, by omega, rfl, by omega, by omega, fun z bs1 z0 z1 hb1 => ?_⟩
  obtain ⟨j, rfl⟩ := Int.eq_ofNat_of_zero_le z0
  have hj : j < xs.length := by omega
  have e : ixD (.list xs) (.int (j : Int)) = some (.v xs[j]) := ixD_list (atI_nat (List.getElem?_eq_getElem hj))
  simp only [s_callL, s_call, s_cons, s_consM, s_nil, s_c, s_var, s_bin, s_un, s_lst, s_tup, s_cb, s_B, s_tru, s_not, s_repr, List.getElem?_cons_succ, List.getElem?_cons_zero, List.set_cons_succ, List.set_cons_zero, st_d, st_f, st_c, val_d, val_f, dats_d, dats_nil, vals_cons, vals_nil, lend_c, args_d, DL.args_nil, Opt_some, out_v, out_n, out_t, lab_d, lab_f, sto_f, sto_d, List.length_cons, List.length_nil, lenD_list, lenD_tuple, listC_list, listC_tuple, tupC_list, tupC_tuple, istt, istf, Bool.not_true, Bool.not_false, Bool.false_eq_true, if_false, if_true, e, endL_d]
  exact k _ _ (List.getElem_mem hj) hb1
end SH
namespace SH
open PySem PySem.Spec PyProof.Rows L2 DL
theorem s_insert (wo wi wa : DTE) (ρ : Rho) (κ : Kap) (P : R → Kap → Prop) : wInsert wo wi wa ρ κ P = wo ρ κ fun ro κ1 => match ro with
  | .c k => (∃ zs, κ1[k]? = some (.l zs)) ∧ wi ρ κ1 fun ri κ2 => match ri with
    | .d (.int i) => wa ρ κ2 fun r κ3 => Opt (dat κ3 r.st) fun q => match q.2[k]? with
      | some (.l xs) => xs.length < 1000000 ∧ 0 ≤ i ∧ i < 2 ^ 62 ∧ P (.d .none) (q.2.set k (.l (xs.take i.toNat ++ [q.1] ++ xs.drop i.toNat)))
      | _ => False
    | _ => False
  | _ => False := rfl
end SH
namespace SH
open PySem PySem.Spec PyProof.Rows L2 DL
/-- arguments that come to these things -/
def Ga (wr : DTA) (ρ : Rho) (κ : Kap) (xs : List PyData) : Prop := ∀ Q : List R → Kap → Prop, (∀ rs, dats κ rs = some (xs, κ) → Q rs κ) → wr ρ κ Q
section
variable {ρ : Rho} {κ : Kap} {wa wb : DTE} {wr : DTA} {x y : PyData} {xs : List PyData}
theorem ga_nil : Ga wNil ρ κ [] := fun Q k => by
  rw [s_nil]
  exact k _ rfl
theorem ga_cons (ha : Gv wa ρ κ x) (hr : Ga wr ρ κ xs) : Ga (wCons wa wr) ρ κ (x :: xs) := fun Q k => by
  rw [s_cons]
  refine ha _ fun r e1 => hr _ fun rs e2 => k _ ?_
  rw [e1, dats_d, e2]
theorem gv_lst (h : Ga wr ρ κ xs) (l : xs.length ≤ 1000000) : Gv (wLst wr) ρ κ (.list xs) := fun Q k => by
  rw [s_lst]
  refine h _ fun rs e => ?_
  rw [e, Opt_some]
  refine ⟨?_, k _ rfl⟩
  rw [sizeLine_eq]
  show xs.length ≤ _
  omega
theorem gv_tup (h : Ga wr ρ κ xs) (l : xs.length ≤ 1000000) : Gv (wTup wr) ρ κ (.tuple xs) := fun Q k => by
  rw [s_tup]
  refine h _ fun rs e => ?_
  rw [e, Opt_some]
  refine ⟨?_, k _ rfl⟩
  rw [sizeLine_eq]
  show xs.length ≤ _
  omega
theorem gv_neg1 : Gv (wUn negD (wC (.int 1))) ρ κ (.int (-1)) := gv_un gv_c rfl rfl
end
def oddB (x : PyData) : Bool := decide (x.depth ≤ 2) && plain 2 x && decide (x.weight ≤ 60)
theorem odd_fine {x : PyData} (h : oddB x = true) : Fine 2 2 60 x := by
  unfold oddB at h
  rw [Bool.and_eq_true, Bool.and_eq_true, decide_eq_true_iff, decide_eq_true_iff] at h
  exact ⟨h.1.1, h.1.2, h.2⟩
section
variable {N : Int} {bs : List PyData} {x : PyData} {κ : Kap} {E : DEnds} {W : DTS} {wr : DTA} {m : Nat} {F : Str → List PyData}
/-- a list or a tuple -/
def seqD (t : Bool) (xs : List PyData) : PyData := if t then .tuple xs else .list xs
theorem weight_set {i : Nat} {x y : PyData} : ∀ {xs : List PyData}, xs[i]? = some x → PyData.weightAll (xs.set i y) + x.weight = PyData.weightAll xs + y.weight := by
  induction i with
  | zero =>
    intro xs h
    cases xs with
    | nil => cases h
    | cons z zs =>
      cases h
      rw [List.set_cons_zero, PyData.weightAll, PyData.weightAll]
      omega
  | succ i ih =>
    intro xs h
    cases xs with
    | nil => cases h
    | cons z zs =>
      have h := ih (xs := zs) h
      rw [List.set_cons_succ, PyData.weightAll, PyData.weightAll]
      omega
theorem weight_erase (i : Nat) : ∀ xs : List PyData, PyData.weightAll (xs.eraseIdx i) ≤ PyData.weightAll xs := by
  induction i with
  | zero =>
    intro xs
    cases xs with
    | nil => exact Nat.le_refl _
    | cons z zs => rw [List.eraseIdx_cons_zero, PyData.weightAll]; omega
  | succ i ih =>
    intro xs
    cases xs with
    | nil => exact Nat.le_refl _
    | cons z zs =>
      have h := ih zs
      rw [List.eraseIdx_cons_succ, PyData.weightAll, PyData.weightAll]
      omega
theorem weight_parts (i : Nat) (xs : List PyData) : PyData.weightAll (xs.take i) + PyData.weightAll (xs.drop i) = PyData.weightAll xs := by
  rw [← weight_app, List.take_append_drop]
theorem val_1 (c : Cell) (xs : List PyData) : val [c, .l xs] (.c 1) = some (.list xs) := rfl
theorem s_subSl {wo : DTE} {wl wh : DTO} {r : R} {P : Rho → Kap → Prop} {ρ : Rho} : wSubSl wo wl wh r ρ κ P = Opt (dat κ r) fun q => match q.1 with
  | .list ys => wo ρ q.2 fun ro κ1 => match ro with
    | .c k => wl ρ κ1 fun l κ2 => wh ρ κ2 fun h κ3 => match l, h, κ3[k]? with
      | some (.ofNat a), some (.ofNat c), some (.l xs) => a ≤ min c xs.length ∧ xs.length + ys.length ≤ 1000000 ∧ P ρ (κ3.set k (.l (xs.take a ++ ys ++ xs.drop (min c xs.length))))
      | _, _, _ => False
    | _ => False
  | _ => False := rfl
section
variable {n b s : Nat} {t : Bool} {xs : List PyData} {Pd : R → List PyData → Prop}
abbrev EB (Pd : R → List PyData → Prop) : DEnds := { nx := fun _ κ => endL κ (.d .none) Pd, rt := fun r κ => endL κ r Pd }
end
end
section
variable {N : Int} {bs : List PyData} {W : DTS} {n b s : Nat} {t : Bool} {xs : List PyData} {Pd : R → List PyData → Prop}
end
end SH
namespace SH
open PySem PySem.Spec PyProof.Rows L2 DL
end SH
namespace SH
open PySem PySem.Spec PyProof.Rows L2 DL
theorem len_ne (xs : List PyData) : eqD true (.int (xs.length : Nat)) (.int 3) = some (.v (.bool (!decide (xs.length = 3)))) := by
  have := eqD_ii (xs.length : Nat) 3
  rw [eqD_of (by unfold SeqAt.shaped PyData.canLay0; simp [PyData.depth]) (by unfold SeqAt.shaped PyData.canLay0; simp [PyData.depth])] at this ⊢
  simp only [Bool.false_eq_true, if_false, if_true, Option.some.injEq, Out.v.injEq, PyData.bool.injEq] at this ⊢
  rw [this]
  congr 1
  exact decide_eq_decide.mpr (by omega)
theorem app_ascii {z w : Str} (h1 : ∀ c ∈ cs z, c < 128) (h2 : ∀ c ∈ cs w, c < 128) : ∀ c ∈ cs (z ++ w), c < 128 := fun c hc => by
  have e : cs (z ++ w) = cs z ++ cs w := by
    show (z.cps ++ w.cps).toList = _
    exact Array.toList_append ..
  rw [e] at hc
  rcases List.mem_append.mp hc with h | h
  · exact h1 c h
  · exact h2 c h
theorem app_len (z w : Str) : (z ++ w).length = z.length + w.length := by
  show (z.cps ++ w.cps).size = _
  exact Array.size_append ..
theorem ga_app {ρ : Rho} {κ : Kap} {z w : Str} (h : ρ[1]? = some (some (.d (.str z)))) (l : z.length + w.length ≤ 1000000) : Gv (wBin addD (wVar 1) (wC (.str w))) ρ κ (.str (z ++ w)) := gv_bin (gv_var h) gv_c (addD_str (by rw [sizeLine_eq]; omega)) rfl
theorem ga_cut {ρ : Rho} {κ : Kap} {z : Str} {lo hi : Option Int} {wl wh : DTO} (h : ρ[1]? = some (some (.d (.str z)))) (l : z.length ≤ 1000000) (h1 : ∀ P : Option Int → Kap → Prop, P lo κ → wl ρ κ P) (h2 : ∀ P : Option Int → Kap → Prop, P hi κ → wh ρ κ P) : Gv (wSl (wVar 1) wl wh) ρ κ (.str (cutS z lo hi)) := gv_sl (gv_var h) h1 h2 (slD_str lo hi (by rw [sizeLine_eq]; omega)) rfl
theorem ga_up {ρ : Rho} {κ : Kap} {z : Str} (h : ρ[1]? = some (some (.d (.str z)))) (l : z.length ≤ 1000000) : Gv (wUpper (wVar 1)) ρ κ (.str (Txt.upper z)) := fun Q k => by
  have e : upperD (.str z) = some (.v (.str (Txt.upper z))) := if_pos (by omega)
  rw [s_upper]
  refine gv_var h _ fun r hr => ?_
  rw [hr, val_d, Opt_some, e, Opt_some]
  exact k _ rfl
theorem texts_short : ("a" : Str).length = 1 ∧ (" " : Str).length = 1 ∧ ("z" : Str).length = 1 ∧ ("\n" : Str).length = 1 := by decide +kernel
theorem texts_plain : (∀ c ∈ cs ("a" : Str), c < 128) ∧ (∀ c ∈ cs (" " : Str), c < 128) ∧ (∀ c ∈ cs ("z" : Str), c < 128) ∧ (∀ c ∈ cs ("\n" : Str), c < 128) := by decide +kernel
theorem name_fine {z : Str} (h : IsName z) : (∀ c ∈ cs z, c < 128) ∧ z.length ≤ 6 := by
  obtain ⟨h1, h2, h3⟩ := h
  exact ⟨fun c hc => by have := h3 c hc; omega, h2⟩
theorem weight_sum {m : Nat} : ∀ {xs : List PyData}, (∀ x ∈ xs, x.weight ≤ m) → PyData.weightAll xs ≤ xs.length * (m + 1)
  | [], _ => by rw [PyData.weightAll]; exact Nat.zero_le _
  | x :: xs, h => by
    rw [PyData.weightAll, List.length_cons, Nat.add_mul]
    have h1 := h x (List.mem_cons_self ..)
    have h2 := weight_sum (xs := xs) fun y hy => h y (List.mem_cons_of_mem _ hy)
    omega
theorem strs_fine {ss : List Str} (h : ∀ z ∈ ss, IsName z) : (∀ x ∈ ss.map PyData.str, plain 2 x = true ∧ x.depth ≤ 0) ∧ PyData.weightAll (ss.map PyData.str) ≤ ss.length * 7 := by
  have key : ∀ x ∈ ss.map PyData.str, Fine 2 0 6 x := fun x hx => by
    obtain ⟨z, hz, rfl⟩ := List.mem_map.mp hx
    obtain ⟨a, b⟩ := name_fine (h z hz)
    exact fine_str a b
  refine ⟨fun x hx => ⟨(key x hx).pl, (key x hx).deep⟩, ?_⟩
  have := weight_sum (m := 6) fun x hx => (key x hx).wt
  rw [List.length_map] at this
  exact this
theorem lab_st {r : R} {y : PyData} (h : r.st = .d y) (n : Nat) : (r.lab n).st = .d y := by
  cases r with
  | d z => exact h
  | f zs => exact h
  | _ => cases h
end SH
namespace SH
open PySem PySem.Spec PyProof.Rows L2 DL
def HookIn (h : Hook) : Prop := IsName h.1 ∧ IsName h.2.1 ∧ cs h.1 < cs h.2.1 ∧ (h.2.2 = 1 ∨ h.2.2 = -1)
def StepIn (s : StepT) : Prop := ∀ a h, s = .come a h → HookIn h
end SH
namespace SH
open PySem PySem.Spec PyProof.Rows L2 DL
end SH
namespace SH
open PySem PySem.Spec PyProof.Rows L2 DL
theorem HookIn.row {h : Hook} (a : HookIn h) : IsName h.1 ∧ IsName h.2.1 ∧ h.1 ≠ h.2.1 := ⟨a.1, a.2.1, fun e => by
  have := a.2.2.1
  rw [e] at this
  exact absurd this (List.lt_irrefl _)⟩
section
variable {E : DEnds} {ok : Kap → Prop} {other : Row} {κ : Kap} {p0 p1 p2 : Option R}
end
end SH
namespace SH
open PySem PySem.Spec PyProof.Rows L2 DL
def RowH (r : Row) : Prop := ∀ h ∈ r, HookIn h
def Lead (M : Nat) : Row → List StepT → Row → Prop
  | r, [], q => r = q ∧ r.length ≤ M
  | r, s :: ss, q => (canF r s = true ∧ r.length ≤ M ∧ StepIn s) ∧ Lead M (goneF r s) ss q
theorem Lead.end {M : Nat} : ∀ {ss : List StepT} {r q : Row}, Lead M r ss q → q.length ≤ M
  | [], _, _, h => by rw [← h.1]; exact h.2
  | _ :: _, _, _, h => Lead.end h.2
theorem Lead.len {M : Nat} : ∀ {ss : List StepT} {r q : Row}, Lead M r ss q → r.length ≤ M
  | [], _, _, h => h.2
  | _ :: _, _, _, h => h.1.2.1
theorem Lead.mono {M N : Nat} (l : M ≤ N) : ∀ {ss : List StepT} {r q : Row}, Lead M r ss q → Lead N r ss q
  | [], _, _, h => ⟨h.1, Nat.le_trans h.2 l⟩
  | _ :: _, _, _, h => ⟨⟨h.1.1, Nat.le_trans h.1.2.1 l, h.1.2.2⟩, Lead.mono l h.2⟩
theorem Lead.app {M : Nat} : ∀ {a : List StepT} {r m : Row} {b : List StepT} {q : Row}, Lead M r a m → Lead M m b q → Lead M r (a ++ b) q
  | [], _, _, _, _, h1, h2 => by
    obtain ⟨rfl, _⟩ := h1
    exact h2
  | _ :: _, _, _, _, _, h1, h2 => ⟨h1.1, Lead.app h1.2 h2⟩
theorem Lead.pile {M : Nat} : ∀ {ss : List StepT} {r q : Row}, Lead M r ss q → pile q = pile r
  | [], _, _, h => by rw [h.1]
  | _ :: _, _, _, h => (Lead.pile h.2).trans (pile_gone h.1.1)
theorem two_at (u v : Row) (x y : Hook) (f : Hook → Hook → Bool) : two (u ++ x :: y :: v) (u.length : Int) f = f x y := by
  unfold two
  rw [Int.toNat_natCast, (drop_at u _ rfl).1, decide_eq_true (by omega), decide_eq_true (by rw [List.length_append]; simp; omega)]
  rfl
theorem do_change (u v : Row) {x y : Hook} (e : hits x y = false) : canF (u ++ x :: y :: v) (.change (u.length : Int)) = true ∧ goneF (u ++ x :: y :: v) (.change (u.length : Int)) = u ++ y :: x :: v := by
  constructor
  · show two _ _ _ = true
    rw [two_at, e]
    rfl
  · show (u ++ x :: y :: v).take (u.length : Int).toNat ++ (match (u ++ x :: y :: v).drop (u.length : Int).toNat with
      | x :: y :: v => y :: x :: v
      | v => v) = _
    rw [Int.toNat_natCast, (drop_at u _ rfl).1, (drop_at u _ rfl).2]
theorem do_go (u v : Row) (x : Hook) : canF (u ++ x :: turned x :: v) (.go (u.length : Int)) = true ∧ goneF (u ++ x :: turned x :: v) (.go (u.length : Int)) = u ++ v := by
  constructor
  · show two _ _ _ = true
    rw [two_at]
    exact decide_eq_true rfl
  · show (u ++ x :: turned x :: v).take (u.length : Int).toNat ++ (u ++ x :: turned x :: v).drop ((u.length : Int).toNat + 2) = _
    rw [Int.toNat_natCast, (drop_at u _ rfl).2, ← List.drop_drop, (drop_at u _ rfl).1]
    rfl
theorem do_come (u v : Row) (x : Hook) : canF (u ++ v) (.come (u.length : Int) x) = true ∧ goneF (u ++ v) (.come (u.length : Int) x) = u ++ x :: turned x :: v := by
  constructor
  · show (decide ((0 : Int) ≤ u.length) && decide ((u.length : Int) ≤ ((u ++ v).length : Int))) = true
    rw [decide_eq_true (by omega), decide_eq_true (by rw [List.length_append]; omega)]
    rfl
  · show (u ++ v).take (u.length : Int).toNat ++ (x :: turned x :: (u ++ v).drop (u.length : Int).toNat) = _
    rw [Int.toNat_natCast, (drop_at u _ rfl).1, (drop_at u _ rfl).2]
theorem in_change (a : Int) : StepIn (.change a) := fun _ _ e => nomatch e
theorem in_go (a : Int) : StepIn (.go a) := fun _ _ e => nomatch e
def undoF (r : Row) : StepT → StepT
  | .go a => .come a (r.getD a.toNat ("", "", 0))
  | .change a => .change a
  | .come a _ => .go a
theorem undo_ok {M : Nat} {r : Row} {s : StepT} (hc : canF r s = true) (hr : RowH r) (lr : r.length ≤ M) (lg : (goneF r s).length ≤ M) (hs : StepIn s) : RowH (goneF r s) ∧ Lead M (goneF r s) [undoF r s] r := by
  cases s with
  | come a h =>
    have c : (decide (0 ≤ a) && decide (a ≤ (r.length : Int))) = true := hc
    rw [Bool.and_eq_true] at c
    have c1 := of_decide_eq_true c.1
    have c2 := of_decide_eq_true c.2
    obtain ⟨n, rfl⟩ := Int.eq_ofNat_of_zero_le c1
    have e := List.take_append_drop n r
    have l1 : (r.take n).length = n := by rw [List.length_take]; omega
    have g : goneF r (.come (n : Int) h) = r.take n ++ h :: turned h :: r.drop n := rfl
    have hh : HookIn h := hs _ _ rfl
    have ht : HookIn (turned h) := ⟨hh.1, hh.2.1, hh.2.2.1, by
      have := hh.2.2.2
      show -h.2.2 = 1 ∨ -h.2.2 = -1
      omega⟩
    rw [g] at lg ⊢
    constructor
    · intro x hx
      rcases List.mem_append.mp hx with hx | hx
      · exact hr x (List.mem_of_mem_take hx)
      · rcases List.mem_cons.mp hx with rfl | hx
        · exact hh
        · rcases List.mem_cons.mp hx with rfl | hx
          · exact ht
          · exact hr x (List.mem_of_mem_drop hx)
    · have d := do_go (r.take n) (r.drop n) h
      rw [l1] at d
      have q : goneF (r.take n ++ h :: turned h :: r.drop n) (undoF r (.come (n : Int) h)) = r := d.2.trans e
      exact ⟨⟨d.1, lg, in_go _⟩, q, by rw [q]; exact lr⟩
  | change a =>
    by_cases c : 0 ≤ a ∧ a < (r.length : Int) - 1
    · obtain ⟨n, u, v, x, y, rfl, hu, rfl, e⟩ := two_split (f := fun x y => !hits x y) c.1 c.2
      have hh : (!hits x y) = true := e.symm.trans hc
      have nh : hits x y = false := by simpa using hh
      have nh2 : hits y x = false := by rw [hits_symm]; exact nh
      subst hu
      have g := (do_change u v nh).2
      have g2 := do_change u v nh2
      rw [g] at lg ⊢
      constructor
      · intro z hz
        refine hr z ?_
        simp only [List.mem_append, List.mem_cons] at hz ⊢
        rcases hz with h | h | h | h
        · exact .inl h
        · exact .inr (.inr (.inl h))
        · exact .inr (.inl h)
        · exact .inr (.inr (.inr h))
      · have q : goneF (u ++ y :: x :: v) (undoF (u ++ x :: y :: v) (.change (u.length : Int))) = u ++ x :: y :: v := g2.2
        exact ⟨⟨g2.1, lg, in_change _⟩, q, by rw [q]; exact lr⟩
    · have := two_no (f := fun x y => !hits x y) c
      rw [canF, this] at hc
      cases hc
  | go a =>
    by_cases c : 0 ≤ a ∧ a < (r.length : Int) - 1
    · obtain ⟨n, u, v, x, y, rfl, hu, rfl, e⟩ := two_split (f := fun x y => decide (y = turned x)) c.1 c.2
      have hh : y = turned x := of_decide_eq_true (e.symm.trans hc)
      subst hh
      subst hu
      have g := (do_go u v x).2
      have g2 := do_come u v x
      have hx := hr x (by simp)
      rw [g] at lg ⊢
      constructor
      · intro z hz
        refine hr z ?_
        simp only [List.mem_append, List.mem_cons] at hz ⊢
        rcases hz with h | h
        · exact .inl h
        · exact .inr (.inr (.inr h))
      · have eu : undoF (u ++ x :: turned x :: v) (.go (u.length : Int)) = .come (u.length : Int) x := by
          show StepT.come (u.length : Int) ((u ++ x :: turned x :: v).getD (u.length : Int).toNat _) = _
          rw [Int.toNat_natCast, List.getD_eq_getElem?_getD, List.getElem?_append_right (Nat.le_refl _), Nat.sub_self]
          rfl
        rw [eu]
        refine ⟨⟨g2.1, lg, fun a h e => ?_⟩, by rw [g2.2]; exact ⟨rfl, lr⟩⟩
        cases e
        exact hx
    · have := two_no (f := fun x y => decide (y = turned x)) c
      rw [canF, this] at hc
      cases hc
def backS : Row → List StepT → List StepT
  | _, [] => []
  | r, s :: ss => undoF r s :: backS (goneF r s) ss
theorem Lead.back {M : Nat} : ∀ {ss : List StepT} {r q : Row}, RowH r → Lead M r ss q → Lead M q (backS r ss).reverse r
  | [], r, q, _, h => ⟨h.1.symm, by rw [← h.1]; exact h.2⟩
  | s :: ss, r, q, hr, h => by
    obtain ⟨h1, h2⟩ := undo_ok h.1.1 hr h.1.2.1 h.2.len h.1.2.2
    show Lead M q (undoF r s :: backS (goneF r s) ss).reverse r
    rw [List.reverse_cons]
    exact (Lead.back h1 h.2).app h2
end SH
namespace DL
open PySem PySem.Spec PyProof.Rows L2
section
variable {P : Program} {w : World} {A : Around} {E : Value → Shared → Prop} {s : Shared}
end
section
variable {X : Cx}
end
section
variable {X : Cx} {e : Expr} {we : DTE} {p p2 pos cpos : Pos}
end
end DL
namespace DL
open PySem PySem.Spec PyProof.Rows L2
abbrev MEnt := Str × PyData
/-- a dict's entries, all plain -/
def mOf (es : List MEnt) : List (Key × R) := es.map fun e => (Sum.inr e.1, R.d e.2)
section
variable {K : PySem.W.Frag} {G H : Hp} {As : List Addr}
end
section
variable {X : Cx} {e : Expr} {we : DTE} {p pos : Pos}
end
noncomputable def wSortDS (wo : DTE) : DTE := fun ρ κ P => wo ρ κ fun ro κ1 => match ro with
  | .c d => ∃ es : List MEnt, κ1[d]? = some (.m (mOf es)) ∧ SortOk (es.map fun e => PyData.str e.1) ∧ P (.f ((es.map fun e => PyData.str e.1).mergeSort dLe)) κ1
  | _ => False
theorem s_sortDS {wo : DTE} {ρ : Rho} {κ : Kap} {P : R → Kap → Prop} : wSortDS wo ρ κ P = wo ρ κ fun ro κ1 => match ro with
  | .c d => ∃ es : List MEnt, κ1[d]? = some (.m (mOf es)) ∧ SortOk (es.map fun e => PyData.str e.1) ∧ P (.f ((es.map fun e => PyData.str e.1).mergeSort dLe)) κ1
  | _ => False := rfl
theorem strs_at : ∀ {vs : List Value} {ks : List Str}, vs.length = ks.length → (∀ (j : Nat) (v : Value), vs[j]? = some v → ∃ (z : Str) (t : Tok), ks[j]? = some z ∧ v = Value.str z t) → Vals (ks.map V.str) vs
  | [], [], _, _ => .nil
  | [], _ :: _, h, _ => by simp at h
  | _ :: _, [], h, _ => by simp at h
  | v :: vs, k :: ks, h, f => by
    obtain ⟨z, t, e1, e2⟩ := f 0 v rfl
    cases e1
    exact .cons ⟨t, e2⟩ (strs_at (by simpa using h) fun j u hj => f (j + 1) u hj)
section
variable {X : Cx}
def rSortKeys (K : PySem.W.Frag) : List V → Hp → VK → Prop := fun xs H Q => ∃ (a : Addr) (kvs : List (Key × V)) (ks : List Str), xs = [.ref a] ∧ Rd H a (.dK kvs) ∧ kvs.map (·.1) = ks.map Sum.inr ∧ SortOk (ks.map PyData.str) ∧
    ∀ (qs : List (V × PyData)) (p : Addr), qs = (ks.map fun z => (V.str z, PyData.str z)).mergeSort (fun x y => dLe x.2 y.2) → H p = none → Q (.ref p) (upd H p (.lst (qs.map (·.1))))
theorem call_sortedDS (hu : X.A.units + 80 < cLine) (hcalm : X.calm = true) : CallR X (.builtin "sorted") (rSortKeys X.K) := by
  intro pins s σ H xs us Q I r q
  obtain ⟨a, kvs, ks, ex, hd, hks, ⟨hal, hk, hdp, hL⟩, q⟩ := q
  subst ex
  obtain ⟨u, eu, rx⟩ := vals1 r
  subst eu
  cases rx
  obtain ⟨z, lo, vs, rel, dd⟩ := dk_rd I.hok hd
  obtain ⟨ep, hat⟩ := dd.dictAt
  have hkeys : vs.map (·.1) = ks.map Sum.inr := rel.keys.symm.trans hks
  have hl : vs.length = ks.length := by
    have e := congrArg List.length hkeys
    rw [List.length_map, List.length_map] at e
    exact e
  rw [List.length_map] at hL
  have h16 : vs.length ≤ sizeLine := by rw [hl]; exact hL
  refine Calls.call_function_entry PyProof.Rows.kind_sorted PyProof.Rows.plain_sorted PyProof.Rows.entry_sorted (PyProof.Rows.args_sorted1 _) ?_
  unfold Builtin.«sorted»
  refine wpAny_bind (m := checkCount "sorted" 1 1 _) (wpAny_pure ?_)
  refine wpAny_bind (PySem.W.kdu_collect (A := X.A.in1) (PySem.W.kdl_dict (knd := mixKind X.prog X.w) (kvs := vs) (ep := ep) lo) (I.ok.hd hcalm) hat h16 fun h' tk acc hkp hacc => ?_)
  have hlen : acc.toList.length = ks.length := by rw [Array.length_toList, hacc.1, hl]
  have rv0 : Vals (ks.map V.str) acc.toList := strs_at hlen fun j v e => by
    obtain ⟨k, x, e1, e2⟩ := hacc.2 j v (by rw [← Array.getElem?_toList]; exact e)
    have e3 : (vs.map (·.1))[j]? = some k := by rw [List.getElem?_map, e1]; rfl
    rw [hkeys, List.getElem?_map] at e3
    cases e4 : ks[j]? with
    | none => rw [e4] at e3; cases e3
    | some y =>
      rw [e4] at e3
      have e5 : Sum.inr y = k := Option.some.inj e3
      subst e5
      rcases keyIs_shape (show keyIs (Sum.inr y) v = true from e2) with ⟨i, t, ek, ev⟩ | ⟨z, t, ek, ev⟩
      · cases ek
      · cases ek
        exact ⟨y, t, rfl, ev⟩
  generalize hps : (ks.map fun z => (V.str z, PyData.str z)) = ps at q
  have ep1 : ps.map (·.1) = ks.map V.str := by rw [← hps, List.map_map]; rfl
  have ep2 : ps.map (·.2) = ks.map PyData.str := by rw [← hps, List.map_map]; rfl
  have rv : Vals (ps.map (·.1)) acc.toList := by rw [ep1]; exact rv0
  have lps : ps.length = ks.length := by rw [← hps, List.length_map]
  rw [← ep2] at hal hk hdp
  have I1 : Inv X pins σ H { s with heap := h', toks := tk } := I.kept hkp
  have hp : ∀ p ∈ ps, Rp X.K H p.1 p.2 := fun p hm => by
    rw [← hps] at hm
    obtain ⟨z, _, rfl⟩ := List.mem_map.mp hm
    exact .str z
  refine wpAny_bind (wpAny_newList ?_ (by rw [hlen]; exact hL))
  have hoL : (h'.push (seqObj "list" acc.toList.toArray 0)).get? h'.objs.size = some (seqObj "list" acc.toList.toArray 0) := Heap.get?_push_size _ rfl
  show wpAny _ _ _ _ _ { s with heap := h'.push (seqObj "list" acc.toList.toArray 0), toks := tk }
  refine wpAny_bind (wpAny_holding (PySem.W.list_sort_data (s := { s with heap := h'.push (seqObj "list" acc.toList.toArray 0), toks := tk }) (R := fun (u : Value) (p : V × PyData) => RelV p.1 u) (enc := fun p : V × PyData => p.2) hoL (each_of rv fun p _ u r => r) (each_of rv fun p hm u r => ?_) hal hk (by rw [lps]; exact hL) (fun b hb => ?_) fun out hol he => ?_))
  · obtain ⟨as, rd⟩ := Dp.reads I1 _ _ _ (Rp.dp _ _ (hp p hm)) r
    have hal1 : PySem.W.alike p.2 p.2 = true := hal _ (List.mem_map.mpr ⟨p, hm, rfl⟩) _ (List.mem_map.mpr ⟨p, hm, rfl⟩)
    refine ⟨as, PyProof.Rows.Reads.keeps (fun b o e => Heap.get?_push_of_some _ e) rd, fun hin => ?_⟩
    obtain ⟨o2, e⟩ := rd_old _ _ _ hal1 rd _ hin
    exact Nat.lt_irrefl _ (Heap.lt_size e)
  · have := hdp b.2 (List.mem_map.mpr ⟨b, hb, rfl⟩)
    show X.A.units + 1 + 1 + _ < _
    omega
  · have e0 : ps.mergeSort (PySem.W.dataLe false fun p : V × PyData => p.2) = ps.mergeSort (fun x y => dLe x.2 y.2) := rfl
    rw [e0] at he
    have rv2 := of_each he
    obtain ⟨e', he'⟩ := PyProof.Rows.sortedHeap_at (vs := acc.toList) (out := out.toArray) hoL
    have hlen2 : ((ps.mergeSort (fun x y => dLe x.2 y.2)).map (·.1)).length ≤ sizeLine := by
      rw [List.length_map, List.length_mergeSort, lps]
      exact hL
    refine wpAny_pure ⟨_, rfl, .ref h'.objs.size, upd H h'.objs.size (.lst ((ps.mergeSort (fun x y => dLe x.2 y.2)).map (·.1))), I1.laid (t' := tk) (fun b u e => ?_) (Nat.le_refl _) ⟨hlen2, out, e', rv2, he'⟩, rfl, q _ _ rfl (I1.hok.fresh (Nat.le_refl _))⟩
    have hb : b < h'.objs.size := Heap.lt_size e
    show (PyProof.Rows.sortedHeap (h'.push (seqObj "list" acc.toList.toArray 0)) h'.objs.size acc.toList out.toArray).get? b = some u
    rw [PyProof.Rows.sortedHeap_old (Nat.ne_of_lt hb) (by rw [size_push']; exact Nat.lt_succ_of_lt hb)]
    exact Heap.get?_push_of_some _ e
end
theorem mOf_keys (es : List MEnt) : (mOf es).map (·.1) = (es.map (·.1)).map Sum.inr := by
  unfold mOf
  rw [List.map_map, List.map_map]
  rfl
theorem rpa_sorted {K : PySem.W.Frag} {G : Hp} {ps : List (V × PyData)} (h : ∀ p ∈ ps, Rp K G p.1 p.2) : RpA K G ((ps.mergeSort fun x y => dLe x.2 y.2).map (·.1)) ((ps.map (·.2)).mergeSort dLe) := by
  rw [← List.map_mergeSort (f := fun p : V × PyData => p.2) (r := fun x y => dLe x.2 y.2) (s := dLe) (fun a _ b _ => rfl)]
  exact rpa_of fun p hp => h p ((List.mergeSort_perm _ _).mem_iff.mp hp)
section
variable {X : Cx} {e : Expr} {we : DTE} {p pos : Pos}
theorem de_sortDS (hc : X.calm = true) (hu : X.A.units + 80 < cLine) (hm : X.mg "sorted" = none) (he : DE X e we) (hg : Gl X "sorted" := by rfl) (h1 : starEach [e] X.env = (false, eval e X.env) :: starEach [] X.env := by rfl)
    (h4 : (backTo pos (starEach [] X.env)).any (·.1) = false := by rfl) :
    DE X (.Call (.Name "sorted" p) [e] [] pos) (wSortDS we) := by
  obtain ⟨t, pt, he⟩ := he
  refine ⟨_, pe_callB (call_sortedDS hu hc) hg hm (by decide +kernel) (pa_cons pt pa_nil h1) (by decide) (by decide) h1 h4, fun G H As σ ρ κ P Q c pl w k => ?_⟩
  refine he G H As σ ρ κ _ _ c pl w fun v r G1 H1 As1 κ1 s1 c1 p1 i1 w1 => ?_
  cases r with
  | c d =>
    obtain ⟨a, ha, rfl⟩ := i1
    obtain ⟨es, hk, hso, w2⟩ := w1
    obtain ⟨g0, kvs, hq, mp⟩ := c1.ok d _ a hk ha
    have e1 : (es.map fun e => PyData.str e.1) = (es.map (·.1)).map PyData.str := by rw [List.map_map]; rfl
    refine ⟨a, kvs, es.map (·.1), rfl, .inl hq, (mp_keys mp).trans (mOf_keys es), by rw [← e1]; exact hso, fun qs u hqs hu => ?_⟩
    have rp := rpa_sorted (K := X.K) (G := G1) (ps := (es.map (·.1)).map fun z => (V.str z, PyData.str z)) fun p hp => by
      obtain ⟨z, _, rfl⟩ := List.mem_map.mp hp
      exact .str z
    rw [← hqs] at rp
    have e2 : ((es.map (·.1)).map fun z => (V.str z, PyData.str z)).map (·.2) = es.map fun e => PyData.str e.1 := by rw [List.map_map, List.map_map]; rfl
    rw [e2] at rp
    have st := s1.trans (Step.fresh (o := .lst (qs.map (·.1))) hu)
    exact k (.ref u) (.f _) G1 _ As1 κ1 st (c1.fresh hu) (pl.step st) ⟨u, _, rfl, s1.dom u hu, c1.ext.free hu, c1.notin hu, upd_same, rp⟩ w2
  | _ => exact w1.elim
end
section
variable {X : Cx} {pos : Pos} {o i : Expr} {wo wi : DTE}
end
section
variable {K : PySem.W.Frag} {G H G' H' : Hp} {As : List Addr} {κ : Kap} {es : List MEnt} {k : Nat} {a : Addr} {v : V} {r : R}
theorem mp_plain {As' : List Addr} : ∀ {es : List MEnt} {kvs : List (Key × V)}, Mp K G As kvs (mOf es) → Mp K G As' kvs (mOf es)
  | [], _, h => by cases h; exact .nil
  | e :: es, _, h => by
    cases h with
    | cons q t => exact .cons ⟨q.1, q.2⟩ (mp_plain t)
theorem Cells.oneM (c : Cells K G H As κ) (hk : κ[k]? = some (.m (mOf es))) (ha : As[k]? = some a) : Cells K G H [a] [.m (mOf es)] where
  ext := c.ext
  tab := c.tab
  len := rfl
  nd := by simp
  al := fun b h => by
    rw [List.mem_singleton] at h
    subst h
    exact c.al b (List.mem_of_getElem? ha)
  ok := fun j x b e1 e2 => by
    cases j with
    | zero =>
      cases e1
      cases e2
      obtain ⟨g0, kvs, hq, mp⟩ := c.ok k _ _ hk ha
      exact ⟨g0, kvs, hq, mp_plain mp⟩
    | succ j => simp at e1
theorem Cells.lentM (c : Cells K G H As κ) (hk : κ[k]? = some (.m (mOf es))) (ha : As[k]? = some a) (s : Step G H [a] G' H' [a]) (c1 : Cells K G' H' [a] [.m (mOf es)]) : Cells K G' H' As κ where
  ext := c1.ext
  tab := c1.tab
  len := c.len
  nd := c.nd
  al := fun b h => by
    obtain ⟨o, q⟩ := c.al b h
    cases z : H' b with
    | none => rw [s.dom b z] at q; cases q
    | some u => exact ⟨u, rfl⟩
  ok := fun j x b e1 e2 => by
    by_cases hj : j = k
    · subst hj
      rw [ha] at e2; cases e2
      rw [hk] at e1; cases e1
      obtain ⟨g0, kvs, hq, mp⟩ := c1.ok 0 _ _ rfl rfl
      exact ⟨g0, kvs, hq, mp_plain mp⟩
    · have w := c.ok j x b e1 e2
      have ne : b ≠ a := fun z => hj (by
        subst z
        obtain ⟨l1, q1⟩ := List.getElem?_eq_some_iff.mp e2
        obtain ⟨l2, q2⟩ := List.getElem?_eq_some_iff.mp ha
        exact (List.getElem_inj c.nd).mp (q1.trans q2.symm))
      have ni : b ∉ [a] := by rw [List.mem_singleton]; exact ne
      cases x with
      | l ds' =>
        obtain ⟨w1, ws, w2, w3⟩ := w
        refine ⟨?_, ws, s.fr b _ ni (wo_lst ws).1 w2, RpA.mono s.ex _ _ w3⟩
        rcases s.gn b w1 with z | z | z | ⟨ys, z⟩
        · exact z
        · rw [w2] at z; cases z
        · exact absurd z ni
        · have q := s.fr b _ ni (wo_lst ws).1 w2
          rw [z] at q
          cases q
      | m es' =>
        obtain ⟨w1, ws, w2, w3⟩ := w
        refine ⟨?_, ws, s.fr b _ ni (wo_dK ws).1 w2, w3.mono s.ex ⟨[], by simp⟩⟩
        rcases s.gn b w1 with z | z | z | ⟨ys, z⟩
        · exact z
        · rw [w2] at z; cases z
        · exact absurd z ni
        · have q := s.fr b _ ni (wo_dK ws).1 w2
          rw [z] at q
          cases q
      | z x => exact Rp.mono s.ex _ _ w
      | k es => exact ItH.mono s.ex w
      | x u =>
        obtain ⟨w1, w2, w3⟩ := w
        refine ⟨?_, s.fr b _ ni w3.1 w2, w3⟩
        rcases s.gn b w1 with z | z | z | ⟨ys, z⟩
        · exact z
        · rw [w2] at z; cases z
        · exact absurd z ni
        · have q := s.fr b _ ni w3.1 w2
          rw [z] at q
          exact (w3.2.2 ys (Option.some.inj q).symm).elim
end
/-- the first argument is a dict that lives and is only read -/
def spM (K : PySem.W.Frag) (n : Nat) (Φ : List MEnt → List R → (R → Prop) → Prop) : Sp := fun vs H Q _ => vs.length = n ∧ ∃ (G : Hp) (a : Addr) (ws : List V) (es : List MEnt) (rs : List R) (P : R → Prop),
  vs = .ref a :: ws ∧ Cells K G H [a] [.m (mOf es)] ∧ Paired (It K G []) ws rs ∧ Φ es rs P ∧
  ∀ v r G' H', P r → Cells K G' H' [a] [.m (mOf es)] → Step G H [a] G' H' [a] → Rv K H G' H' [a] v r → Q v H'
def wCallM (Φ : List MEnt → List R → (R → Prop) → Prop) (wa : DTA) : DTE := fun ρ κ P => wa ρ κ fun rs κ1 => match rs with
  | .c k :: rs => Opt (args κ1 rs) fun q => ∃ es : List MEnt, q.2[k]? = some (.m (mOf es)) ∧ Φ es q.1 fun r => P (r.lab k) q.2
  | _ => False
theorem s_callM {Φ : List MEnt → List R → (R → Prop) → Prop} {wa : DTA} {ρ : Rho} {κ : Kap} {P : R → Kap → Prop} : wCallM Φ wa ρ κ P = wa ρ κ fun rs κ1 => match rs with
  | .c k :: rs => Opt (args κ1 rs) fun q => ∃ es : List MEnt, q.2[k]? = some (.m (mOf es)) ∧ Φ es q.1 fun r => P (r.lab k) q.2
  | _ => False := rfl
section
variable {X : Cx} {CX : CXT} {k : Nat} {f : Addr} {fd : FuncData} {ps : List Str} {n : Nat} {E : XK} {x : Str} {p pos : Pos} {e : Expr} {es : List Expr} {wr : DTA}
theorem de_callM {Φ : List MEnt → List R → (R → Prop) → Prop} (F : FnG X.prog X.w X.K X.mg X.base CX k f fd ps (spM X.K n Φ)) (hr : RoomG k X.A) (hm : X.mg x = some (.ref f)) (hk : PySem.W.keepIn X.K (.ref f) = true) (hb : Binds X.K fd ps []) (hx : Passes CX X E)
    (hn : n = (e :: es).length) (ha : DA X (e :: es) wr) (hg : Gl X x := by rfl) (hdb : (x == ("__debug__" : Str)) = false := by decide) (he : starEach (e :: es) X.env = (false, eval e X.env) :: starEach es X.env := by rfl) (hpl : (backTo pos (starEach es X.env)).any (·.1) = false := by rfl) :
    DE X (.Call (.Name x p) (e :: es) [] pos) (wCallM Φ wr) := by
  obtain ⟨t, pt, h⟩ := ha
  refine ⟨_, pe_callG F hr hg hm hk hb .nil hx pt hdb he hpl, fun G H As σ ρ κ P Q c pl w kk => ?_⟩
  refine h G H As σ ρ κ _ _ c pl w fun vs rs G1 H1 As1 κ1 s1 c1 p1 i1 el w1 => ?_
  cases rs with
  | nil => exact w1.elim
  | cons r rs =>
    cases r with
    | c kk' =>
      cases i1 with
      | cons i1 i1r =>
        obtain ⟨⟨ys, κ3⟩, q2, es', q3, w2⟩ := Opt.ex w1
        obtain ⟨G2, s2, c2, i2⟩ := args_ok c1 i1r q2
        obtain ⟨a, ha1, rfl⟩ := i1
        rw [List.append_nil]
        refine ⟨by rw [List.length_cons, Paired.length i1r, hn]; exact el, G2, a, _, _, _, _, rfl, c2.oneM q3 ha1, i2, w2, fun v r G' H' hP hE s3 rv => ?_⟩
        have st : Step G H As G' H' As1 := (s1.trans s2).trans (s3.lent (List.mem_of_getElem? ha1))
        exact kk v _ G' H' As1 _ st (c2.lentM q3 ha1 s3 hE) (pl.step st) ((rv.lent c2 ha1).back (s1.trans s2)) hP
    | _ => exact w1.elim
end
section
variable {X : Cx} {k n : Nat} {ps : List Str} {x : Str} {p pos : Pos} {e : Expr} {es : List Expr} {wr : DTA}
theorem de_callC_M {Φ : List MEnt → List R → (R → Prop) → Prop} (C : Cal X.prog X.w X.K X.mg X.base x k ps (spM X.K n Φ)) (hr : RoomG k X.A) (hn : n = (e :: es).length) (ha : DA X (e :: es) wr) (hg : Gl X x := by rfl) (hdb : (x == ("__debug__" : Str)) = false := by decide)
    (he : starEach (e :: es) X.env = (false, eval e X.env) :: starEach es X.env := by rfl) (hpl : (backTo pos (starEach es X.env)).any (·.1) = false := by rfl) : DE X (.Call (.Name x p) (e :: es) [] pos) (wCallM Φ wr) := by
  obtain ⟨f, fd, F, hm, hk, hb⟩ := C.ex
  exact de_callM F hr hm hk hb pass0 hn ha hg hdb he hpl
end
def endM (es : List MEnt) (κ : Kap) (r : R) (Pd : R → Prop) : Prop := κ[(0 : Nat)]? = some (.m (mOf es)) ∧ Opt (outR κ 1 r) Pd
section
variable {P : Program} {w : World} {K : PySem.W.Frag} {mg : Str → Option Value} {base : Heap} {x qual : Str} {st : Stmt} {f : Addr} {fd : FuncData} {N ps : List Str} {k : Nat}
theorem dfnM {Φ : List MEnt → List R → (R → Prop) → Prop} {n : Nat} (F : Fun K x qual st f fd) (S : FnScope N ps (defScope st)) (hn : ps.length = n + 1)
    (hb : ∀ (cdv : Value) (A : Around) (outer : List Env) (s : Shared) (H : Hp) (E : XK), RoomG k (A.deeper (envOfC qual (defScope st) s.heap.objs.size f cdv)) →
      ∃ wd, DSs (cxOf CX0 P w K mg base N qual (defScope st) f cdv A outer s H E).nox (defBody st) wd ∧ ∀ es rs Pd, Φ es rs Pd → rs.length = n → wd { nx := fun _ κ => endM es κ (.d .none) Pd, rt := fun r κ => endM es κ r Pd } (some (.c 0) :: (rs.map some ++ List.replicate (N.length - ps.length) none)) [.m (mOf es)]) :
    FnG P w K mg base CX0 (k + 1) f fd ps (spM K ps.length Φ) := by
  refine Fun.okG F S (fun vs H Q E h => h.1) (fun cdv A outer s H vs Q E hr h => ?_)
  obtain ⟨hl, G, a, ws, es, rs, Pd, rfl, c0, i0, hΦ, kk⟩ := h
  obtain ⟨wd, ⟨t, pt, ht⟩, hw⟩ := hb cdv A outer s H E hr
  have hl2 : rs.length = n := by
    have e1 := Paired.length i0
    rw [List.length_cons] at hl
    omega
  refine ⟨t, pt, ?_⟩
  have i1 : Paired (It K G [a]) (V.ref a :: ws) (R.c 0 :: rs) := .cons ⟨a, rfl, rfl⟩ (Paired.mapP i0 fun _ _ z => z.mono (Ex.refl G) ⟨[a], rfl⟩)
  have p0 := places_start i1 (N.length - ps.length)
  have one : ∀ {G' H' As' κ'}, Step G H [a] G' H' As' → Cells K G' H' As' κ' → κ'[0]? = some (.m (mOf es)) → Cells K G' H' [a] [.m (mOf es)] := fun s' c' e => by
    obtain ⟨zs, ez⟩ := s'.pre
    exact c'.oneM e (by rw [ez]; rfl)
  unfold L2.start
  rw [hl]
  refine ht G H [a] _ _ [.m (mOf es)] _ _ c0 p0 (hw es rs Pd hΦ hl2) ⟨fun σ' ρ' G' H' As' κ' s' c' _ q => ?_, fun _ _ _ _ _ _ _ _ _ q => q.elim, fun _ _ _ _ _ _ _ _ _ q => q.elim, fun v r G' H' As' κ' s' c' rv q => ?_⟩
  · obtain ⟨e, q⟩ := q
    exact kk .non (.d .none) G' H' q (one s' c' e) s'.short .non
  · obtain ⟨e0, q⟩ := q
    obtain ⟨r', e, q⟩ := q.ex
    exact kk v r' G' H' q (one s' c' e0) s'.short (out_rv rfl s' c' rv e)
end
open PySem.SeqAt (EqP)
open PySem.Calls PyProof.V
section
variable {prog : Program} {w : World} {K : Type} [DecidableEq K] {knd : KeyKind prog w K} {A : Around} {E : Value → Shared → Prop} {s : Shared}
end
def lookS (es : List MEnt) (z : Str) : Option PyData := (es.find? fun e => decide (e.1 = z)).map (·.2)
theorem lookM_of (es : List MEnt) (z : Str) : lookM (mOf es) (.inr z) = (lookS es z).map R.d := by
  induction es with
  | nil => rfl
  | cons e es ih =>
    unfold lookM lookS mOf at ih ⊢
    rw [List.map_cons, List.find?_cons, List.find?_cons]
    by_cases c : e.1 = z
    · rw [c]
      simp
    · have : ¬ ((Sum.inr e.1 : Key) = Sum.inr z) := fun h => c (Sum.inr.inj h)
      simp only [this, c, decide_false]
      exact ih
section
variable {X : Cx} {pins : List (Addr × Obj)} {σ : L2.St} {H : Hp} {s : Shared}
end
section
variable {X : Cx} {a b : Expr} {wa wb : DTE} {pos : Pos}
end
end DL
namespace DL
open PySem PySem.Spec PyProof.Rows L2
section
variable {X : Cx} {a b : Expr} {wa wb : DTE} {pos : Pos}
end
end DL
namespace DL
open PySem PySem.Spec PyProof.Rows L2
section
variable {X : Cx} {o a i : Expr} {wo wa wi ws : DTE} {apos cpos pos : Pos}
end
end DL
namespace L2
open PySem PySem.Spec PyProof.Rows
section
variable {X : Cx} {tg : Expr}
end
end L2
namespace DL
open PySem PySem.Spec PyProof.Rows L2
section
variable {X : Cx} {tg a b e : Expr} {wr : DTA} {p pos : Pos}
end
end DL
namespace SH
open PySem PySem.Spec PyProof.Rows L2 DL
theorem RowH.inn {r : Row} (h : RowH r) : RowIn r := fun x hx => (h x hx).row
section
variable {E : DEnds} {ok : Kap → Prop} {κ : Kap} {p0 p1 p2 : Option R} {h : Hook}
end
end SH
namespace SH
open PySem PySem.Spec PyProof.Rows L2 DL
section
variable {E : DEnds} {ok : Kap → Prop} {κ : Kap} {p0 p1 p2 p3 p4 p5 p6 p7 p8 p9 : Option R}
end
end SH
namespace SH
open PySem PySem.Spec PyProof.Rows L2 DL
section
variable {E : DEnds} {ok : Kap → Prop} {κ : Kap} {p0 p1 p2 p3 p4 p5 p6 p7 p8 p9 : Option R}
end
end SH
namespace SH
open PySem PySem.Spec PyProof.Rows L2 DL
theorem RowH.settled {r : Row} (h : RowH r) : RowH (settledF r) := fun x hx => h x (settled_mem hx)
section
variable {E : DEnds} {ok : Kap → Prop} {p0 p1 : Option R}
end
end SH
namespace SH
open PySem PySem.Spec PyProof.Rows L2 DL
/-- bare without any of its ropes, on these alone -/
structure PureFor (S : List Str) (r : Row) : Prop where
  on : ∀ x ∈ r, x.1 ∈ S ∧ x.2.1 ∈ S
  bare : ∀ U : List Str, (∃ z ∈ S, z ∉ U) → pile (keptF r U) = pile []
theorem PureFor.nil (S : List Str) : PureFor S [] := ⟨(fun _ h => nomatch h), fun _ _ => rfl⟩
theorem PureFor.least {S : List Str} {r : Row} (p : PureFor S r) : PureFor S (leastF r) := ⟨fun x hx => p.on x (least_mem hx), fun U h => by
  rw [kept_same U (pile_least r)]
  exact p.bare U h⟩
section
variable {ns : List Str} {F : List Str → Row}
end
end SH
namespace SH
open PySem PySem.Spec PyProof.Rows L2 DL
def nl (r : Row) : Nat := (leastF r).length
theorem nl_same {r q : Row} (e : pile r = pile q) : nl r = nl q := by unfold nl; rw [least_same e]
theorem nl_le (r : Row) : nl r ≤ r.length := least_len r
theorem nl_settled (r : Row) : nl r = (settledF r).length := lines_len (first_lines (settledF r))
def Tight (r : Row) : Prop := nl r = r.length
theorem hits_tl (g k : Hook) : hits (turned g) k = hits g k := by rw [hits_symm, hits_t, hits_symm]
theorem red_rev {ρ : Row} (R : Red ρ) : Red ρ.reverse := fun x g y z e => by
  have e2 : ρ = z.reverse ++ turned g :: (y.reverse ++ turned (turned g) :: x.reverse) := by
    have := congrArg List.reverse e
    rw [List.reverse_reverse] at this
    rw [this, turned2]
    simp
  obtain ⟨k, hk, h⟩ := R _ _ _ _ e2
  rw [hits_tl] at h
  exact ⟨k, List.mem_reverse.mp hk, h⟩
theorem red_tight {r : Row} (R : Red r) : Tight r := by
  have := nf_red (red_rev R)
  rw [List.reverse_reverse] at this
  unfold Tight
  rw [nl_settled, settled_nf, this, List.reverse_reverse]
theorem free_past {g : Hook} {y : Row} (h : ∀ k ∈ y, hits g k = false) (x z : Row) : pile (x ++ g :: (y ++ z)) = pile (x ++ (y ++ g :: z)) := by
  have e := pile_app2 (x := x) (pile_app1 (y := z) (pile_past h))
  simpa using e
theorem tight_red {r : Row} (t : Tight r) : Red r := fun x g y z e => by
  refine Classical.byContradiction fun hn => ?_
  have hf : ∀ k ∈ y, hits g k = false := fun k hk => by
    cases c : hits g k with
    | false => rfl
    | true => exact absurd ⟨k, hk, c⟩ hn
  have e1 : pile r = pile (x ++ (y ++ z)) := by
    rw [e, free_past hf]
    have := pile_come (x ++ y) z g
    simpa using this
  have l := nl_le (x ++ (y ++ z))
  rw [← nl_same e1, t, e] at l
  simp only [List.length_append, List.length_cons] at l
  omega
theorem Tight.mid {a b c : Row} (t : Tight (a ++ b ++ c)) : Tight b := red_tight fun x g y z e => tight_red t (a ++ x) g y (z ++ c) (by rw [e]; simp)
theorem Tight.left {a b : Row} (t : Tight (a ++ b)) : Tight a := Tight.mid (a := []) (c := b) (by simpa using t)
theorem Tight.right {a b : Row} (t : Tight (a ++ b)) : Tight b := Tight.mid (a := a) (c := []) (by simpa using t)
def First (h : Hook) (u : Row) : Prop := ∃ A B, u = A ++ h :: B ∧ ∀ x ∈ A, hits h x = false
def Last (h : Hook) (u : Row) : Prop := ∃ A B, u = A ++ h :: B ∧ ∀ x ∈ B, hits h x = false
def NoPeel (u : Row) : Prop := ∀ h, First h u → ¬ Last (turned h) u
def rp (n : Nat) (r : Row) : Row := (List.replicate n r).flatten
end SH
namespace SH
open PySem PySem.Spec PyProof.Rows L2 DL
/-- what is taken off, what is left -/
structure Core (r l u : Row) : Prop where
  same : pile r = pile (l ++ u ++ back l)
  many : 2 * l.length + u.length = nl r
  no : NoPeel u
theorem Core.tight {r l u : Row} (c : Core r l u) : Tight (l ++ u ++ back l) := by
  unfold Tight
  rw [← nl_same c.same, ← c.many]
  rw [List.length_append, List.length_append, back_len]
  omega
/-- many times over, either way -/
def rz (n : Int) (r : Row) : Row := if 0 ≤ n then rp n.natAbs r else rp n.natAbs (back r)
end SH
namespace SH
open PySem PySem.Spec PyProof.Rows L2 DL
section
variable {ns : List Str} {row r q x : Row} {rope z : Str}
end
end SH
namespace SH
open PySem PySem.Spec PyProof.Rows L2 DL
abbrev Wish := Str → List (List Str)
/-- none of another rope's wished sets lies within a rope and its hold -/
def wantB (W : Wish) (rope : Str) (hold : List Str) (other : Str) : Bool := !((W other).any fun s => withinF s (hold ++ [rope]))
/-- the wish can be asked: sets of others, rising -/
structure WishOk (ns : List Str) (W : Wish) : Prop where
  sub : ∀ z ∈ ns, ∀ h ∈ W z, h.Sublist ns ∧ z ∉ h ∧ 1 ≤ h.length
  few : ∀ z ∈ ns, (W z).length ≤ 300
/-- each rope's sets are least ones, in order -/
def WishLow (ns : List Str) (W : Wish) : Prop := ∀ z ∈ ns, (W z).Pairwise (fun a b => leLen a b = true) ∧ (W z).Nodup ∧ ∀ s ∈ W z, ∀ t ∈ W z, withinF t s = true → t = s
def withR (hold : List Str) (rope : Str) : List Str := (hold ++ [rope]).mergeSort strLe
section
variable {ns : List Str} {W : Wish}
theorem withR_mem {hold : List Str} {rope z : Str} : z ∈ withR hold rope ↔ z ∈ hold ∨ z = rope := by
  unfold withR
  rw [(List.mergeSort_perm _ _).mem_iff, List.mem_append, List.mem_singleton]
end
end SH
namespace SH
open PySem PySem.Spec PyProof.Rows L2 DL
/-- a wish as a dict -/
def wishE (ns : List Str) (W : Wish) : List MEnt := ns.map fun z => (z, .list ((W z).map strsD))
theorem look_wish {W : Wish} {z : Str} : ∀ {ns : List Str}, z ∈ ns → lookS (wishE ns W) z = some (.list ((W z).map strsD))
  | y :: ns, h => by
    unfold wishE lookS
    rw [List.map_cons, List.find?_cons]
    by_cases e : y = z
    · subst e
      simp
    · have hz : z ∈ ns := (List.mem_cons.mp h).resolve_left fun q => e q.symm
      have ih := look_wish (W := W) hz
      unfold wishE lookS at ih
      simp only [e, decide_false]
      exact ih
theorem lookM_wish {W : Wish} {z : Str} {ns : List Str} (h : z ∈ ns) : lookM (mOf (wishE ns W)) (.inr z) = some (.d (.list ((W z).map strsD))) := by
  rw [lookM_of, look_wish h]
  rfl
theorem s_getD2 {wo wi : DTE} {ρ : Rho} {κ : Kap} {P : R → Kap → Prop} : wGetD wo wi ρ κ P = wo ρ κ fun ro κ1 => match ro with
  | .c d => wi ρ κ1 fun ri κ2 => match ri, κ2[d]? with
    | .d x, some (.m es) => Opt (keyD x) fun q => Opt (lookM es q) fun r => P r κ2
    | _, _ => False
  | _ => False := rfl
/-- wish[z] -/
theorem get_wish {ns : List Str} {W : Wish} {ρ : Rho} {κ : Kap} {P : R → Kap → Prop} {i j k : Nat} {z : Str} (h1 : ρ[i]? = some (some (.c k))) (h2 : ρ[j]? = some (some (.d (.str z)))) (h3 : κ[k]? = some (.m (mOf (wishE ns W)))) (hz : z ∈ ns) (p : P (.d (.list ((W z).map strsD))) κ) : wGetD (wVar i) (wVar j) ρ κ P := by
  rw [s_getD2, s_var, h1]
  dsimp only
  rw [s_var, h2]
  dsimp only
  rw [h3]
  show Opt (some (Sum.inr z)) _
  rw [Opt_some, lookM_wish hz, Opt_some]
  exact p
theorem keys_wish (ns : List Str) (W : Wish) : ((wishE ns W).map fun e => PyData.str e.1) = ns.map .str := by
  unfold wishE
  rw [List.map_map]
  rfl
def Ph_with_rope (rs : List R) (P : R → Prop) : Prop := ∃ (hold : List Str) (rope : Str) (D : PyData), NmD D hold ∧ rs = [.d D, .d (.str rope)] ∧ hold.length ≤ 1000 ∧ P (.d (strsD (withR hold rope)))
/-- with_rope -/
def w_with_rope : DTS := (wRet (wCB tupC (wCons (wCB sortC (wCons (wBin addD (wCB listC (wCons (wVar 0) wNil)) (wLst (wCons (wVar 1) wNil))) wNil)) wNil)))
theorem r_with_rope (rs : List R) (Pd : R → Prop) (h : Ph_with_rope rs Pd) (hl : rs.length = 2) : w_with_rope { nx := fun _ _ => Pd (.d .none), rt := fun r κ => Opt (outR κ 0 r) Pd } (rs.map some ++ List.replicate 0 none) [] := by
  obtain ⟨hold, rope, D, hD, rfl, lh, k⟩ := h
  clear hl
  have hz := sizeLine_eq
  simp only [List.map_cons, List.map_nil, List.replicate_zero, List.append_nil]
  unfold w_with_rope
  have ea : addD (.list (hold.map .str)) (.list [.str rope]) = some (.n ((hold ++ [rope]).map .str)) := by
    rw [addD_list (by rw [hz, List.length_map]; simp; omega), List.map_append]
    rfl
  have es : sortC [.list ((hold ++ [rope]).map .str)] = some (.n ((withR hold rope).map .str)) := by
    rw [sortC_list (sortOk_strs (by rw [hz]; simp; omega)), sort_strs]
    rfl
  rw [s_ret]
  obtain ⟨hD1, hD2⟩ := hD
  rcases hD1 with rfl | rfl
  all_goals
    simp only [s_callL, s_call, s_cons, s_consM, s_nil, s_c, s_var, s_bin, s_un, s_lst, s_tup, s_cb, s_B, s_tru, s_not, s_repr, List.getElem?_cons_succ, List.getElem?_cons_zero, List.set_cons_succ, List.set_cons_zero, st_d, st_f, st_c, val_d, val_f, dats_d, dats_nil, vals_cons, vals_nil, lend_c, args_d, DL.args_nil, Opt_some, out_v, out_n, out_t, lab_d, lab_f, sto_f, sto_d, List.length_cons, List.length_nil, lenD_list, lenD_tuple, listC_list, listC_tuple, tupC_list, tupC_tuple, istt, istf, Bool.not_true, Bool.not_false, Bool.false_eq_true, if_false, if_true]
    refine ⟨by omega, ?_⟩
    simp only [s_callL, s_call, s_cons, s_consM, s_nil, s_c, s_var, s_bin, s_un, s_lst, s_tup, s_cb, s_B, s_tru, s_not, s_repr, List.getElem?_cons_succ, List.getElem?_cons_zero, List.set_cons_succ, List.set_cons_zero, st_d, st_f, st_c, val_d, val_f, dats_d, dats_nil, vals_cons, vals_nil, lend_c, args_d, DL.args_nil, Opt_some, out_v, out_n, out_t, lab_d, lab_f, sto_f, sto_d, List.length_cons, List.length_nil, lenD_list, lenD_tuple, listC_list, listC_tuple, tupC_list, tupC_tuple, istt, istf, Bool.not_true, Bool.not_false, Bool.false_eq_true, if_false, if_true, ea, es, outR_d]
    exact k
theorem ph_with {hold : List Str} {rope : Str} {P : R → Prop} (h : ∀ z ∈ hold, IsName z) (l : hold.length ≤ 1000) (k : P (.d (strsD (withR hold rope)))) : Ph_with_rope [.d (strsD hold), .d (.str rope)] P := ⟨hold, rope, _, ⟨.inr rfl, h⟩, rfl, l, k⟩
theorem within_withR {s hold : List Str} {rope : Str} : withinF s (withR hold rope) = withinF s (hold ++ [rope]) := by
  rw [Bool.eq_iff_iff, within_iff, within_iff]
  exact ⟨fun h z hz => by rw [List.mem_append, List.mem_singleton]; exact withR_mem.mp (h z hz), fun h z hz => withR_mem.mpr (by have := h z hz; rw [List.mem_append, List.mem_singleton] at this; exact this)⟩
def Ph_is_wanting (es : List MEnt) (rs : List R) (P : R → Prop) : Prop := ∃ (ns : List Str) (W : Wish) (rope : Str) (hold : List Str) (other : Str), es = wishE ns W ∧ rs = [.d (.str rope), .d (strsD hold), .d (.str other)] ∧ other ∈ ns ∧ Small (W other) ∧ (W other).length ≤ 1000 ∧ (∀ z ∈ hold, IsName z) ∧ hold.length ≤ 900 ∧ IsName rope ∧ P (.d (.bool (wantB W rope hold other)))
abbrev Ph_law_wanting := Ph_is_wanting
/-- is_wanting -/
def w_is_wanting : DTS := (wRet (wNotV (wCB (allC fun bs => bs.any id) (wCons (wLc (wSq (wGetD (wVar 0) (wVar 3))) (wName 4) wYes (wCall Ph_is_within (wCons (wVar 4) (wCons (wCall Ph_with_rope (wCons (wVar 2) (wCons (wVar 1) wNil))) wNil))) [4]) wNil))))
theorem endM_d {es : List MEnt} {κ : Kap} {x : PyData} {Pd : R → Prop} (h : κ[(0 : Nat)]? = some (.m (mOf es))) (k : Pd (.d x)) : endM es κ (.d x) Pd := ⟨h, k⟩
theorem r_is_wanting (es : List MEnt) (rs : List R) (Pd : R → Prop) (h : Ph_is_wanting es rs Pd) (hl : rs.length = 3) : w_is_wanting { nx := fun _ κ => endM es κ (.d .none) Pd, rt := fun r κ => endM es κ r Pd } (some (.c 0) :: (rs.map some ++ List.replicate 1 none)) [.m (mOf es)] := by
  obtain ⟨ns, W, rope, hold, other, rfl, rfl, ho, sm, lw, hn, lh, hr, k⟩ := h
  clear hl
  have hz := sizeLine_eq
  simp only [List.map_cons, List.map_nil, List.replicate_succ, List.replicate_zero, List.cons_append, List.nil_append]
  unfold w_is_wanting
  have hnm : ∀ z ∈ withR hold rope, IsName z := fun z hz => by
    rcases withR_mem.mp hz with q | q
    · exact hn z q
    · rw [q]; exact hr
  rw [s_ret]
  simp only [s_callL, s_call, s_cons, s_consM, s_nil, s_c, s_var, s_bin, s_un, s_lst, s_tup, s_cb, s_B, s_tru, s_not, s_repr, List.getElem?_cons_succ, List.getElem?_cons_zero, List.set_cons_succ, List.set_cons_zero, st_d, st_f, st_c, val_d, val_f, dats_d, dats_nil, vals_cons, vals_nil, lend_c, args_d, DL.args_nil, Opt_some, out_v, out_n, out_t, lab_d, lab_f, sto_f, sto_d, List.length_cons, List.length_nil, lenD_list, lenD_tuple, listC_list, listC_tuple, tupC_list, tupC_tuple, istt, istf, Bool.not_true, Bool.not_false, Bool.false_eq_true, if_false, if_true, s_notV, s_lc, s_sq]
  refine get_wish rfl rfl rfl ho ?_
  simp only [s_callL, s_call, s_cons, s_consM, s_nil, s_c, s_var, s_bin, s_un, s_lst, s_tup, s_cb, s_B, s_tru, s_not, s_repr, List.getElem?_cons_succ, List.getElem?_cons_zero, List.set_cons_succ, List.set_cons_zero, st_d, st_f, st_c, val_d, val_f, dats_d, dats_nil, vals_cons, vals_nil, lend_c, args_d, DL.args_nil, Opt_some, out_v, out_n, out_t, lab_d, lab_f, sto_f, sto_d, List.length_cons, List.length_nil, lenD_list, lenD_tuple, listC_list, listC_tuple, tupC_list, tupC_tuple, istt, istf, Bool.not_true, Bool.not_false, Bool.false_eq_true, if_false, if_true, wipeR_cons, wipeR_nil]
  refine lc_map strsD (fun s => .bool (withinF s (hold ++ [rope]))) (by trivial) (W other) [] (by rw [List.length_nil]; omega) (fun s hs C hC => ?_) ?_
  · obtain ⟨s1, s2⟩ := sm s hs
    rw [s_name]
    simp only [s_callL, s_call, s_cons, s_consM, s_nil, s_c, s_var, s_bin, s_un, s_lst, s_tup, s_cb, s_B, s_tru, s_not, s_repr, List.getElem?_cons_succ, List.getElem?_cons_zero, List.set_cons_succ, List.set_cons_zero, st_d, st_f, st_c, val_d, val_f, dats_d, dats_nil, vals_cons, vals_nil, lend_c, args_d, DL.args_nil, Opt_some, out_v, out_n, out_t, lab_d, lab_f, sto_f, sto_d, List.length_cons, List.length_nil, lenD_list, lenD_tuple, listC_list, listC_tuple, tupC_list, tupC_tuple, istt, istf, Bool.not_true, Bool.not_false, Bool.false_eq_true, if_false, if_true]
    refine ph_with hn (by omega) ?_
    simp only [s_callL, s_call, s_cons, s_consM, s_nil, s_c, s_var, s_bin, s_un, s_lst, s_tup, s_cb, s_B, s_tru, s_not, s_repr, List.getElem?_cons_succ, List.getElem?_cons_zero, List.set_cons_succ, List.set_cons_zero, st_d, st_f, st_c, val_d, val_f, dats_d, dats_nil, vals_cons, vals_nil, lend_c, args_d, DL.args_nil, Opt_some, out_v, out_n, out_t, lab_d, lab_f, sto_f, sto_d, List.length_cons, List.length_nil, lenD_list, lenD_tuple, listC_list, listC_tuple, tupC_list, tupC_tuple, istt, istf, Bool.not_true, Bool.not_false, Bool.false_eq_true, if_false, if_true]
    refine ⟨s, withR hold rope, _, _, ⟨.inr rfl, s1⟩, ⟨.inr rfl, hnm⟩, rfl, by omega, ?_⟩
    rw [within_withR]
    exact hC
  rw [List.nil_append]
  have e := any_f (fun s => withinF s (hold ++ [rope])) (W other)
  simp only [s_callL, s_call, s_cons, s_consM, s_nil, s_c, s_var, s_bin, s_un, s_lst, s_tup, s_cb, s_B, s_tru, s_not, s_repr, List.getElem?_cons_succ, List.getElem?_cons_zero, List.set_cons_succ, List.set_cons_zero, st_d, st_f, st_c, val_d, val_f, dats_d, dats_nil, vals_cons, vals_nil, lend_c, args_d, DL.args_nil, Opt_some, out_v, out_n, out_t, lab_d, lab_f, sto_f, sto_d, List.length_cons, List.length_nil, lenD_list, lenD_tuple, listC_list, listC_tuple, tupC_list, tupC_tuple, istt, istf, Bool.not_true, Bool.not_false, Bool.false_eq_true, if_false, if_true, e]
  exact endM_d rfl k
/-- _law_wanting -/
def w_law_wanting : DTS := (wRet (wNotV (wCB (allC fun bs => bs.any id) (wCons (wLc (wSq (wGetD (wVar 0) (wVar 3))) (wName 4) wYes (wCall Ph_law_inside (wCons (wVar 4) (wCons (wBin addD (wVar 2) (wTup (wCons (wVar 1) wNil))) wNil))) [4]) wNil))))
theorem r_law_wanting (es : List MEnt) (rs : List R) (Pd : R → Prop) (h : Ph_law_wanting es rs Pd) (hl : rs.length = 3) : w_law_wanting { nx := fun _ κ => endM es κ (.d .none) Pd, rt := fun r κ => endM es κ r Pd } (some (.c 0) :: (rs.map some ++ List.replicate 1 none)) [.m (mOf es)] := by
  obtain ⟨ns, W, rope, hold, other, rfl, rfl, ho, sm, lw, hn, lh, hr, k⟩ := h
  clear hl
  have hz := sizeLine_eq
  simp only [List.map_cons, List.map_nil, List.replicate_succ, List.replicate_zero, List.cons_append, List.nil_append]
  unfold w_law_wanting
  have hnm : ∀ z ∈ hold ++ [rope], IsName z := fun z hz => by
    rcases List.mem_append.mp hz with q | q
    · exact hn z q
    · rw [List.mem_singleton.mp q]; exact hr
  have ea : addD (strsD hold) (.tuple [.str rope]) = some (.t ((hold ++ [rope]).map .str)) := by
    show addD (.tuple (hold.map .str)) (.tuple [.str rope]) = _
    rw [addD_tuple (by rw [hz, List.length_map, List.length_singleton]; omega), List.map_append]
    rfl
  rw [s_ret]
  simp only [s_callL, s_call, s_cons, s_consM, s_nil, s_c, s_var, s_bin, s_un, s_lst, s_tup, s_cb, s_B, s_tru, s_not, s_repr, List.getElem?_cons_succ, List.getElem?_cons_zero, List.set_cons_succ, List.set_cons_zero, st_d, st_f, st_c, val_d, val_f, dats_d, dats_nil, vals_cons, vals_nil, lend_c, args_d, DL.args_nil, Opt_some, out_v, out_n, out_t, lab_d, lab_f, sto_f, sto_d, List.length_cons, List.length_nil, lenD_list, lenD_tuple, listC_list, listC_tuple, tupC_list, tupC_tuple, istt, istf, Bool.not_true, Bool.not_false, Bool.false_eq_true, if_false, if_true, s_notV, s_lc, s_sq]
  refine get_wish rfl rfl rfl ho ?_
  simp only [s_callL, s_call, s_cons, s_consM, s_nil, s_c, s_var, s_bin, s_un, s_lst, s_tup, s_cb, s_B, s_tru, s_not, s_repr, List.getElem?_cons_succ, List.getElem?_cons_zero, List.set_cons_succ, List.set_cons_zero, st_d, st_f, st_c, val_d, val_f, dats_d, dats_nil, vals_cons, vals_nil, lend_c, args_d, DL.args_nil, Opt_some, out_v, out_n, out_t, lab_d, lab_f, sto_f, sto_d, List.length_cons, List.length_nil, lenD_list, lenD_tuple, listC_list, listC_tuple, tupC_list, tupC_tuple, istt, istf, Bool.not_true, Bool.not_false, Bool.false_eq_true, if_false, if_true, wipeR_cons, wipeR_nil]
  refine lc_map strsD (fun s => .bool (withinF s (hold ++ [rope]))) (by trivial) (W other) [] (by rw [List.length_nil]; omega) (fun s hs C hC => ?_) ?_
  · obtain ⟨s1, s2⟩ := sm s hs
    rw [s_name]
    simp only [s_callL, s_call, s_cons, s_consM, s_nil, s_c, s_var, s_bin, s_un, s_lst, s_tup, s_cb, s_B, s_tru, s_not, s_repr, List.getElem?_cons_succ, List.getElem?_cons_zero, List.set_cons_succ, List.set_cons_zero, st_d, st_f, st_c, val_d, val_f, dats_d, dats_nil, vals_cons, vals_nil, lend_c, args_d, DL.args_nil, Opt_some, out_v, out_n, out_t, lab_d, lab_f, sto_f, sto_d, List.length_cons, List.length_nil, lenD_list, lenD_tuple, listC_list, listC_tuple, tupC_list, tupC_tuple, istt, istf, Bool.not_true, Bool.not_false, Bool.false_eq_true, if_false, if_true]
    refine ⟨by omega, ?_⟩
    simp only [s_callL, s_call, s_cons, s_consM, s_nil, s_c, s_var, s_bin, s_un, s_lst, s_tup, s_cb, s_B, s_tru, s_not, s_repr, List.getElem?_cons_succ, List.getElem?_cons_zero, List.set_cons_succ, List.set_cons_zero, st_d, st_f, st_c, val_d, val_f, dats_d, dats_nil, vals_cons, vals_nil, lend_c, args_d, DL.args_nil, Opt_some, out_v, out_n, out_t, lab_d, lab_f, sto_f, sto_d, List.length_cons, List.length_nil, lenD_list, lenD_tuple, listC_list, listC_tuple, tupC_list, tupC_tuple, istt, istf, Bool.not_true, Bool.not_false, Bool.false_eq_true, if_false, if_true, ea]
    refine ⟨s, hold ++ [rope], _, _, ⟨.inr rfl, s1⟩, ⟨.inr rfl, hnm⟩, rfl, by omega, ?_⟩
    exact hC
  rw [List.nil_append]
  have e := any_f (fun s => withinF s (hold ++ [rope])) (W other)
  simp only [s_callL, s_call, s_cons, s_consM, s_nil, s_c, s_var, s_bin, s_un, s_lst, s_tup, s_cb, s_B, s_tru, s_not, s_repr, List.getElem?_cons_succ, List.getElem?_cons_zero, List.set_cons_succ, List.set_cons_zero, st_d, st_f, st_c, val_d, val_f, dats_d, dats_nil, vals_cons, vals_nil, lend_c, args_d, DL.args_nil, Opt_some, out_v, out_n, out_t, lab_d, lab_f, sto_f, sto_d, List.length_cons, List.length_nil, lenD_list, lenD_tuple, listC_list, listC_tuple, tupC_list, tupC_tuple, istt, istf, Bool.not_true, Bool.not_false, Bool.false_eq_true, if_false, if_true, e]
  exact endM_d rfl k
section
variable {ns : List Str} {W : Wish} {E : DEnds} {ok : Kap → Prop} {ss : List (List Str)}
theorem WishOk.small (hn : Names ns) (n8 : ns.length ≤ 8) (w : WishOk ns W) {z : Str} (hz : z ∈ ns) : Small (W z) ∧ (W z).length ≤ 300 := ⟨fun s hs => by
  have h := (w.sub z hz s hs).1
  have := h.length_le
  exact ⟨fun y hy => hn.1 y (h.subset hy), by omega⟩, w.few z hz⟩
end
end SH
namespace SH
open PySem PySem.Spec PyProof.Rows L2 DL
/-- a wish changed at one rope -/
def setW (W : Wish) (z : Str) (l : List (List Str)) : Wish := fun y => if y = z then l else W y
end SH
namespace SH
open PySem PySem.Spec PyProof.Rows L2 DL
def Gc (wr : DTA) (ρ : Rho) (κ : Kap) (xs : List R) : Prop := ∀ Q : List R → Kap → Prop, Q xs κ → wr ρ κ Q
section
variable {ρ : Rho} {κ : Kap} {wa : DTE} {wr : DTA} {x z : PyData} {xs : List R}
theorem gc_nil : Gc wNil ρ κ [] := fun Q k => by
  rw [s_nil]
  exact k
theorem gc_cons (ha : Gv wa ρ κ x) (hr : Gc wr ρ κ xs) : Gc (wCons wa wr) ρ κ (.d x :: xs) := fun Q k => by
  rw [s_cons]
  refine ha _ fun r hr' => hr _ ?_
  rw [hr']
  exact k
theorem args_all (κ : Kap) : ∀ xs : List PyData, args κ (xs.map .d) = some (xs.map .d, κ)
  | [] => rfl
  | x :: xs => by
    show (match arg κ (.d x) with
      | some (y, κ1) => match args κ1 (xs.map .d) with
        | some (ys, κ2) => some (y :: ys, κ2)
        | none => none
      | none => none) = _
    rw [show arg κ (.d x) = some (.d x, κ) from rfl]
    simp only
    rw [args_all κ xs]
    rfl
end
theorem eqD_intn (neg : Bool) (i j : Int) : eqD neg (.int i) (.int j) = some (.v (.bool (if neg then !decide (i = j) else decide (i = j)))) := by
  rw [eqD_of (by unfold SeqAt.shaped PyData.canLay0; simp [PyData.depth]) (by unfold SeqAt.shaped PyData.canLay0; simp [PyData.depth])]
  have e : PyData.eqv (.int i) (.int j) = decide (i = j) := by
    rw [PyData.eqv]
    by_cases q : i = j <;> simp [q]
  rw [e]
section
variable {E : DEnds} {ok : Kap → Prop} {κ : Kap} {p1 p2 : Option R}
end
end SH
namespace SH
open PySem PySem.Spec PyProof.Rows L2 DL
end SH
namespace PySem
open Sem (wp)
namespace F
end F
section
variable {prog : Program} {w : World} {A : Around} {E : Value → Shared → Prop} {s : Shared}
end
end PySem
namespace L2
open PySem PySem.Spec PyProof.Rows
section
variable {M : Model} {A : Around} {E : Value → Shared → Prop} {s : Shared} {env : Env}
end
end L2
namespace DL
open PySem PySem.Spec PyProof.Rows L2
section
variable {X : Cx} {a b : Expr} {wr : DTA} {p pos kp cp : Pos}
end
end DL
namespace DL
open PySem PySem.Spec PyProof.Rows L2
def maxI (d : Int) : List Int → Int
  | [] => d
  | n :: ns => ns.foldl max n
section
variable {X : Cx} {e d : Expr} {we wd : DTE} {p pos kpos : Pos}
end
end DL
namespace DL
open PySem PySem.Spec PyProof.Rows L2
section
variable {X : Cx} {o i y : Expr} {wo wi wy : DTE} {apos cpos : Pos}
end
section
variable {X : Cx} {pos : Pos} {k v : Expr} {ks : List (Option Expr)} {vs : List Expr} {wk wv : DTE} {l : List (DTE × DTE)}
end
end DL
namespace PySem
open Sem (wp)
section
variable {prog : Program} {w : World} {A : Around} {E : Value → Shared → Prop} {s : Shared}
end
end PySem
namespace L2
open PySem PySem.Spec PyProof.Rows
end L2
namespace DL
open PySem PySem.Spec PyProof.Rows L2
section
variable {X : Cx} {a b : Expr} {wr : DTA} {p pos kp cp : Pos}
end
end DL
namespace SH
open PySem PySem.Spec PyProof.Rows L2 DL
end SH
namespace SH
open PySem PySem.Spec PyProof.Rows L2 DL
end SH
namespace SH
open PySem PySem.Spec PyProof.Rows L2 DL
end SH
namespace DL
open PySem PySem.Spec PyProof.Rows L2
section
variable {X : Cx} {a b : Expr} {wa wb : DTE} {pos : Pos}
end
end DL
namespace SH
open PySem PySem.Spec PyProof.Rows L2 DL
end SH
namespace SH
open PySem PySem.Spec PyProof.Rows L2 DL
section
variable {ρ : Rho} {κ κ1 : Kap} {wa wb wc : DTE} {wr : DTA} {x y z u : PyData} {xs : List PyData} {ns ss : List Str} {r q : Row} {n : Nat}
theorem gf_lst {Q : R → Kap → Prop} (h : Ga wr ρ κ xs) (l : xs.length ≤ 1000000) (k : Q (.f xs) κ) : wLst wr ρ κ Q := by
  rw [s_lst]
  refine h _ fun rs e => ?_
  rw [e, Opt_some]
  refine ⟨?_, k⟩
  rw [sizeLine_eq]
  show xs.length ≤ _
  omega
theorem set_cell {E : DEnds} {i : Nat} (h : Ga wr ρ κ xs) (l : xs.length ≤ 1000000) (k : E.nx (ρ.set i (some (.c κ.length))) (κ ++ [.l xs])) : wSet true i (wLst wr) E ρ κ := by
  rw [s_set]
  exact gf_lst h l k
theorem gv_app {E : DEnds} {i j : Nat} (hi : ρ[i]? = some (some (.c j))) (hj : κ[j]? = some (.l xs)) (g : Gv wb ρ κ x) (l : xs.length ≤ 1000000) (k : E.nx ρ (κ.set j (.l (xs ++ [x])))) : wDrop (wAppend (wVar i) wb) E ρ κ := by
  rw [s_drop, s_append, s_var, hi]
  refine ⟨⟨_, hj⟩, g _ fun r hr => ?_⟩
  rw [hr, dat_d, Opt_some]
  simp only [hj]
  refine ⟨?_, k⟩
  rw [sizeLine_eq]
  omega
theorem gv_lcm {α : Type} {f e : α → PyData} {l : List α} {g : DTG} {vs : List Nat} (h : Gv wa ρ κ (.list (l.map f))) (len : l.length ≤ 1000000) (step : ∀ x ∈ l, ∀ C : R → Kap → Prop, C (.d (e x)) κ → g (.d (f x)) (wipeR ρ vs) κ fun ρ1 κ1 => wb ρ1 κ1 C) : Gv (wLc (wSq wa) g wYes wb vs) ρ κ (.list (l.map e)) := fun Q k => by
  rw [s_lc, s_sq]
  refine h _ fun r hr => ?_
  rw [hr, val_d, Opt_some]
  dsimp only
  refine lc_map f e (by exact val_d ..) l [] (by rw [List.length_nil, sizeLine_eq]; omega) step ?_
  rw [List.nil_append]
  exact k _ rfl
end
end SH
namespace SH
open PySem PySem.Spec PyProof.Rows L2 DL
def reachF (f : Str → Nat) (h : Hook) : Nat := max (f h.1) (f h.2.1)
def reachN (f : Str → Nat) (h : Hook) : Str → Nat := fun z => if touches z h = true then reachF f h + 1 else f z
def depthsL : (Str → Nat) → Row → List Nat
  | _, [] => []
  | f, h :: r => reachF f h :: depthsL (reachN f h) r
def depthsF (row : Row) : List Nat := depthsL (fun _ => 0) row
theorem look_put {es : List (Key × R)} {k j : Key} {r : R} : lookM (putM es k r) j = if j = k then some r else lookM es j := by
  unfold lookM putM
  by_cases c : (es.any fun e => decide (e.1 = k)) = true
  · rw [if_pos c]
    induction es with
    | nil => cases c
    | cons e es ih =>
      rw [List.map_cons, List.find?_cons]
      by_cases q : e.1 = k
      · rw [if_pos q]
        by_cases d : j = k
        · rw [if_pos d, decide_eq_true (show (e.1, r).1 = j by rw [q, d])]
          rfl
        · rw [if_neg d, decide_eq_false (show ¬ (e.1, r).1 = j by rw [q]; exact fun z => d z.symm), List.find?_cons, decide_eq_false (show ¬ e.1 = j by rw [q]; exact fun z => d z.symm)]
          have key : ∀ l : List (Key × R), ((l.map fun e => if e.1 = k then (e.1, r) else e).find? fun e => decide (e.1 = j)).map (·.2) = (l.find? fun e => decide (e.1 = j)).map (·.2) := fun l => by
            induction l with
            | nil => rfl
            | cons x l il =>
              rw [List.map_cons, List.find?_cons, List.find?_cons]
              by_cases y : x.1 = k
              · rw [if_pos y, decide_eq_false (show ¬ (x.1, r).1 = j by rw [y]; exact fun z => d z.symm)]
                exact il
              · rw [if_neg y]
                by_cases y2 : x.1 = j
                · rw [decide_eq_true y2]
                · rw [decide_eq_false y2]
                  exact il
          exact key es
      · rw [if_neg q]
        by_cases d : e.1 = j
        · have dk : ¬ j = k := fun z => q (d.trans z)
          rw [if_neg dk, List.find?_cons, decide_eq_true d]
        · rw [decide_eq_false d, List.find?_cons, decide_eq_false d]
          refine ih ?_
          rw [List.any_cons, decide_eq_false q, Bool.false_or] at c
          exact c
  · rw [if_neg c, List.find?_append]
    by_cases d : j = k
    · have n : (es.find? fun e => decide (e.1 = j)) = none := by
        rw [List.find?_eq_none]
        intro x hx hc
        exact c (List.any_eq_true.mpr ⟨x, hx, by rw [← d]; exact hc⟩)
      rw [if_pos d, n, List.find?_cons, decide_eq_true (show (k, r).1 = j from d.symm)]
      rfl
    · rw [if_neg d, List.find?_cons, decide_eq_false (show ¬ (k, r).1 = j from fun z => d z.symm)]
      simp
end SH
namespace SH
open PySem PySem.Spec PyProof.Rows L2 DL
section
variable {E : DEnds} {ok : Kap → Prop} {p0 p3 p4 p5 p6 : Option R}
end
end SH
namespace SH
open PySem PySem.Spec PyProof.Rows L2 DL
/-- how many groups, what stands in one -/
def manyF (ns : List Nat) : Nat := (maxI (-1) (ns.map fun (n : Nat) => (n : Int)) + 1).toNat
section
variable {E : DEnds} {ok : Kap → Prop} {p0 p1 p3 p4 p5 : Option R} {m : Nat}
end
end SH
namespace SH
open PySem PySem.Spec PyProof.Rows L2 DL
abbrev HN := Hook × Nat
def runsF (r : Row) : List Nat := (depthsF r.reverse).reverse
def ez (r : Row) : List HN := r.zip (runsF r)
end SH
namespace SH
open PySem PySem.Spec PyProof.Rows L2 DL
end SH
namespace SH
open PySem PySem.Spec PyProof.Rows L2 DL
def hitAt (r : Row) (q p : Nat) : Bool := match r[q]?, r[p]? with
  | some h, some g => hits h g
  | _, _ => false
def lastN (l : List Nat) : Nat := l.getLast?.getD 0
def nextB (r : Row) (es : List Nat) (many : Nat) (found : List Nat) (p : Nat) : Bool := decide (es.getD p 0 + 1 + found.length = many) && (decide (found.length = 0) || hitAt r (lastN found) p)
def longS (r : Row) (es : List Nat) (many : Nat) (found : List Nat) (p : Nat) : List Nat := if nextB r es many found p = true then found ++ [p] else found
structure LInv (r : Row) (i : Nat) (l : List Nat) : Prop where
  at_ : ∀ t q, l[t]? = some q → q < i ∧ (runsF r).getD q 0 + t + 1 = manyF (depthsF r)
  chain : ∀ t q p, l[t]? = some q → l[t + 1]? = some p → q < p ∧ hitAt r q p = true
  bare : l = [] → ∀ p, p < i → (runsF r).getD p 0 + 1 ≠ manyF (depthsF r)
  miss : l ≠ [] → ∀ p, lastN l < p → p < i → hitAt r (lastN l) p = true → (runsF r).getD p 0 + 1 + l.length ≠ manyF (depthsF r)
theorem lastN_at {l : List Nat} (h : l ≠ []) : l[l.length - 1]? = some (lastN l) := by
  unfold lastN
  rw [← List.getLast?_eq_getElem?]
  cases q : l.getLast? with
  | none => exact absurd (List.getLast?_eq_none_iff.mp q) h
  | some x => rfl
theorem lastN_snoc (l : List Nat) (p : Nat) : lastN (l ++ [p]) = p := by unfold lastN; rw [List.getLast?_concat]; rfl
theorem LInv.nil (r : Row) : LInv r 0 [] := ⟨(fun t q h => by cases h), (fun t q p h => by cases h), (fun _ p h => by omega), fun h => absurd rfl h⟩
theorem LInv.step {r : Row} {i : Nat} {l : List Nat} (v : LInv r i l) : LInv r (i + 1) (longS r (runsF r) (manyF (depthsF r)) l i) := by
  unfold longS
  cases c : nextB r (runsF r) (manyF (depthsF r)) l i with
  | false =>
    rw [if_neg (by decide)]
    refine ⟨fun t q h => ?_, v.chain, fun h p hp => ?_, fun h p h1 h2 h3 => ?_⟩
    · have := v.at_ t q h
      exact ⟨by omega, this.2⟩
    · by_cases e : p = i
      · subst e
        intro e2
        subst h
        unfold nextB at c
        rw [List.length_nil, decide_eq_true (by omega)] at c
        cases c
      · exact v.bare h p (by omega)
    · by_cases e : p = i
      · subst e
        intro e2
        unfold nextB at c
        rw [decide_eq_true e2, h3, Bool.or_true] at c
        cases c
      · exact v.miss h p h1 (by omega) h3
  | true =>
    rw [if_pos rfl]
    unfold nextB at c
    rw [Bool.and_eq_true, Bool.or_eq_true, decide_eq_true_iff, decide_eq_true_iff] at c
    obtain ⟨c1, c2⟩ := c
    refine ⟨fun t q h => ?_, fun t q p h1 h2 => ?_, fun h => by simp at h, fun h p h1 h2 h3 => ?_⟩
    · by_cases e : t < l.length
      · rw [List.getElem?_append_left e] at h
        have := v.at_ t q h
        exact ⟨by omega, this.2⟩
      · have lt := (List.getElem?_eq_some_iff.mp h).1
        rw [List.length_append, List.length_singleton] at lt
        have et : t = l.length := by omega
        subst et
        rw [List.getElem?_append_right (Nat.le_refl _), Nat.sub_self] at h
        have : i = q := Option.some.inj h
        subst this
        exact ⟨by omega, by omega⟩
    · have lt := (List.getElem?_eq_some_iff.mp h2).1
      rw [List.length_append, List.length_singleton] at lt
      by_cases e : t + 1 < l.length
      · rw [List.getElem?_append_left e] at h2
        rw [List.getElem?_append_left (by omega)] at h1
        exact v.chain t q p h1 h2
      · have et : t + 1 = l.length := by omega
        rw [List.getElem?_append_left (by omega)] at h1
        rw [et, List.getElem?_append_right (Nat.le_refl _), Nat.sub_self] at h2
        have : i = p := Option.some.inj h2
        subst this
        have hl : l ≠ [] := fun e => by subst e; simp at et
        have la := lastN_at hl
        rw [show l.length - 1 = t by omega, h1] at la
        have eq : q = lastN l := Option.some.inj la
        refine ⟨(v.at_ t q h1).1, ?_⟩
        rw [eq]
        rcases c2 with c2 | c2
        · omega
        · exact c2
    · rw [lastN_snoc] at h1
      omega
end SH
namespace SH
open PySem PySem.Spec PyProof.Rows L2 DL
/-- it comes to something that is x now -/
def Gw (w : DTE) (ρ : Rho) (κ : Kap) (x : PyData) : Prop := ∀ Q : R → Kap → Prop, (∀ r : R, val κ r.st = some x → Q r κ) → w ρ κ Q
section
variable {ρ : Rho} {κ κ1 : Kap} {wa wb wc : DTE} {wr : DTA} {x y z u : PyData} {xs : List PyData} {ns ms : List Nat} {r q : Row} {n : Nat}
theorem gw_gv (h : Gv wa ρ κ x) : Gw wa ρ κ x := fun Q k => h _ fun r hr => k r (by rw [hr]; exact val_d ..)
theorem gw_c {i j : Nat} (hi : ρ[i]? = some (some (.c j))) (hj : κ[j]? = some (.l xs)) : Gw (wVar i) ρ κ (.list xs) := fun Q k => by
  rw [s_var, hi]
  refine k _ ?_
  show val κ (.c j) = _
  unfold val
  simp only [hj]
theorem gw_bin {f : PyData → PyData → Option Out} {o : Out} (ha : Gw wa ρ κ x) (hb : Gw wb ρ κ y) (e : f x y = some o) (ez : o.r.st = .d z) : Gv (wBin f wa wb) ρ κ z := fun Q k => by
  rw [s_bin]
  refine ha _ fun r hr => hb _ fun q hq => ?_
  rw [hr, Opt_some, hq, Opt_some, e, Opt_some]
  exact k _ ez
theorem gw_cb {f : List PyData → Option Out} {o : Out} (ha : Gw wa ρ κ x) (e : f [x] = some o) (ez : o.r.st = .d z) : Gv (wCB f (wCons wa wNil)) ρ κ z := fun Q k => by
  rw [s_cb, s_cons]
  refine ha _ fun r hr => ?_
  have ev : vals κ [r.st] = some [x] := by
    unfold vals
    rw [hr]
    rfl
  rw [s_nil, ev, Opt_some, e, Opt_some]
  exact k _ ez
end
section
variable {ρ : Rho} {κ : Kap} {wa wb : DTE} {x y : PyData}
theorem gf_call1 {Φ : List R → (R → Prop) → Prop} {Q : R → Kap → Prop} (ha : Gv wa ρ κ x) (hΦ : Φ [.d x] fun r => Q r κ) : wCall Φ (wCons wa wNil) ρ κ Q := by
  rw [s_call, s_cons]
  refine ha _ fun r hr => ?_
  rw [s_nil, hr]
  exact hΦ
theorem gf_call2 {Φ : List R → (R → Prop) → Prop} {Q : R → Kap → Prop} (ha : Gv wa ρ κ x) (hb : Gv wb ρ κ y) (hΦ : Φ [.d x, .d y] fun r => Q r κ) : wCall Φ (wCons wa (wCons wb wNil)) ρ κ Q := by
  rw [s_call, s_cons]
  refine ha _ fun r hr => ?_
  rw [s_cons]
  refine hb _ fun q hq => ?_
  rw [s_nil, hr, hq]
  exact hΦ
end
end SH
namespace SH
open PySem PySem.Spec PyProof.Rows L2 DL
theorem gv_isi {T : Ty} {ρ : Rho} {κ : Kap} {wa : DTE} {x : PyData} (ha : Gv wa ρ κ x) : Gv (wIsi T wa) ρ κ (.bool (isi x T)) := fun Q k => by
  rw [s_isi]
  refine ha _ fun r hr => ?_
  rw [hr, val_d, Opt_some]
  exact k _ rfl
end SH
namespace SH
open PySem PySem.Spec PyProof.Rows L2 DL
section
variable {ρ : Rho} {κ : Kap} {wa wb : DTE} {wr : DTA} {x y z : PyData} {bs xs : List PyData}
theorem lend_all {k : Nat} {ys : List PyData} (hκ : κ[k]? = some (.l bs)) : lend κ (.c k :: ys.map .d) = some (k, bs, ys.map .d, κ) := by
  rw [lend_c, args_all]
  simp only [hκ]
/-- a call that is lent the box, of things that are known -/
theorem box_call {Φ : List PyData → List R → (R → List PyData → Prop) → Prop} {Q : R → Kap → Prop} {ys : List PyData} (h0 : ρ[(0 : Nat)]? = some (some (.c 0))) (hκ : κ[(0 : Nat)]? = some (.l bs)) (h : Gc wr ρ κ (ys.map .d)) (hΦ : Φ bs (ys.map .d) fun r bs' => Q (r.lab 0) (κ.set 0 (.l bs'))) : wCallL Φ (wCons (wVar 0) wr) ρ κ Q := by
  rw [s_callL, s_cons, s_var, h0]
  refine h _ ?_
  rw [show (R.c 0).st = R.c 0 from rfl, lend_all hκ, Opt_some]
  exact hΦ
theorem box_take {Q : R → Kap → Prop} {N b : Int} (h0 : ρ[(0 : Nat)]? = some (some (.c 0))) (hκ : κ[(0 : Nat)]? = some (.l bs)) (hb : Box N bs) (hN : N < 2 ^ 40) (ha : Gv wa ρ κ (.int b)) (b0 : 0 < b) (b1 : b < 2 ^ 30)
    (k : ∀ (z : Int) (bs' : List PyData), 0 ≤ z → z < b → Box (N + 1) bs' → Q (.d (.int z)) (κ.set 0 (.l bs'))) : wCallL Ph_law_take (wCons (wVar 0) (wCons wa wNil)) ρ κ Q :=
  box_call (ys := [.int b]) h0 hκ (gc_cons ha gc_nil) ⟨N, b, hb, hN, rfl, b0, b1, fun z bs' z0 z1 hb' => k z bs' z0 z1 hb'⟩
theorem set0 {κ : Kap} {bs bs' : List PyData} (h : κ[(0 : Nat)]? = some (.l bs)) : (κ.set 0 (.l bs'))[(0 : Nat)]? = some (.l bs') := List.getElem?_set_self (List.getElem?_eq_some_iff.mp h).1
theorem setj {κ : Kap} {c d : Cell} {j : Nat} (hj : j ≠ 0) (h : κ[j]? = some c) : (κ.set 0 d)[j]? = some c := by rw [List.getElem?_set_ne (by omega)]; exact h
end
end SH
namespace SH
open PySem PySem.Spec PyProof.Rows L2 DL
section
variable {ρ : Rho} {κ : Kap} {wa wb : DTE} {x y : PyData} {xs : List PyData}
theorem gf_bin {f : PyData → PyData → Option Out} {Q : R → Kap → Prop} (ha : Gw wa ρ κ x) (hb : Gw wb ρ κ y) (e : f x y = some (.n xs)) (k : Q (.f xs) κ) : wBin f wa wb ρ κ Q := by
  rw [s_bin]
  refine ha _ fun r hr => hb _ fun q hq => ?_
  rw [hr, Opt_some, hq, Opt_some, e, Opt_some]
  exact k
end
def wa2 : DTS := (wSet true 3 (wBin addD (wBin addD (wSl (wVar 3) wNoP (wP (wVar 5))) (wLst (wCons (wVar 6) (wCons (wTup (wCons (wBin ixD (wVar 6) (wC (.int 0))) (wCons (wBin ixD (wVar 6) (wC (.int 1))) (wCons (wUn negD (wBin ixD (wVar 6) (wC (.int 2)))) wNil)))) wNil)))) (wSl (wVar 3) (wP (wVar 5)) wNoP)))
section
variable {E : DEnds} {ok : Kap → Prop} {ns : List Str} {p2 p4 p5 p6 p7 p8 : Option R}
end
end SH
namespace DL
open PySem PySem.Spec PyProof.Rows L2
section
variable {X : Cx} {a b : Expr} {wa wb : DTE} {pos : Pos}
end
end DL
namespace DL
open PySem PySem.Spec PyProof.Rows L2
def wRevX (wa : DTE) : DTE := fun ρ κ P => wa ρ κ fun r κ1 => Opt (val κ1 r.st) fun y => match y with
  | .list xs => P (.f xs.reverse) κ1
  | .tuple xs => P (.d (.tuple xs.reverse)) κ1
  | _ => False
theorem s_revX {wa : DTE} {ρ : Rho} {κ : Kap} {P : R → Kap → Prop} : wRevX wa ρ κ P = wa ρ κ fun r κ1 => Opt (val κ1 r.st) fun y => match y with
  | .list xs => P (.f xs.reverse) κ1
  | .tuple xs => P (.d (.tuple xs.reverse)) κ1
  | _ => False := rfl
def tRevX (K : PySem.W.Frag) (te : TE) : TE := fun σ H Q => te σ H fun x H1 => (∃ a xs, x = .ref a ∧ SqL K H1 a xs ∧ ∀ p, H1 p = none → Q (.ref p) (upd H1 p (.lst xs.reverse))) ∨ (∃ a xs, x = .ref a ∧ SqT K H1 a xs ∧ ∀ p, H1 p = none → Q (.ref p) (upd H1 p (.tup xs.reverse)))
section
variable {X : Cx} {e : Expr} {te : TE} {wa : DTE} {k : Nat} {p1 p2 p3 pos : Pos}
theorem pe_revX (he : PE X e te) : PE X (.Subscript e (.Slice none none (some (.UnaryOp .USub (.Constant (.int 1) k p1) p2)) p3) pos) (tRevX X.K te) := by
  refine ⟨fun pins s σ H Q I h => Subscript_ (thn (he.run pins s σ H _ I h) fun v s1 ⟨x, H1, I1, r1, q1⟩ => ?_)⟩
  have part : PO X (some (.UnaryOp .USub (.Constant (.int 1) k p1) p2)) (tPart (tUn (rU fun i => .int (-i)) (tC (.int 1)))) := po_some (pe_un un_neg pe_int)
  rcases q1 with ⟨a, xs, ex, hx, q⟩ | ⟨a, xs, ex, hx, q⟩
  · subst ex
    cases r1
    refine wpAny_Slice (thn (po_none.run pins s1 σ H1 (fun o H2 => o = none ∧ H2 = H1) I1 ⟨rfl, rfl⟩) fun vl s2 ⟨l, H2, I2, pl, el, e2⟩ => ?_)
    subst el e2
    refine thn (po_none.run pins s2 σ H2 (fun o H3 => o = none ∧ H3 = H2) I2 ⟨rfl, rfl⟩) fun vu s3 ⟨u, H3, I3, pu, eu, e3⟩ => ?_
    subst eu e3
    refine thn (part.run pins s3 σ H3 (fun o H4 => o = some (-1) ∧ H4 = H3) I3 ⟨1, rfl, -1, rfl, rfl, rfl⟩) fun vs s4 ⟨o, H4, I4, ps, eo, e4⟩ => ?_
    subst eo e4
    have I5 : Inv X pins σ H4 { s4 with heap := s4.heap.push { cls := .type "slice", data := .fields #[vl, vu, vs] } } := I4.kept (t' := s4.toks) fun b ob q => Heap.get?_push_of_some _ q
    obtain ⟨its, r, ht, hz⟩ := I5.list hx
    have hlen := r.length
    show wpAny (model X.prog X.w) X.A (subscriptTail e (.Slice none none (some (.UnaryOp .USub (.Constant (.int 1) k p1) p2)) p3) (.ref a) (.ref s4.heap.objs.size)) (EP X pins σ Q) X.xe { s4 with heap := s4.heap.push { cls := .type "slice", data := .fields #[vl, vu, vs] } }
    refine tail_any (ops := [.ref a, .ref s4.heap.objs.size]) ht.isList.typeIs (PySem.slot_list_getitem.lookup) ?_ (by with_unfolding_all rfl)
    refine wpAny_getItem_list_slice ht.isList (Heap.IsSliceOf.new _ vl vu vs) pl pu ps (by decide) ?_ (by rw [List.size_toArray]; omega)
    rw [PySem.W.krv_pick]
    refine ⟨.ref _, _, I5.laid (t' := s4.toks) (o := .lst xs.reverse) (fun b ob q => Heap.get?_push_of_some _ q) (Nat.le_refl _) ?_, rfl, q _ (I5.hok.fresh (Nat.le_refl _))⟩
    exact ⟨by rw [List.length_reverse]; exact hz, _, 0, r.reverse, Heap.get?_push_size _ rfl⟩
  · subst ex
    cases r1
    refine wpAny_Slice (thn (po_none.run pins s1 σ H1 (fun o G => o = none ∧ G = H1) I1 ⟨rfl, rfl⟩) fun vl s2 ⟨l, H2, I2, pl, el, e2⟩ => ?_)
    subst el e2
    refine thn (po_none.run pins s2 σ H2 (fun o G => o = none ∧ G = H2) I2 ⟨rfl, rfl⟩) fun vu s3 ⟨u, H3, I3, pu, eu, e3⟩ => ?_
    subst eu e3
    refine thn (part.run pins s3 σ H3 (fun o G => o = some (-1) ∧ G = H3) I3 ⟨1, rfl, -1, rfl, rfl, rfl⟩) fun vs s4 ⟨o, H4, I4, ps, eo, e4⟩ => ?_
    subst eo e4
    have I5 : Inv X pins σ H4 { s4 with heap := s4.heap.push { cls := .type "slice", data := .fields #[vl, vu, vs] } } := I4.kept (t' := s4.toks) fun b ob q => Heap.get?_push_of_some _ q
    obtain ⟨its, r, ht, hz⟩ := I5.tuple hx
    have hl : its.toArray.size ≤ sizeLine := by rw [List.size_toArray]; have := r.length; omega
    show wpAny (model X.prog X.w) X.A (subscriptTail e (.Slice none none (some (.UnaryOp .USub (.Constant (.int 1) k p1) p2)) p3) (.ref a) (.ref s4.heap.objs.size)) (EP X pins σ Q) X.xe { s4 with heap := s4.heap.push { cls := .type "slice", data := .fields #[vl, vu, vs] } }
    refine tail_any (ops := [.ref a, .ref s4.heap.objs.size]) ht.typeIs PyProof.Rows.slot_tuple_getitem.lookup ?_ (by with_unfolding_all rfl)
    refine getItem_tuple_back ht (Heap.IsSliceOf.new _ vl vu vs) pl pu ps ?_ hl
    refine ⟨.ref _, _, I5.laid (t' := s4.toks) (o := .tup xs.reverse) (fun b ob q => Heap.get?_push_of_some _ q) (Nat.le_refl _) ?_, rfl, q _ (I5.hok.fresh (Nat.le_refl _))⟩
    exact ⟨by rw [List.length_reverse]; exact hz, _, r.reverse, IsTup.new _ _⟩
theorem de_revX (ha : DE X e wa) : DE X (.Subscript e (.Slice none none (some (.UnaryOp .USub (.Constant (.int 1) k p1) p2)) p3) pos) (wRevX wa) := by
  obtain ⟨t, pt, ha⟩ := ha
  refine ⟨_, pe_revX pt, fun G H As σ ρ κ P Q c p w k => ?_⟩
  refine ha G H As σ ρ κ _ _ c p w fun v r G1 H1 As1 κ1 s1 c1 p1 i1 w1 => ?_
  obtain ⟨G1', s1', c1', p1', i1', _⟩ := settle s1 c1 p1 i1
  obtain ⟨y, ey, w2⟩ := w1.ex
  cases y with
  | list xs =>
    obtain ⟨a, vs, rfl, h1, h2⟩ := i1'.vw c1' ey
    exact .inl ⟨a, vs, rfl, sql_of h1, fun q hq => out_ok (P := P) s1' c1' p1' (.n xs.reverse) w2 k q _ hq h2.rev⟩
  | tuple xs =>
    obtain ⟨a, vs, rfl, h1, h2⟩ := (i1'.vw c1' ey).tup c1'.ext
    exact .inr ⟨a, vs, rfl, h1, fun q hq => (out_ok (P := P) s1' c1' p1' (.t xs.reverse) w2 k).1 q _ hq h2.rev⟩
  | _ => exact w2.elim
end
end DL
namespace SH
open PySem PySem.Spec PyProof.Rows L2 DL
mutual
/-- no truths in it -/
def noB : PyData → Bool
  | .bool _ => false
  | .list xs => noBs xs
  | .tuple xs => noBs xs
  | _ => true
def noBs : List PyData → Bool
  | [] => true
  | x :: xs => noB x && noBs xs
end
theorem noBs_iff : ∀ {xs : List PyData}, noBs xs = true ↔ ∀ x ∈ xs, noB x = true
  | [] => by simp [noBs]
  | x :: xs => by
    rw [noBs, Bool.and_eq_true, noBs_iff]
    simp
theorem weight_take (n : Nat) (xs : List PyData) : PyData.weightAll (xs.take n) ≤ PyData.weightAll xs := by
  have := weight_parts n xs
  omega
theorem weight_drop (n : Nat) (xs : List PyData) : PyData.weightAll (xs.drop n) ≤ PyData.weightAll xs := by
  have := weight_parts n xs
  omega
theorem weight_cut (xs : List PyData) (lo hi : Option Int) : PyData.weightAll (cut xs lo hi) ≤ PyData.weightAll xs := by
  unfold cut
  exact Nat.le_trans (weight_take _ _) (weight_drop _ _)
theorem mulD_two (xs : List PyData) (l : xs.length ≤ 1000) : mulD (.list xs) (.int 2) = some (.n (xs ++ xs)) := by
  unfold mulD
  simp only
  have h : xs.length * (2 : Int).toNat ≤ sizeLine := by
    rw [sizeLine_eq]
    show xs.length * 2 ≤ _
    omega
  rw [if_pos ⟨by decide, by decide, h⟩]
  show some (Out.n (List.replicate 2 xs).flatten) = _
  rw [List.replicate_succ, List.replicate_succ, List.replicate_zero, List.flatten_cons, List.flatten_cons, List.flatten_nil, List.append_nil]
def wsO1 : DTS := (wSet false 2 (wLst (wCons (wC .none) (wCons (wC (.bool true)) (wCons (wC (.bool false)) (wCons (wC (.int 0)) (wCons (wC (.int 1)) (wCons (wUn negD (wC (.int 1))) (wCons (wC (.int 2)) (wCons (wC (.str "")) (wCons (wC (.str "a")) (wCons (wC (.str "A")) (wCons (wC (.str "abcdefg")) (wCons (wC (.str "a b")) (wCons (wTup wNil) (wCons (wLst wNil) (wCons (wTup (wCons (wC (.int 0)) wNil)) (wCons (wTup (wCons (wC (.str "a")) (wCons (wTup wNil) wNil))) (wCons (wTup (wCons (wC (.str "a")) (wCons (wC (.str "b")) (wCons (wC (.int 1)) wNil)))) wNil)))))))))))))))))))
def wsO2 : DTS := (wIfS (wTru (wIsi .int (wVar 1))) (wSet false 2 (wBin addD (wVar 2) (wBin mulD (wLst (wCons (wBin addD (wVar 1) (wC (.int 1))) (wCons (wBin subD (wVar 1) (wC (.int 1))) (wCons (wBin subD (wC (.int 0)) (wVar 1)) (wCons (wCB strIC (wCons (wVar 1) wNil)) (wCons (wBin (eqD false) (wVar 1) (wC (.int 1))) wNil)))))) (wC (.int 2))))) wNext)
def wsO3 : DTS := (wIfS (wTru (wIsi .str (wVar 1))) (wSet false 2 (wBin addD (wVar 2) (wLst (wCons (wBin addD (wVar 1) (wC (.str "a"))) (wCons (wSl (wVar 1) (wP (wC (.int 1))) wNoP) (wCons (wUpper (wVar 1)) (wCons (wBin addD (wVar 1) (wC (.str " "))) (wCons (wTup (wCons (wVar 1) wNil)) wNil)))))))) wNext)
def wsO4 : DTS := (wIfS (wTru (wIsi2 .list .tuple (wVar 1))) (wSet false 2 (wBin addD (wVar 2) (wBin mulD (wLst (wCons (wCB listC (wCons (wVar 1) wNil)) (wCons (wCB tupC (wCons (wVar 1) wNil)) (wCons (wRevX (wVar 1)) (wCons (wSl (wVar 1) (wP (wC (.int 1))) wNoP) (wCons (wSl (wVar 1) wNoP (wP (wUn negD (wC (.int 1))))) (wCons (wBin addD (wVar 1) (wSl (wVar 1) wNoP (wP (wC (.int 1))))) wNil))))))) (wC (.int 2))))) wNext)
/-- _law_odd -/
def w_odd3 : DTS := (wSeq wsO1
  (wSeq wsO2
  (wSeq wsO3
  (wSeq wsO4
  (wRet (wCallL Ph_law_pick (wCons (wVar 0) (wCons (wVar 2) wNil))))))))
def Ph_odd3 (bs : List PyData) (rs : List R) (P : R → List PyData → Prop) : Prop := ∃ (N : Int) (b d s : Nat) (x : PyData), Box N bs ∧ N ≤ 2 ^ 39 ∧ rs = [.d x] ∧ Fine b d s x ∧ noB x = true ∧ 2 ≤ b ∧ b ≤ 90 ∧ s ≤ 100000 ∧
  ∀ (y : PyData) (bs' : List PyData), Fine (b + 1) (d + 2) (2 * s + 60) y → Box (N + 1) bs' → P (.d y) bs'
def L17 : List PyData := [.none, .bool true, .bool false, .int 0, .int 1, .int (-1), .int 2, .str "", .str "a", .str "A", .str "abcdefg", .str "a b", .tuple [], .list [], .tuple [.int 0], .tuple [.str "a", .tuple []], .tuple [.str "a", .str "b", .int 1]]
theorem L17_all : L17.all oddB = true := by decide +kernel
theorem L17_len : L17.length = 17 := by decide +kernel
abbrev rhoO (x : PyData) (p2 : Option R) : Rho := [some (.c 0), some (.d x), p2]
section
variable {bs : List PyData} {x : PyData} {E : DEnds} {κ : Kap} {b d s : Nat}
theorem odd_s1 (k : E.nx (rhoO x (some (.d (.list L17)))) κ) : wsO1 E (rhoO x none) κ := by
  unfold wsO1
  exact set_gv (x := .list L17) (gv_lst (xs := L17) ((ga_cons gv_c (ga_cons gv_c (ga_cons gv_c (ga_cons gv_c (ga_cons gv_c (ga_cons gv_neg1 (ga_cons gv_c (ga_cons gv_c (ga_cons gv_c (ga_cons gv_c (ga_cons gv_c (ga_cons gv_c (ga_cons (gv_tup ga_nil (by simp)) (ga_cons (gv_lst ga_nil (by simp)) (ga_cons (gv_tup (ga_cons gv_c ga_nil) (by simp)) (ga_cons (gv_tup (ga_cons gv_c (ga_cons (gv_tup ga_nil (by simp)) ga_nil)) (by simp)) (ga_cons (gv_tup (ga_cons gv_c (ga_cons gv_c (ga_cons gv_c ga_nil))) (by simp)) ga_nil)))))))))))))))))) (by rw [L17_len]; decide)) k
theorem add_l {xs ys : List PyData} (h : xs.length + ys.length ≤ 1000) : addD (.list xs) (.list ys) = some (.n (xs ++ ys)) := addD_list (by rw [sizeLine_eq]; omega)
def I5 (i : Int) : List PyData := [.int (i + 1), .int (i - 1), .int (0 - i), .str ((toString i : String) : Str), .bool (decide (i = 1))]
theorem odd_int {i : Int} {zs : List PyData} (hi : i.natAbs ≤ 90) (lz : zs.length ≤ 100) (k : E.nx (rhoO (.int i) (some (.d (.list (zs ++ (I5 i ++ I5 i)))))) κ) : wsO2 E (rhoO (.int i) (some (.d (.list zs)))) κ := by
  have lg := log2_31 (i := i) (by omega)
  have es : strIC [.int i] = some (.v (.str ((toString i : String) : Str))) := if_pos (by omega)
  unfold wsO2
  rw [s_if]
  refine tv_tru (gv_isi (T := .int) (gv_var (i := 1) rfl)) _ ?_
  rw [show isi (.int i) .int = true from rfl, if_pos rfl]
  have g : Gv (wLst (wCons (wBin addD (wVar 1) (wC (.int 1))) (wCons (wBin subD (wVar 1) (wC (.int 1))) (wCons (wBin subD (wC (.int 0)) (wVar 1)) (wCons (wCB strIC (wCons (wVar 1) wNil)) (wCons (wBin (eqD false) (wVar 1) (wC (.int 1))) wNil)))))) (rhoO (.int i) (some (.d (.list zs)))) κ (.list (I5 i)) :=
    gv_lst (ga_cons (gv_bin (gv_var (i := 1) rfl) gv_c (addD_int i 1) rfl) (ga_cons (gv_bin (gv_var (i := 1) rfl) gv_c (subD_int i 1) rfl) (ga_cons (gv_bin gv_c (gv_var (i := 1) rfl) (subD_int 0 i) rfl) (ga_cons (gv_cb (gv_var (i := 1) rfl) es rfl) (ga_cons (gv_bin (gv_var (i := 1) rfl) gv_c (by rw [eqD_ii]) rfl) ga_nil))))) (show 5 ≤ 1000000 by decide)
  have l5 : (I5 i).length = 5 := rfl
  generalize I5 i = is at g k l5
  exact set_gv (gv_bin (gv_var (i := 2) rfl) (gv_bin g gv_c (mulD_two is (by omega)) rfl) (add_l (by rw [List.length_append]; omega)) rfl) k
theorem odd_noint {zs : List PyData} (h : isi x .int = false) (k : E.nx (rhoO x (some (.d (.list zs)))) κ) : wsO2 E (rhoO x (some (.d (.list zs)))) κ := by
  unfold wsO2
  rw [s_if]
  refine tv_tru (gv_isi (T := .int) (gv_var (i := 1) rfl)) _ ?_
  rw [h, if_neg (by decide), s_next]
  exact k
def S5 (z : Str) : List PyData := [.str (z ++ ("a" : Str)), .str (cutS z (some 1) none), .str (Txt.upper z), .str (z ++ (" " : Str)), .tuple [.str z]]
theorem odd_str {z : Str} {zs : List PyData} (hz : z.length ≤ 100000) (lz : zs.length ≤ 100) (k : E.nx (rhoO (.str z) (some (.d (.list (zs ++ S5 z))))) κ) : wsO3 E (rhoO (.str z) (some (.d (.list zs)))) κ := by
  obtain ⟨l1, l2, l3, l4⟩ := texts_short
  unfold wsO3
  rw [s_if]
  refine tv_tru (gv_isi (T := .str) (gv_var (i := 1) rfl)) _ ?_
  rw [show isi (.str z) .str = true from rfl, if_pos rfl]
  have g : Gv (wLst (wCons (wBin addD (wVar 1) (wC (.str "a"))) (wCons (wSl (wVar 1) (wP (wC (.int 1))) wNoP) (wCons (wUpper (wVar 1)) (wCons (wBin addD (wVar 1) (wC (.str " "))) (wCons (wTup (wCons (wVar 1) wNil)) wNil)))))) (rhoO (.str z) (some (.d (.list zs)))) κ (.list (S5 z)) :=
    gv_lst (ga_cons (ga_app rfl (by omega)) (ga_cons (ga_cut rfl (by omega) (go_at gv_c) fun P h => go_no h) (ga_cons (ga_up rfl (by omega)) (ga_cons (ga_app rfl (by omega)) (ga_cons (gv_tup (ga_cons (gv_var (i := 1) rfl) ga_nil) (by simp)) ga_nil))))) (show 5 ≤ 1000000 by decide)
  have l5 : (S5 z).length = 5 := rfl
  generalize S5 z = is at g k l5
  exact set_gv (gv_bin (gv_var (i := 2) rfl) g (add_l (by omega)) rfl) k
theorem odd_nostr {zs : List PyData} (h : isi x .str = false) (k : E.nx (rhoO x (some (.d (.list zs)))) κ) : wsO3 E (rhoO x (some (.d (.list zs)))) κ := by
  unfold wsO3
  rw [s_if]
  refine tv_tru (gv_isi (T := .str) (gv_var (i := 1) rfl)) _ ?_
  rw [h, if_neg (by decide), s_next]
  exact k
def Q6 (t : Bool) (xs : List PyData) : List PyData := [.list xs, .tuple xs, seqD t xs.reverse, seqD t (cut xs (some 1) none), seqD t (cut xs none (some (-1))), seqD t (xs ++ cut xs none (some 1))]
theorem gv_revD {ρ : Rho} {wa : DTE} {t : Bool} {xs : List PyData} (ha : Gv wa ρ κ (seqD t xs)) : Gv (wRevX wa) ρ κ (seqD t xs.reverse) := fun Q k => by
  rw [s_revX]
  refine ha _ fun r hr => ?_
  rw [hr, val_d, Opt_some]
  cases t with
  | true => exact k (.d (.tuple xs.reverse)) rfl
  | false => exact k (.f xs.reverse) rfl
theorem gv_cutD {ρ : Rho} {wa : DTE} {wl wh : DTO} {lo hi : Option Int} {t : Bool} {xs : List PyData} (ha : Gv wa ρ κ (seqD t xs)) (h1 : ∀ P : Option Int → Kap → Prop, P lo κ → wl ρ κ P) (h2 : ∀ P : Option Int → Kap → Prop, P hi κ → wh ρ κ P) : Gv (wSl wa wl wh) ρ κ (seqD t (cut xs lo hi)) := by
  cases t with
  | true => exact gv_sl ha h1 h2 (slD_tuple ..) rfl
  | false => exact gv_sl ha h1 h2 (slD_list ..) rfl
theorem gv_addD {ρ : Rho} {wa wb : DTE} {t : Bool} {xs ys : List PyData} (ha : Gv wa ρ κ (seqD t xs)) (hb : Gv wb ρ κ (seqD t ys)) (l : xs.length + ys.length ≤ 1000000) : Gv (wBin addD wa wb) ρ κ (seqD t (xs ++ ys)) := by
  cases t with
  | true => exact gv_bin ha hb (addD_tuple (by rw [sizeLine_eq]; omega)) rfl
  | false => exact gv_bin ha hb (addD_list (by rw [sizeLine_eq]; omega)) rfl
theorem odd_seq {t : Bool} {xs zs : List PyData} (lx : xs.length ≤ 100000) (lz : zs.length ≤ 100) (k : E.nx (rhoO (seqD t xs) (some (.d (.list (zs ++ (Q6 t xs ++ Q6 t xs)))))) κ) : wsO4 E (rhoO (seqD t xs) (some (.d (.list zs)))) κ := by
  unfold wsO4
  rw [s_if]
  have e3 : (isi (seqD t xs) .list || isi (seqD t xs) .tuple) = true := by cases t <;> rfl
  have gi : Gv (wIsi2 .list .tuple (wVar 1)) (rhoO (seqD t xs) (some (.d (.list zs)))) κ (.bool true) := fun Q kk => by
    rw [s_isi2]
    refine gv_var (i := 1) (x := seqD t xs) rfl _ fun r hr => ?_
    rw [hr, val_d, Opt_some, e3]
    exact kk _ rfl
  refine tv_tru gi _ ?_
  rw [if_pos rfl]
  have v : Gv (wVar 1) (rhoO (seqD t xs) (some (.d (.list zs)))) κ (seqD t xs) := gv_var (i := 1) rfl
  have el : listC [seqD t xs] = some (.n xs) := by cases t <;> rfl
  have et : ∃ o, tupC [seqD t xs] = some o ∧ o.r.st = .d (.tuple xs) := by
    cases t with
    | true => exact ⟨_, tupC_tuple xs, rfl⟩
    | false => exact ⟨_, tupC_list xs, rfl⟩
  obtain ⟨o, et, eo⟩ := et
  have lc := (cut_sub xs none (some 1)).2
  have g : Gv (wLst (wCons (wCB listC (wCons (wVar 1) wNil)) (wCons (wCB tupC (wCons (wVar 1) wNil)) (wCons (wRevX (wVar 1)) (wCons (wSl (wVar 1) (wP (wC (.int 1))) wNoP) (wCons (wSl (wVar 1) wNoP (wP (wUn negD (wC (.int 1))))) (wCons (wBin addD (wVar 1) (wSl (wVar 1) wNoP (wP (wC (.int 1))))) wNil))))))) (rhoO (seqD t xs) (some (.d (.list zs)))) κ (.list (Q6 t xs)) :=
    gv_lst (ga_cons (gv_cb v el rfl) (ga_cons (gv_cb v et eo) (ga_cons (gv_revD v) (ga_cons (gv_cutD v (go_at gv_c) fun P h => go_no h) (ga_cons (gv_cutD v (fun P h => go_no h) (go_at gv_neg1)) (ga_cons (gv_addD v (gv_cutD v (fun P h => go_no h) (go_at gv_c)) (by omega)) ga_nil)))))) (show 6 ≤ 1000000 by decide)
  have l6 : (Q6 t xs).length = 6 := rfl
  generalize Q6 t xs = is at g k l6
  exact set_gv (gv_bin (gv_var (i := 2) rfl) (gv_bin g gv_c (mulD_two is (by omega)) rfl) (add_l (by rw [List.length_append]; omega)) rfl) k
theorem odd_noseq {zs : List PyData} (h : (isi x .list || isi x .tuple) = false) (k : E.nx (rhoO x (some (.d (.list zs)))) κ) : wsO4 E (rhoO x (some (.d (.list zs)))) κ := by
  unfold wsO4
  rw [s_if]
  have gi : Gv (wIsi2 .list .tuple (wVar 1)) (rhoO x (some (.d (.list zs)))) κ (.bool false) := fun Q kk => by
    rw [s_isi2]
    refine gv_var (i := 1) (x := x) rfl _ fun r hr => ?_
    rw [hr, val_d, Opt_some, h]
    exact kk _ rfl
  refine tv_tru gi _ ?_
  rw [if_neg (by decide), s_next]
  exact k
end
theorem fine_L17 {b d s : Nat} (b2 : 2 ≤ b) : ∀ y ∈ L17, Fine (b + 1) (d + 2) (2 * s + 60) y := fun y hy => (odd_fine (List.all_eq_true.mp L17_all y hy)).mono (by omega) (by omega) (by omega)
theorem fine_I5 {b d s : Nat} {i : Int} (b2 : 2 ≤ b) (b90 : b ≤ 90) (hi : i.natAbs ≤ b) : ∀ y ∈ I5 i, Fine (b + 1) (d + 2) (2 * s + 60) y := fun y hy => by
  obtain ⟨t1, t2⟩ := int_text (i := i) (by omega)
  have fi : ∀ j : Int, j.natAbs ≤ b + 1 → Fine (b + 1) (d + 2) (2 * s + 60) (.int j) := fun j hj => ⟨by simp [PyData.depth], by rw [plain]; exact decide_eq_true hj, Nat.le_trans (weight_int (by omega)) (by omega)⟩
  unfold I5 at hy
  simp only [List.mem_cons, List.not_mem_nil, or_false] at hy
  rcases hy with rfl | rfl | rfl | rfl | rfl
  · exact fi _ (by omega)
  · exact fi _ (by omega)
  · exact fi _ (by omega)
  · exact (fine_str t2 (show _ ≤ 20 by omega)).mono (Nat.le_refl _) (by omega) (by omega)
  · exact ⟨by simp [PyData.depth], by rw [plain], by simp [PyData.weight]⟩
theorem fine_S5 {b d s : Nat} {z : Str} (h : ∀ c ∈ cs z, c < 128) (l : z.length ≤ s) : ∀ y ∈ S5 z, Fine (b + 1) (d + 2) (2 * s + 60) y := fun y hy => by
  obtain ⟨l1, l2, l3, l4⟩ := texts_short
  obtain ⟨p1, p2, p3, p4⟩ := texts_plain
  obtain ⟨u1, u2⟩ := upper_ascii h
  obtain ⟨c1, c2⟩ := cut_str (z := z) (lo := some 1) (hi := none) h
  have e1 := app_len z "a"
  have e2 := app_len z " "
  have fs : ∀ w : Str, (∀ c ∈ cs w, c < 128) → w.length ≤ 2 * s + 60 → Fine (b + 1) (d + 2) (2 * s + 60) (.str w) := fun w h l => (fine_str h l).mono (Nat.le_refl _) (by omega) (Nat.le_refl _)
  unfold S5 at hy
  simp only [List.mem_cons, List.not_mem_nil, or_false] at hy
  rcases hy with rfl | rfl | rfl | rfl | rfl
  · exact fs _ (app_ascii h p1) (by omega)
  · exact fs _ c1 (by omega)
  · exact fs _ u1 (by omega)
  · exact fs _ (app_ascii h p2) (by omega)
  · have f := fine_str (b := b + 1) h (Nat.le_refl z.length)
    refine (fine_tuple (b := b + 1) (n := 0) (s := 2 * s + 60) (xs := [.str z]) (fun y hy => ?_) ?_).mono (Nat.le_refl _) (by omega) (Nat.le_refl _)
    · rw [List.mem_singleton.mp hy]
      exact ⟨f.pl, f.deep⟩
    · have := f.wt
      rw [PyData.weightAll, PyData.weightAll]
      omega
theorem fine_seqD {b d s : Nat} {xs : List PyData} (t : Bool) (h : ∀ x ∈ xs, plain b x = true ∧ x.depth ≤ d) (w : PyData.weightAll xs ≤ s) : Fine b (d + 1) s (seqD t xs) := by
  cases t with
  | true => exact fine_tuple h w
  | false => exact fine_list h w
theorem seqD_fine {b d s : Nat} {t : Bool} {xs : List PyData} (f : Fine b d s (seqD t xs)) : (∀ x ∈ xs, plain b x = true ∧ x.depth ≤ d - 1) ∧ PyData.weightAll xs ≤ s ∧ 1 ≤ d := by
  obtain ⟨f1, f2, f3⟩ := f
  have e1 : PyData.depthAll xs + 1 ≤ d := by
    cases t with
    | true => rw [seqD, if_pos rfl, PyData.depth] at f1; omega
    | false => rw [seqD, if_neg (by decide), PyData.depth] at f1; omega
  have e2 : ∀ x ∈ xs, plain b x = true := by
    cases t with
    | true => exact plain_tuple.mp f2
    | false => exact plain_list.mp f2
  have e3 : PyData.weightAll xs ≤ s := by
    cases t with
    | true => rw [seqD, if_pos rfl, PyData.weight] at f3; omega
    | false => rw [seqD, if_neg (by decide), PyData.weight] at f3; omega
  exact ⟨fun x hx => ⟨e2 x hx, by have := depth_mem hx; omega⟩, e3, by omega⟩
theorem fine_Q6 {b d s : Nat} {t : Bool} {xs : List PyData} (f : Fine b d s (seqD t xs)) : ∀ y ∈ Q6 t xs, Fine (b + 1) (d + 2) (2 * s + 60) y := fun y hy => by
  obtain ⟨h1, h2, h3⟩ := seqD_fine f
  have go : ∀ (u : Bool) (ys : List PyData), (∀ y ∈ ys, y ∈ xs) → PyData.weightAll ys ≤ 2 * s → Fine (b + 1) (d + 2) (2 * s + 60) (seqD u ys) := fun u ys hs hw => by
    refine (fine_seqD (b := b + 1) (d := d) (s := 2 * s + 60) u (fun y hy => ?_) (by omega)).mono (Nat.le_refl _) (by omega) (Nat.le_refl _)
    obtain ⟨a1, a2⟩ := h1 y (hs y hy)
    exact ⟨plain_mono (Nat.le_succ b) a1, by omega⟩
  unfold Q6 at hy
  simp only [List.mem_cons, List.not_mem_nil, or_false] at hy
  have c1 := weight_cut xs (some 1) none
  have c2 := weight_cut xs none (some (-1))
  have c3 := weight_cut xs none (some 1)
  have c4 := weight_rev xs
  have c5 := weight_app xs (cut xs none (some 1))
  rcases hy with rfl | rfl | rfl | rfl | rfl | rfl
  · exact go false xs (fun y h => h) (by omega)
  · exact go true xs (fun y h => h) (by omega)
  · exact go t _ (fun y h => List.mem_reverse.mp h) (by omega)
  · exact go t _ (fun y h => (cut_sub ..).1 y h) (by omega)
  · exact go t _ (fun y h => (cut_sub ..).1 y h) (by omega)
  · refine go t _ (fun y h => ?_) (by omega)
    rcases List.mem_append.mp h with h | h
    · exact h
    · exact (cut_sub ..).1 y h
theorem app_all {P : PyData → Prop} {xs ys : List PyData} (h1 : ∀ y ∈ xs, P y) (h2 : ∀ y ∈ ys, P y) : ∀ y ∈ xs ++ ys, P y := fun y hy => (List.mem_append.mp hy).elim (h1 y) (h2 y)
theorem seq_or (x : PyData) : (∃ t xs, x = seqD t xs) ∨ (isi x .list || isi x .tuple) = false := by
  cases x with
  | list xs => exact .inl ⟨false, xs, rfl⟩
  | tuple xs => exact .inl ⟨true, xs, rfl⟩
  | _ => exact .inr rfl
theorem odd3_fin {bs : List PyData} {x : PyData} {Pd : R → List PyData → Prop} {N : Int} {zs : List PyData} {b d s : Nat} (hb : Box N bs) (hN : N ≤ 2 ^ 39) (l0 : 0 < zs.length) (l1 : zs.length ≤ 100) (hz : ∀ y ∈ zs, Fine b d s y)
    (k : ∀ (y : PyData) (bs' : List PyData), Fine b d s y → Box (N + 1) bs' → Pd (.d y) bs') : (wRet (wCallL Ph_law_pick (wCons (wVar 0) (wCons (wVar 2) wNil)))) (EB Pd) (rhoO x (some (.d (.list zs)))) [.l bs] := by
  rw [s_ret]
  simp only [s_callL, s_call, s_cons, s_consM, s_nil, s_c, s_var, s_bin, s_un, s_lst, s_tup, s_cb, s_B, s_tru, s_not, s_repr, List.getElem?_cons_succ, List.getElem?_cons_zero, List.set_cons_succ, List.set_cons_zero, st_d, st_f, st_c, val_d, val_f, dats_d, dats_nil, vals_cons, vals_nil, lend_c, args_d, DL.args_nil, Opt_some, out_v, out_n, out_t, lab_d, lab_f, sto_f, sto_d, List.length_cons, List.length_nil, lenD_list, lenD_tuple, listC_list, listC_tuple, tupC_list, tupC_tuple, istt, istf, Bool.not_true, Bool.not_false, Bool.false_eq_true, if_false, if_true]
  refine ⟨N, zs, hb, hN, rfl, l0, by omega, fun y bs' hy hb' => ?_⟩
  simp only [s_callL, s_call, s_cons, s_consM, s_nil, s_c, s_var, s_bin, s_un, s_lst, s_tup, s_cb, s_B, s_tru, s_not, s_repr, List.getElem?_cons_succ, List.getElem?_cons_zero, List.set_cons_succ, List.set_cons_zero, st_d, st_f, st_c, val_d, val_f, dats_d, dats_nil, vals_cons, vals_nil, lend_c, args_d, DL.args_nil, Opt_some, out_v, out_n, out_t, lab_d, lab_f, sto_f, sto_d, List.length_cons, List.length_nil, lenD_list, lenD_tuple, listC_list, listC_tuple, tupC_list, tupC_tuple, istt, istf, Bool.not_true, Bool.not_false, Bool.false_eq_true, if_false, if_true, endL_d]
  exact k y bs' (hz y hy) hb'
theorem r_odd3 (bs : List PyData) (rs : List R) (Pd : R → List PyData → Prop) (h : Ph_odd3 bs rs Pd) (hl : rs.length = 1) : w_odd3 { nx := fun _ κ => endL κ (.d .none) Pd, rt := fun r κ => endL κ r Pd } (some (.c 0) :: (rs.map some ++ List.replicate 1 none)) [.l bs] := by
  obtain ⟨N, b, d, s, x, hb, hN, rfl, f, nb, b2, b90, s1, k⟩ := h
  clear hl
  simp only [List.map_cons, List.map_nil, List.replicate_succ, List.replicate_zero, List.cons_append, List.nil_append]
  unfold w_odd3
  have l17 := L17_len
  have f17 := fine_L17 (b := b) (d := d) (s := s) b2
  rw [s_seq]
  refine odd_s1 ?_
  generalize L17 = zs at l17 f17 ⊢
  dsimp only
  rw [s_seq]
  rcases seq_or x with ⟨t, xs, rfl⟩ | hq
  · have lx : xs.length ≤ 100000 := by
      have := (seqD_fine f).2.1
      have := weight_len xs
      omega
    refine odd_noint (by cases t <;> rfl) ?_
    dsimp only
    rw [s_seq]
    refine odd_nostr (by cases t <;> rfl) ?_
    dsimp only
    rw [s_seq]
    refine odd_seq lx (by omega) ?_
    have l6 : (Q6 t xs).length = 6 := rfl
    have f6 := fine_Q6 f
    generalize Q6 t xs = ys at l6 f6 ⊢
    exact odd3_fin (x := seqD t xs) hb hN (by rw [List.length_append]; omega) (by rw [List.length_append, List.length_append]; omega) (app_all f17 (app_all f6 f6)) k
  · by_cases hi : ∃ i, x = .int i
    · obtain ⟨i, rfl⟩ := hi
      have ib : i.natAbs ≤ b := by
        have := f.pl
        rw [plain] at this
        exact of_decide_eq_true this
      refine odd_int (by omega) (by omega) ?_
      have l5 : (I5 i).length = 5 := rfl
      have f5 := fine_I5 (d := d) (s := s) b2 b90 ib
      generalize I5 i = ys at l5 f5 ⊢
      dsimp only
      rw [s_seq]
      refine odd_nostr rfl ?_
      dsimp only
      rw [s_seq]
      refine odd_noseq rfl ?_
      exact odd3_fin (x := .int i) hb hN (by rw [List.length_append]; omega) (by rw [List.length_append, List.length_append]; omega) (app_all f17 (app_all f5 f5)) k
    · have ni : isi x .int = false := by
        cases x with
        | int i => exact absurd ⟨i, rfl⟩ hi
        | bool c => rw [noB] at nb; cases nb
        | _ => rfl
      refine odd_noint ni ?_
      dsimp only
      rw [s_seq]
      by_cases hs : ∃ z, x = .str z
      · obtain ⟨z, rfl⟩ := hs
        have lz : z.length ≤ s := by
          have := f.wt
          rw [PyData.weight] at this
          exact this
        refine odd_str (by omega) (by omega) ?_
        have l5 : (S5 z).length = 5 := rfl
        have f5 := fine_S5 (b := b) (d := d) (s := s) (str_ascii f.pl) lz
        generalize S5 z = ys at l5 f5 ⊢
        dsimp only
        rw [s_seq]
        refine odd_noseq rfl ?_
        exact odd3_fin (x := .str z) hb hN (by rw [List.length_append]; omega) (by rw [List.length_append]; omega) (app_all f17 f5) k
      · have ns : isi x .str = false := by
          cases x with
          | str z => exact absurd ⟨z, rfl⟩ hs
          | _ => rfl
        refine odd_nostr ns ?_
        dsimp only
        rw [s_seq]
        refine odd_noseq hq ?_
        exact odd3_fin (x := x) hb hN (by omega) (by omega) f17 k
def Ph_bent3N : Nat → List PyData → List R → (R → List PyData → Prop) → Prop
  | 0, _, _, _ => False
  | n + 1, bs, rs, P => ∃ (N : Int) (b d s : Nat) (x : PyData), Box N bs ∧ N + 10 * ((n : Int) + 1) ≤ 2 ^ 38 ∧ rs = [.d x] ∧ Fine b d s x ∧ noB x = true ∧ d ≤ n ∧ 2 ≤ b ∧ b ≤ 90 ∧ s ≤ 100000 ∧
    ∀ (r : R) (y : PyData) (bs' : List PyData), r.st = .d y → Fine (b + 1) (d + 2) (2 * s + 60) y → Box (N + 10 * ((n : Int) + 1)) bs' → P r bs'
theorem n_bent3 {bs : List PyData} {rs : List R} {P : R → List PyData → Prop} (h : Ph_bent3N 0 bs rs P) : False := h
def wsB1 : DTS := (wIfS (wOr (wNot (wTru (wIsi2 .list .tuple (wVar 1)))) (wOr (wB (wBin (eqD false) (wCB lenD (wCons (wVar 1) wNil)) (wC (.int 0)))) (wB (wBin (eqD false) (wCallL Ph_law_take (wCons (wVar 0) (wCons (wC (.int 6)) wNil))) (wC (.int 0)))))) (wRet (wCallL Ph_odd3 (wCons (wVar 0) (wCons (wVar 1) wNil)))) wNext)
def wsB2 : DTS := (wSet false 2 (wBin ixD (wLst (wCons (wBin subD (wCB lenD (wCons (wVar 1) wNil)) (wC (.int 1))) (wCons (wCallL Ph_law_take (wCons (wVar 0) (wCons (wCB lenD (wCons (wVar 1) wNil)) wNil))) wNil))) (wCallL Ph_law_take (wCons (wVar 0) (wCons (wC (.int 2)) wNil)))))
def wsB3 : DTS := (wPar 3 4 (wConsM true (wCB listC (wCons (wVar 1) wNil)) (wConsM false (wCallL Ph_law_take (wCons (wVar 0) (wCons (wC (.int 8)) wNil))) wNil)))
def wsB4 (Ph : List PyData → List R → (R → List PyData → Prop) → Prop) : DTS := (wIfS (wB (wBin (eqD false) (wVar 4) (wC (.int 0)))) (wDrop (wPop1 (wVar 3) (wVar 2))) (wIfS (wB (wBin (eqD false) (wVar 4) (wC (.int 1)))) (wDrop (wInsert (wVar 3) (wVar 2) (wBin ixD (wVar 3) (wVar 2)))) (wIfS (wB (wBin (eqD false) (wVar 4) (wC (.int 2)))) (wAsg (wRevS (wSl (wVar 3) (wP (wVar 2)) (wP (wBin addD (wVar 2) (wC (.int 2)))))) (wSubSl (wVar 3) (wP (wVar 2)) (wP (wBin addD (wVar 2) (wC (.int 2)))))) (wAsg (wCallL Ph (wCons (wVar 0) (wCons (wBin ixD (wVar 3) (wVar 2)) wNil))) (wSub (wVar 3) (wVar 2))))))
def wrB : DTS := (wRet (wIf (wTru (wIsi .list (wVar 1))) (wVar 3) (wCB tupC (wCons (wVar 3) wNil))))
/-- _law_bent -/
def w_bent3 (Ph : List PyData → List R → (R → List PyData → Prop) → Prop) : DTS := (wSeq wsB1
  (wSeq wsB2
  (wSeq wsB3
  (wSeq (wsB4 Ph)
  wrB))))
section
variable {n b s : Nat} {t : Bool} {xs : List PyData} {Pd : R → List PyData → Prop} {bs : List PyData} {N : Int}
theorem bent3_fin {ys : List PyData} {bs' : List PyData} {p2 p4 : Option R} (k1 : ∀ (r : R) (t' : Bool), r.st = .d (seqD t' ys) → Pd r bs') :
    wrB (EB Pd) [some (.c 0), some (.d (seqD t xs)), p2, some (.c 1), p4] [.l bs', .l ys] := by
  have a : endL [.l bs', .l ys] (.c 1) Pd := by
    show Pd (.f ys) bs'
    exact k1 _ false rfl
  have c : endL [.l bs', .l ys] (.d (.tuple ys)) Pd := by
    rw [endL_d]
    exact k1 _ true rfl
  unfold wrB
  rw [s_ret, s_ifx, s_tru, s_isi]
  simp only [s_callL, s_call, s_cons, s_consM, s_nil, s_c, s_var, s_bin, s_un, s_lst, s_tup, s_cb, s_B, s_tru, s_not, s_repr, List.getElem?_cons_succ, List.getElem?_cons_zero, List.set_cons_succ, List.set_cons_zero, st_d, st_f, st_c, val_d, val_f, dats_d, dats_nil, vals_cons, vals_nil, lend_c, args_d, DL.args_nil, Opt_some, out_v, out_n, out_t, lab_d, lab_f, sto_f, sto_d, List.length_cons, List.length_nil, lenD_list, lenD_tuple, listC_list, listC_tuple, tupC_list, tupC_tuple, istt, istf, Bool.not_true, Bool.not_false, Bool.false_eq_true, if_false, if_true]
  cases t with
  | true =>
    show Opt (truth (.bool false)) _
    rw [truth_b, Opt_some, if_neg (by decide)]
    show Opt (vals [.l bs', .l ys] [.c 1]) _
    exact c
  | false =>
    show Opt (truth (.bool true)) _
    rw [truth_b, Opt_some, if_pos rfl]
    exact a
theorem bent3_way {i w l : Nat} (nl : n ≤ l) (hh : ∀ x ∈ xs, plain b x = true ∧ x.depth ≤ n) (wl : PyData.weightAll xs ≤ s) (nb : noBs xs = true) (b2 : 2 ≤ b) (b90 : b ≤ 90) (s1 : s ≤ 100000) (hi : i < xs.length) (hb : Box N bs) (hN : N + 10 * ((l : Int) + 1) ≤ 2 ^ 38)
    (k1 : ∀ (r : R) (t' : Bool) (ys bs' : List PyData), r.st = .d (seqD t' ys) → (∀ y ∈ ys, plain (b + 1) y = true ∧ y.depth ≤ n + 2) → PyData.weightAll ys ≤ 2 * s + 60 → Box (N + 10 * ((l : Int) + 1)) bs' → Pd r bs') :
    (wSeq (wsB4 (Ph_bent3N (l + 1))) wrB) (EB Pd) [some (.c 0), some (.d (seqD t xs)), some (.d (.int (i : Int))), some (.c 1), some (.d (.int (w : Int)))] [.l bs, .l xs] := by
  have hz := sizeLine_eq
  have ll := weight_len xs
  have items : ∀ y ∈ xs, plain (b + 1) y = true ∧ y.depth ≤ n + 2 := fun y hy => ⟨plain_mono (Nat.le_succ b) (hh y hy).1, by have := (hh y hy).2; omega⟩
  have fin : ∀ (ys bs' : List PyData), (∀ y ∈ ys, plain (b + 1) y = true ∧ y.depth ≤ n + 2) → PyData.weightAll ys ≤ 2 * s + 60 → Box (N + 10 * ((l : Int) + 1)) bs' → _ := fun ys bs' h1 h2 h3 => bent3_fin (t := t) (xs := xs) (p2 := some (.d (.int (i : Int)))) (p4 := some (.d (.int (w : Int)))) (bs' := bs') (ys := ys) (Pd := Pd) fun r t' hr => k1 r t' ys bs' hr h1 h2 h3
  have hx : xs[i]? = some xs[i] := List.getElem?_eq_getElem hi
  have ex : ixD (.list xs) (.int (i : Int)) = some (.v xs[i]) := ixD_list (atI_nat hx)
  have fx := hh _ (List.getElem_mem hi)
  have nx := noBs_iff.mp nb _ (List.getElem_mem hi)
  have wx := weight_mem (List.getElem_mem hi)
  unfold wsB4
  rw [s_seq, s_if]
  simp only [s_callL, s_call, s_cons, s_consM, s_nil, s_c, s_var, s_bin, s_un, s_lst, s_tup, s_cb, s_B, s_tru, s_not, s_repr, List.getElem?_cons_succ, List.getElem?_cons_zero, List.set_cons_succ, List.set_cons_zero, st_d, st_f, st_c, val_d, val_f, dats_d, dats_nil, vals_cons, vals_nil, lend_c, args_d, DL.args_nil, Opt_some, out_v, out_n, out_t, lab_d, lab_f, sto_f, sto_d, List.length_cons, List.length_nil, lenD_list, lenD_tuple, listC_list, listC_tuple, tupC_list, tupC_tuple, istt, istf, Bool.not_true, Bool.not_false, Bool.false_eq_true, if_false, if_true, eqD_ii]
  by_cases c0 : w = 0
  · rw [if_pos (decide_eq_true (by omega)), s_drop]
    simp only [s_callL, s_call, s_cons, s_consM, s_nil, s_c, s_var, s_bin, s_un, s_lst, s_tup, s_cb, s_B, s_tru, s_not, s_repr, List.getElem?_cons_succ, List.getElem?_cons_zero, List.set_cons_succ, List.set_cons_zero, st_d, st_f, st_c, val_d, val_f, dats_d, dats_nil, vals_cons, vals_nil, lend_c, args_d, DL.args_nil, Opt_some, out_v, out_n, out_t, lab_d, lab_f, sto_f, sto_d, List.length_cons, List.length_nil, lenD_list, lenD_tuple, listC_list, listC_tuple, tupC_list, tupC_tuple, istt, istf, Bool.not_true, Bool.not_false, Bool.false_eq_true, if_false, if_true, s_pop1]
    refine ⟨⟨_, rfl⟩, by omega, by omega, ?_⟩
    rw [Int.toNat_natCast, hx, Opt_some]
    have we := weight_erase i xs
    exact fin (xs.eraseIdx i) bs (fun u hu => items u (List.mem_of_mem_eraseIdx hu)) (by omega) (hb.mono (by omega))
  rw [if_neg (by simp; omega), s_if]
  simp only [s_callL, s_call, s_cons, s_consM, s_nil, s_c, s_var, s_bin, s_un, s_lst, s_tup, s_cb, s_B, s_tru, s_not, s_repr, List.getElem?_cons_succ, List.getElem?_cons_zero, List.set_cons_succ, List.set_cons_zero, st_d, st_f, st_c, val_d, val_f, dats_d, dats_nil, vals_cons, vals_nil, lend_c, args_d, DL.args_nil, Opt_some, out_v, out_n, out_t, lab_d, lab_f, sto_f, sto_d, List.length_cons, List.length_nil, lenD_list, lenD_tuple, listC_list, listC_tuple, tupC_list, tupC_tuple, istt, istf, Bool.not_true, Bool.not_false, Bool.false_eq_true, if_false, if_true, eqD_ii]
  by_cases c1 : w = 1
  · rw [if_pos (decide_eq_true (by omega)), s_drop]
    simp only [s_callL, s_call, s_cons, s_consM, s_nil, s_c, s_var, s_bin, s_un, s_lst, s_tup, s_cb, s_B, s_tru, s_not, s_repr, List.getElem?_cons_succ, List.getElem?_cons_zero, List.set_cons_succ, List.set_cons_zero, st_d, st_f, st_c, val_d, val_f, dats_d, dats_nil, vals_cons, vals_nil, lend_c, args_d, DL.args_nil, Opt_some, out_v, out_n, out_t, lab_d, lab_f, sto_f, sto_d, List.length_cons, List.length_nil, lenD_list, lenD_tuple, listC_list, listC_tuple, tupC_list, tupC_tuple, istt, istf, Bool.not_true, Bool.not_false, Bool.false_eq_true, if_false, if_true, s_insert, val_1, ex, dat_d]
    refine ⟨⟨_, rfl⟩, by omega, by omega, by omega, ?_⟩
    rw [Int.toNat_natCast]
    have wp := weight_parts i xs
    refine fin (xs.take i ++ [xs[i]] ++ xs.drop i) bs (fun u hu => ?_) ?_ (hb.mono (by omega))
    · rcases List.mem_append.mp hu with h | h
      · rcases List.mem_append.mp h with h | h
        · exact items u (List.mem_of_mem_take h)
        · rw [List.mem_singleton.mp h]; exact items _ (List.getElem_mem hi)
      · exact items u (List.mem_of_mem_drop h)
    · rw [weight_app, weight_app, PyData.weightAll, PyData.weightAll]
      omega
  rw [if_neg (by simp; omega), s_if]
  simp only [s_callL, s_call, s_cons, s_consM, s_nil, s_c, s_var, s_bin, s_un, s_lst, s_tup, s_cb, s_B, s_tru, s_not, s_repr, List.getElem?_cons_succ, List.getElem?_cons_zero, List.set_cons_succ, List.set_cons_zero, st_d, st_f, st_c, val_d, val_f, dats_d, dats_nil, vals_cons, vals_nil, lend_c, args_d, DL.args_nil, Opt_some, out_v, out_n, out_t, lab_d, lab_f, sto_f, sto_d, List.length_cons, List.length_nil, lenD_list, lenD_tuple, listC_list, listC_tuple, tupC_list, tupC_tuple, istt, istf, Bool.not_true, Bool.not_false, Bool.false_eq_true, if_false, if_true, eqD_ii]
  by_cases c2 : w = 2
  · rw [if_pos (decide_eq_true (by omega)), s_asg, s_revS]
    have ec : cut xs (some (i : Int)) (some ((i : Int) + 2)) = (xs.drop i).take 2 := cut_mid xs i 2
    simp only [s_callL, s_call, s_cons, s_consM, s_nil, s_c, s_var, s_bin, s_un, s_lst, s_tup, s_cb, s_B, s_tru, s_not, s_repr, List.getElem?_cons_succ, List.getElem?_cons_zero, List.set_cons_succ, List.set_cons_zero, st_d, st_f, st_c, val_d, val_f, dats_d, dats_nil, vals_cons, vals_nil, lend_c, args_d, DL.args_nil, Opt_some, out_v, out_n, out_t, lab_d, lab_f, sto_f, sto_d, List.length_cons, List.length_nil, lenD_list, lenD_tuple, listC_list, listC_tuple, tupC_list, tupC_tuple, istt, istf, Bool.not_true, Bool.not_false, Bool.false_eq_true, if_false, if_true, s_sl, s_P, val_1, addD_int, slD_list, ec]
    rw [s_subSl, dat_d, Opt_some]
    simp only [s_callL, s_call, s_cons, s_consM, s_nil, s_c, s_var, s_bin, s_un, s_lst, s_tup, s_cb, s_B, s_tru, s_not, s_repr, List.getElem?_cons_succ, List.getElem?_cons_zero, List.set_cons_succ, List.set_cons_zero, st_d, st_f, st_c, val_d, val_f, dats_d, dats_nil, vals_cons, vals_nil, lend_c, args_d, DL.args_nil, Opt_some, out_v, out_n, out_t, lab_d, lab_f, sto_f, sto_d, List.length_cons, List.length_nil, lenD_list, lenD_tuple, listC_list, listC_tuple, tupC_list, tupC_tuple, istt, istf, Bool.not_true, Bool.not_false, Bool.false_eq_true, if_false, if_true, s_P, addD_int]
    have lr : ((xs.drop i).take 2).reverse.length ≤ 2 := by rw [List.length_reverse]; exact List.length_take_le _ _
    have w1 := weight_parts i xs
    have w2 := weight_parts 2 (xs.drop i)
    have w3 := weight_rev ((xs.drop i).take 2)
    have e4 : xs.drop (min (i + 2) xs.length) = (xs.drop i).drop 2 := by
      rw [List.drop_drop]
      by_cases q : i + 2 ≤ xs.length
      · rw [Nat.min_eq_left q]
      · rw [Nat.min_eq_right (by omega), List.drop_of_length_le (Nat.le_refl _), List.drop_of_length_le (by omega)]
    show i ≤ min (i + 2) xs.length ∧ xs.length + ((xs.drop i).take 2).reverse.length ≤ 1000000 ∧ _
    refine ⟨by omega, by omega, ?_⟩
    show wrB (EB Pd) [some (.c 0), some (.d (seqD t xs)), some (.d (.int (i : Int))), some (.c 1), some (.d (.int (w : Int)))] [.l bs, .l (xs.take i ++ ((xs.drop i).take 2).reverse ++ xs.drop (min (i + 2) xs.length))]
    rw [e4]
    refine fin (xs.take i ++ ((xs.drop i).take 2).reverse ++ (xs.drop i).drop 2) bs (fun u hu => ?_) ?_ (hb.mono (by omega))
    · rcases List.mem_append.mp hu with h | h
      · rcases List.mem_append.mp h with h | h
        · exact items u (List.mem_of_mem_take h)
        · exact items u (List.mem_of_mem_drop (List.mem_of_mem_take (List.mem_reverse.mp h)))
      · exact items u (List.mem_of_mem_drop (List.mem_of_mem_drop h))
    · rw [weight_app, weight_app, w3]
      omega
  rw [if_neg (by simp; omega), s_asg]
  simp only [s_callL, s_call, s_cons, s_consM, s_nil, s_c, s_var, s_bin, s_un, s_lst, s_tup, s_cb, s_B, s_tru, s_not, s_repr, List.getElem?_cons_succ, List.getElem?_cons_zero, List.set_cons_succ, List.set_cons_zero, st_d, st_f, st_c, val_d, val_f, dats_d, dats_nil, vals_cons, vals_nil, lend_c, args_d, DL.args_nil, Opt_some, out_v, out_n, out_t, lab_d, lab_f, sto_f, sto_d, List.length_cons, List.length_nil, lenD_list, lenD_tuple, listC_list, listC_tuple, tupC_list, tupC_tuple, istt, istf, Bool.not_true, Bool.not_false, Bool.false_eq_true, if_false, if_true, val_1, ex]
  refine ⟨N, b, n, xs[i].weight, xs[i], hb, by omega, rfl, ⟨fx.2, fx.1, Nat.le_refl _⟩, nx, nl, b2, b90, by omega, fun r y bs' hr fy hb' => ?_⟩
  have el : (r.lab 0).st = .d y := lab_st hr 0
  dsimp only
  rw [el, s_sub, dat_d, Opt_some]
  simp only [s_callL, s_call, s_cons, s_consM, s_nil, s_c, s_var, s_bin, s_un, s_lst, s_tup, s_cb, s_B, s_tru, s_not, s_repr, List.getElem?_cons_succ, List.getElem?_cons_zero, List.set_cons_succ, List.set_cons_zero, st_d, st_f, st_c, val_d, val_f, dats_d, dats_nil, vals_cons, vals_nil, lend_c, args_d, DL.args_nil, Opt_some, out_v, out_n, out_t, lab_d, lab_f, sto_f, sto_d, List.length_cons, List.length_nil, lenD_list, lenD_tuple, listC_list, listC_tuple, tupC_list, tupC_tuple, istt, istf, Bool.not_true, Bool.not_false, Bool.false_eq_true, if_false, if_true]
  have ei : ixN xs.length (i : Int) = some i := by
    unfold ixN
    rw [if_pos (by omega), if_pos (by omega), Int.toNat_natCast]
  show Opt (ixN xs.length (i : Int)) _
  rw [ei, Opt_some]
  have ws := weight_set (y := y) hx
  have := fy.wt
  refine fin (xs.set i y) bs' (fun u hu => ?_) (by omega) hb'
  rcases List.mem_or_eq_of_mem_set hu with h | rfl
  · exact items u h
  · exact ⟨fy.pl, fy.deep⟩
end
theorem r_bent3 (n : Nat) (bs : List PyData) (rs : List R) (Pd : R → List PyData → Prop) (h : Ph_bent3N (n + 1) bs rs Pd) (hl : rs.length = 1) : w_bent3 (Ph_bent3N n) { nx := fun _ κ => endL κ (.d .none) Pd, rt := fun r κ => endL κ r Pd } (some (.c 0) :: (rs.map some ++ List.replicate 3 none)) [.l bs] := by
  obtain ⟨N, b, d, s, x, hb, hN, rfl, f, nb, dn, b2, b90, s1, k⟩ := h
  clear hl
  have hz := sizeLine_eq
  simp only [List.map_cons, List.map_nil, List.replicate_succ, List.replicate_zero, List.cons_append, List.nil_append]
  unfold w_bent3
  have odd : ∀ (bs1 : List PyData) (M : Int), Box M bs1 → N ≤ M → M ≤ N + 4 → (wRet (wCallL Ph_odd3 (wCons (wVar 0) (wCons (wVar 1) wNil)))) (EB Pd) [some (.c 0), some (.d x), none, none, none] [.l bs1] := fun bs1 M hb1 h1 h2 => by
    rw [s_ret]
    simp only [s_callL, s_call, s_cons, s_consM, s_nil, s_c, s_var, s_bin, s_un, s_lst, s_tup, s_cb, s_B, s_tru, s_not, s_repr, List.getElem?_cons_succ, List.getElem?_cons_zero, List.set_cons_succ, List.set_cons_zero, st_d, st_f, st_c, val_d, val_f, dats_d, dats_nil, vals_cons, vals_nil, lend_c, args_d, DL.args_nil, Opt_some, out_v, out_n, out_t, lab_d, lab_f, sto_f, sto_d, List.length_cons, List.length_nil, lenD_list, lenD_tuple, listC_list, listC_tuple, tupC_list, tupC_tuple, istt, istf, Bool.not_true, Bool.not_false, Bool.false_eq_true, if_false, if_true]
    refine ⟨M, b, d, s, x, hb1, by omega, rfl, f, nb, b2, b90, s1, fun y bs2 fy hb2 => ?_⟩
    simp only [s_callL, s_call, s_cons, s_consM, s_nil, s_c, s_var, s_bin, s_un, s_lst, s_tup, s_cb, s_B, s_tru, s_not, s_repr, List.getElem?_cons_succ, List.getElem?_cons_zero, List.set_cons_succ, List.set_cons_zero, st_d, st_f, st_c, val_d, val_f, dats_d, dats_nil, vals_cons, vals_nil, lend_c, args_d, DL.args_nil, Opt_some, out_v, out_n, out_t, lab_d, lab_f, sto_f, sto_d, List.length_cons, List.length_nil, lenD_list, lenD_tuple, listC_list, listC_tuple, tupC_list, tupC_tuple, istt, istf, Bool.not_true, Bool.not_false, Bool.false_eq_true, if_false, if_true, endL_d]
    exact k _ y bs2 rfl fy (hb2.mono (by omega))
  unfold wsB1
  rw [s_seq, s_if]
  rcases seq_or x with ⟨t, xs, rfl⟩ | hq
  · obtain ⟨h1, h2, h3⟩ := seqD_fine f
    have ll := weight_len xs
    have e1 : lenD [seqD t xs] = some (.v (.int (xs.length : Nat))) := by
      cases t with
      | true => exact lenD_tuple xs
      | false => exact lenD_list xs
    have e2 : listC [seqD t xs] = some (.n xs) := by cases t <;> rfl
    have e3 : (isi (seqD t xs) .list || isi (seqD t xs) .tuple) = true := by cases t <;> rfl
    rw [s_or, s_not]
    simp only [s_callL, s_call, s_cons, s_consM, s_nil, s_c, s_var, s_bin, s_un, s_lst, s_tup, s_cb, s_B, s_tru, s_not, s_repr, List.getElem?_cons_succ, List.getElem?_cons_zero, List.set_cons_succ, List.set_cons_zero, st_d, st_f, st_c, val_d, val_f, dats_d, dats_nil, vals_cons, vals_nil, lend_c, args_d, DL.args_nil, Opt_some, out_v, out_n, out_t, lab_d, lab_f, sto_f, sto_d, List.length_cons, List.length_nil, lenD_list, lenD_tuple, listC_list, listC_tuple, tupC_list, tupC_tuple, istt, istf, Bool.not_true, Bool.not_false, Bool.false_eq_true, if_false, if_true, s_isi2, e3]
    try simp only [s_callL, s_call, s_cons, s_consM, s_nil, s_c, s_var, s_bin, s_un, s_lst, s_tup, s_cb, s_B, s_tru, s_not, s_repr, List.getElem?_cons_succ, List.getElem?_cons_zero, List.set_cons_succ, List.set_cons_zero, st_d, st_f, st_c, val_d, val_f, dats_d, dats_nil, vals_cons, vals_nil, lend_c, args_d, DL.args_nil, Opt_some, out_v, out_n, out_t, lab_d, lab_f, sto_f, sto_d, List.length_cons, List.length_nil, lenD_list, lenD_tuple, listC_list, listC_tuple, tupC_list, tupC_tuple, istt, istf, Bool.not_true, Bool.not_false, Bool.false_eq_true, if_false, if_true, truth_b]
    rw [s_or]
    simp only [s_callL, s_call, s_cons, s_consM, s_nil, s_c, s_var, s_bin, s_un, s_lst, s_tup, s_cb, s_B, s_tru, s_not, s_repr, List.getElem?_cons_succ, List.getElem?_cons_zero, List.set_cons_succ, List.set_cons_zero, st_d, st_f, st_c, val_d, val_f, dats_d, dats_nil, vals_cons, vals_nil, lend_c, args_d, DL.args_nil, Opt_some, out_v, out_n, out_t, lab_d, lab_f, sto_f, sto_d, List.length_cons, List.length_nil, lenD_list, lenD_tuple, listC_list, listC_tuple, tupC_list, tupC_tuple, istt, istf, Bool.not_true, Bool.not_false, Bool.false_eq_true, if_false, if_true, e1, eqD_ii]
    by_cases c0 : xs.length = 0
    · rw [if_pos (decide_eq_true (by omega))]
      exact odd bs N hb (by omega) (by omega)
    rw [if_neg (show ¬ decide ((xs.length : Int) = 0) = true by rw [decide_eq_true_iff]; omega)]
    refine ⟨N, 6, hb, by omega, rfl, by decide, by decide, fun w bs1 w0 w1 hb1 => ?_⟩
    simp only [s_callL, s_call, s_cons, s_consM, s_nil, s_c, s_var, s_bin, s_un, s_lst, s_tup, s_cb, s_B, s_tru, s_not, s_repr, List.getElem?_cons_succ, List.getElem?_cons_zero, List.set_cons_succ, List.set_cons_zero, st_d, st_f, st_c, val_d, val_f, dats_d, dats_nil, vals_cons, vals_nil, lend_c, args_d, DL.args_nil, Opt_some, out_v, out_n, out_t, lab_d, lab_f, sto_f, sto_d, List.length_cons, List.length_nil, lenD_list, lenD_tuple, listC_list, listC_tuple, tupC_list, tupC_tuple, istt, istf, Bool.not_true, Bool.not_false, Bool.false_eq_true, if_false, if_true, eqD_ii]
    by_cases cw : w = 0
    · rw [if_pos (decide_eq_true cw)]
      exact odd bs1 (N + 1) hb1 (by omega) (by omega)
    rw [if_neg (by simp; omega), s_next]
    dsimp only
    unfold wsB2
    rw [s_seq, s_set, s_bin, s_lst]
    simp only [s_callL, s_call, s_cons, s_consM, s_nil, s_c, s_var, s_bin, s_un, s_lst, s_tup, s_cb, s_B, s_tru, s_not, s_repr, List.getElem?_cons_succ, List.getElem?_cons_zero, List.set_cons_succ, List.set_cons_zero, st_d, st_f, st_c, val_d, val_f, dats_d, dats_nil, vals_cons, vals_nil, lend_c, args_d, DL.args_nil, Opt_some, out_v, out_n, out_t, lab_d, lab_f, sto_f, sto_d, List.length_cons, List.length_nil, lenD_list, lenD_tuple, listC_list, listC_tuple, tupC_list, tupC_tuple, istt, istf, Bool.not_true, Bool.not_false, Bool.false_eq_true, if_false, if_true, e1, subD_int]
    refine ⟨N + 1, xs.length, hb1, by omega, rfl, by omega, by omega, fun j bs2 j0 j1 hb2 => ?_⟩
    simp only [s_callL, s_call, s_cons, s_consM, s_nil, s_c, s_var, s_bin, s_un, s_lst, s_tup, s_cb, s_B, s_tru, s_not, s_repr, List.getElem?_cons_succ, List.getElem?_cons_zero, List.set_cons_succ, List.set_cons_zero, st_d, st_f, st_c, val_d, val_f, dats_d, dats_nil, vals_cons, vals_nil, lend_c, args_d, DL.args_nil, Opt_some, out_v, out_n, out_t, lab_d, lab_f, sto_f, sto_d, List.length_cons, List.length_nil, lenD_list, lenD_tuple, listC_list, listC_tuple, tupC_list, tupC_tuple, istt, istf, Bool.not_true, Bool.not_false, Bool.false_eq_true, if_false, if_true]
    refine ⟨by omega, N + 2, 2, hb2.mono (by omega), by omega, rfl, by decide, by decide, fun u bs3 u0 u1 hb3 => ?_⟩
    obtain ⟨j, rfl⟩ := Int.eq_ofNat_of_zero_le j0
    have ix : ∃ i : Nat, i < xs.length ∧ ixD (.list [.int ((xs.length : Int) - 1), .int (j : Int)]) (.int u) = some (.v (.int (i : Int))) := by
      obtain ⟨u, rfl⟩ := Int.eq_ofNat_of_zero_le u0
      have u2 : u < 2 := by omega
      match u, u2 with
      | 0, _ => exact ⟨xs.length - 1, by omega, by rw [show ((xs.length - 1 : Nat) : Int) = (xs.length : Int) - 1 by omega]; exact ixD_list (atI_nat (j := 0) rfl)⟩
      | 1, _ => exact ⟨j, by omega, ixD_list (atI_nat (j := 1) rfl)⟩
    obtain ⟨i, hi, ei⟩ := ix
    simp only [s_callL, s_call, s_cons, s_consM, s_nil, s_c, s_var, s_bin, s_un, s_lst, s_tup, s_cb, s_B, s_tru, s_not, s_repr, List.getElem?_cons_succ, List.getElem?_cons_zero, List.set_cons_succ, List.set_cons_zero, st_d, st_f, st_c, val_d, val_f, dats_d, dats_nil, vals_cons, vals_nil, lend_c, args_d, DL.args_nil, Opt_some, out_v, out_n, out_t, lab_d, lab_f, sto_f, sto_d, List.length_cons, List.length_nil, lenD_list, lenD_tuple, listC_list, listC_tuple, tupC_list, tupC_tuple, istt, istf, Bool.not_true, Bool.not_false, Bool.false_eq_true, if_false, if_true, ei]
    unfold wsB3
    rw [s_seq, s_par]
    simp only [s_callL, s_call, s_cons, s_consM, s_nil, s_c, s_var, s_bin, s_un, s_lst, s_tup, s_cb, s_B, s_tru, s_not, s_repr, List.getElem?_cons_succ, List.getElem?_cons_zero, List.set_cons_succ, List.set_cons_zero, st_d, st_f, st_c, val_d, val_f, dats_d, dats_nil, vals_cons, vals_nil, lend_c, args_d, DL.args_nil, Opt_some, out_v, out_n, out_t, lab_d, lab_f, sto_f, sto_d, List.length_cons, List.length_nil, lenD_list, lenD_tuple, listC_list, listC_tuple, tupC_list, tupC_tuple, istt, istf, Bool.not_true, Bool.not_false, Bool.false_eq_true, if_false, if_true, e2, sto_t]
    refine ⟨N + 3, 8, hb3.mono (by omega), by omega, rfl, by decide, by decide, fun v bs4 v0 v1 hb4 => ?_⟩
    simp only [s_callL, s_call, s_cons, s_consM, s_nil, s_c, s_var, s_bin, s_un, s_lst, s_tup, s_cb, s_B, s_tru, s_not, s_repr, List.getElem?_cons_succ, List.getElem?_cons_zero, List.set_cons_succ, List.set_cons_zero, st_d, st_f, st_c, val_d, val_f, dats_d, dats_nil, vals_cons, vals_nil, lend_c, args_d, DL.args_nil, Opt_some, out_v, out_n, out_t, lab_d, lab_f, sto_f, sto_d, List.length_cons, List.length_nil, lenD_list, lenD_tuple, listC_list, listC_tuple, tupC_list, tupC_tuple, istt, istf, Bool.not_true, Bool.not_false, Bool.false_eq_true, if_false, if_true]
    obtain ⟨v, rfl⟩ := Int.eq_ofNat_of_zero_le v0
    obtain ⟨l, rfl⟩ : ∃ l, n = l + 1 := ⟨n - 1, by omega⟩
    have nbs : noBs xs = true := by
      cases t with
      | true => rw [seqD, if_pos rfl, noB] at nb; exact nb
      | false => rw [seqD, if_neg (by decide), noB] at nb; exact nb
    exact bent3_way (n := d - 1) (l := l) (w := v) (by omega) h1 h2 nbs b2 b90 s1 hi (hb4.mono (show N + 3 + 1 ≤ N + 4 by omega)) (by omega) fun r t' ys bs' q1 q2 q3 q4 => k r (seqD t' ys) bs' q1 ((fine_seqD t' q2 q3).mono (Nat.le_refl _) (by omega) (Nat.le_refl _)) (q4.mono (by omega))
  · rw [s_or, s_not]
    simp only [s_callL, s_call, s_cons, s_consM, s_nil, s_c, s_var, s_bin, s_un, s_lst, s_tup, s_cb, s_B, s_tru, s_not, s_repr, List.getElem?_cons_succ, List.getElem?_cons_zero, List.set_cons_succ, List.set_cons_zero, st_d, st_f, st_c, val_d, val_f, dats_d, dats_nil, vals_cons, vals_nil, lend_c, args_d, DL.args_nil, Opt_some, out_v, out_n, out_t, lab_d, lab_f, sto_f, sto_d, List.length_cons, List.length_nil, lenD_list, lenD_tuple, listC_list, listC_tuple, tupC_list, tupC_tuple, istt, istf, Bool.not_true, Bool.not_false, Bool.false_eq_true, if_false, if_true, s_isi2, hq]
    try simp only [s_callL, s_call, s_cons, s_consM, s_nil, s_c, s_var, s_bin, s_un, s_lst, s_tup, s_cb, s_B, s_tru, s_not, s_repr, List.getElem?_cons_succ, List.getElem?_cons_zero, List.set_cons_succ, List.set_cons_zero, st_d, st_f, st_c, val_d, val_f, dats_d, dats_nil, vals_cons, vals_nil, lend_c, args_d, DL.args_nil, Opt_some, out_v, out_n, out_t, lab_d, lab_f, sto_f, sto_d, List.length_cons, List.length_nil, lenD_list, lenD_tuple, listC_list, listC_tuple, tupC_list, tupC_tuple, istt, istf, Bool.not_true, Bool.not_false, Bool.false_eq_true, if_false, if_true, truth_b]
    exact odd bs N hb (by omega) (by omega)
theorem ph_bent3 {N : Int} {bs : List PyData} {b d s : Nat} {x : PyData} {P : R → List PyData → Prop} (hb : Box N bs) (hN : N + 90 ≤ 2 ^ 38) (f : Fine b d s x) (nb : noB x = true) (d8 : d ≤ 8) (b2 : 2 ≤ b) (b90 : b ≤ 90) (s1 : s ≤ 100000)
    (k : ∀ (r : R) (y : PyData) (bs' : List PyData), r.st = .d y → Fine (b + 1) (d + 2) (2 * s + 60) y → Box (N + 90) bs' → P r bs') : Ph_bent3N 9 bs [.d x] P :=
  ⟨N, b, d, s, x, hb, (show N + 10 * ((8 : Int) + 1) ≤ 2 ^ 38 by omega), rfl, f, nb, d8, b2, b90, s1, fun r y bs' h1 h2 h3 => k r y bs' h1 h2 (Box.mono (show Box (N + 10 * ((8 : Int) + 1)) bs' from h3) (by omega))⟩
end SH
namespace SH
open PySem PySem.Spec PyProof.Rows L2 DL
theorem st_tuple {r : R} {xs : List PyData} (h : r.st = .d (.tuple xs)) : r = .d (.tuple xs) := by
  cases r with
  | d y => exact h
  | f ys => exact nomatch (show R.d (.list ys) = R.d (.tuple xs) from h)
  | _ => cases h
section
variable {ρ : Rho} {κ κ1 : Kap} {wa wb wc : DTE} {wr : DTA} {x y z u : PyData} {xs : List PyData} {b c : Bool} {E : DEnds}
theorem gv_andV (ha : Gv wa ρ κ (.bool b)) (hb : b = true → Gv wb ρ κ (.bool c)) : Gv (wAndV wa wb) ρ κ (.bool (b && c)) := fun Q k => by
  unfold wAndV
  refine ha _ fun r hr => ?_
  rw [st_bool hr]
  dsimp only
  cases b with
  | true =>
    rw [if_pos rfl]
    exact hb rfl _ k
  | false =>
    rw [if_neg (by decide)]
    exact k _ rfl
theorem gv_filt {α : Type} {wt : DTT} {f e : α → PyData} {p : α → Bool} {l : List α} {g : DTG} {vs : List Nat} (h : Gv wa ρ κ (.list (l.map f))) (len : l.length ≤ 1000000)
    (step : ∀ x ∈ l, ∀ C : Bool → Rho → Kap → Prop, (∀ ρ1, (p x = true → ∀ D : R → Kap → Prop, D (.d (e x)) κ → wb ρ1 κ D) → C (p x) ρ1 κ) → g (.d (f x)) (wipeR ρ vs) κ fun ρ1 κ1 => wt ρ1 κ1 fun b κ2 => C b ρ1 κ2) : Gv (wLc (wSq wa) g wt wb vs) ρ κ (.list ((l.filter p).map e)) := fun Q k => by
  rw [s_lc, s_sq]
  refine h _ fun r hr => ?_
  rw [hr, val_d, Opt_some]
  dsimp only
  refine lc_filter f p e (by exact val_d ..) l [] (by rw [List.length_nil, sizeLine_eq]; omega) step ?_
  rw [List.nil_append]
  exact k _ rfl
theorem gv_reprA (h : Gv wa ρ κ x) (t : TellOk x) : Gv (wReprA wa) ρ κ (.str (tellS x)) := fun Q k => by
  rw [s_reprA]
  refine h _ fun r hr => ?_
  rw [hr, val_d, Opt_some]
  exact ⟨t, k _ rfl⟩
theorem gv_listT (h : Gv wa ρ κ (.tuple xs)) : Gv (wCB listC (wCons wa wNil)) ρ κ (.list xs) := gv_cb h (listC_tuple xs) rfl
theorem gv_lenT (h : Gv wa ρ κ (.tuple xs)) : Gv (wCB lenD (wCons wa wNil)) ρ κ (.int (xs.length : Int)) := gv_cb h (lenD_tuple xs) rfl
theorem gv_atT {i : Nat} {d : PyData} (h : Gv wa ρ κ (.tuple xs)) (hb : Gv wb ρ κ (.int (i : Int))) (e : xs[i]? = some d) : Gv (wBin ixD wa wb) ρ κ d := gv_bin h hb (ixD_tuple (atI_nat e)) rfl
theorem gv_neI {i j : Int} (ha : Gv wa ρ κ (.int i)) (hb : Gv wb ρ κ (.int j)) : Gv (wBin (eqD true) wa wb) ρ κ (.bool (!decide (i = j))) := gv_bin ha hb (eqD_intn _ i j) rfl
theorem gv_isT (ha : Gv wa ρ κ (.bool b)) : Gv (wBin (isND false) wa (wC (.bool true))) ρ κ (.bool b) := gv_bin (o := .v (.bool b)) ha gv_c (by cases b <;> rfl) rfl
/-- all([..]) over a list -/
theorem gv_all {α : Type} {f : α → Bool} {l : List α} (h : Gv wa ρ κ (.list (l.map fun x => .bool (f x)))) : Gv (wCB (allC fun bs => bs.all id) (wCons wa wNil)) ρ κ (.bool (l.all f)) := gv_cb h (all_f f l) rfl
/-- a loop over a list that is known -/
theorem for_sq {g : DTG} {b : DTS} (h : Gv wa ρ κ (.list xs)) (k : ∀ ok : Kap → Prop, (∀ κ, ok κ) → forL ok g b E xs ρ κ) : wFor (wSq wa) g b E ρ κ := by
  rw [s_for, s_sq]
  refine h _ fun r hr => ?_
  rw [hr, val_d, Opt_some]
  dsimp only
  exact k _ fun κ => val_d ..
theorem ret_gvB {P : R → Kap → Prop} (h : Gv wa ρ κ (.bool b)) (k : P (.d (.bool b)) κ) : wa ρ κ P := h _ fun r hr => by rw [st_bool hr]; exact k
end
end SH
namespace DL
open PySem PySem.Spec PyProof.Rows L2
section
variable {X : Cx} {es : List Expr} {wr : DTA} {pos : Pos}
end
section
variable {X : Cx} {a b : Expr} {wa wb : DTE} {pos : Pos}
end
section
variable {K : PySem.W.Frag} {G H G' H' G1 H1 G2 H2 : Hp} {As As' As1 : List Addr} {κ κ' κ1 κ2 κ3 : Kap} {v : V} {r : R}
end
end DL
namespace DL
open PySem PySem.Spec PyProof.Rows L2
/-- a list that nobody else knows, or one that is known for good -/
def NewOk (K : PySem.W.Frag) (G H : Hp) (a : Addr) : Cell → Prop
  | .l xs => G a = none ∧ ∃ ws, H a = some (.lst ws) ∧ RpA K G ws xs
  | .z x => Rp K G (.ref a) x
  | _ => False
theorem NewOk.cell {K : PySem.W.Frag} {G H : Hp} {As : List Addr} {a : Addr} {c : Cell} (h : NewOk K G H a c) : CellOk K G H As a c := by
  cases c with
  | l xs => exact ⟨h.1, h.2⟩
  | z x => exact h
  | _ => exact h.elim
theorem NewOk.at {K : PySem.W.Frag} {G H : Hp} {a : Addr} {c : Cell} (e : Ex G H) (h : NewOk K G H a c) : ∃ o, H a = some o := by
  cases c with
  | l xs => exact ⟨_, h.2.choose_spec.1⟩
  | z x =>
    have h : Rp K G (.ref a) x := h
    cases h with
    | lst z1 z2 => exact ⟨_, e _ _ z1⟩
    | tup z1 z2 => exact ⟨_, e _ _ z1⟩
  | _ => exact h.elim
/-- a tuple whose lists nobody else changes -/
def Tf (K : PySem.W.Frag) (H0 G H : Hp) (As : List Addr) (v : V) (yss : List Cell) : Prop := ∃ (p : Addr) (as : List Addr), v = .ref p ∧ G p = some (.tup (as.map V.ref)) ∧ as.Nodup ∧ as.length = yss.length ∧
  ∀ (i : Nat) (a : Addr) (xs : Cell), as[i]? = some a → yss[i]? = some xs → H0 a = none ∧ a ∉ As ∧ NewOk K G H a xs
/-- the places of cells that are put behind -/
def newP (n : Nat) (yss : List Cell) : List Nat := List.range' n yss.length
section
variable {K : PySem.W.Frag} {G H G' H' G1 H1 H0 : Hp} {As As' As1 : List Addr} {σ : L2.St} {ρ : Rho} {κ κ' : Kap} {v : V} {r : R}
theorem Cells.moreA : ∀ {as : List Addr} {yss : List Cell} {As : List Addr} {κ : Kap}, Cells K G H As κ → as.Nodup → as.length = yss.length → (∀ (i : Nat) (a : Addr) (xs : Cell), as[i]? = some a → yss[i]? = some xs → a ∉ As ∧ NewOk K G H a xs) → Cells K G H (As ++ as) (κ ++ yss)
  | [], [], As, κ, c, _, _, _ => by simpa using c
  | [], _ :: _, As, κ, c, _, h, _ => by cases h
  | _ :: _, [], As, κ, c, _, h, _ => by cases h
  | a :: as, xs :: yss, As, κ, c, nd, hl, h => by
    obtain ⟨nin, ok⟩ := h 0 a xs rfl rfl
    obtain ⟨na, nd'⟩ := List.nodup_cons.mp nd
    obtain ⟨o, ho⟩ := ok.at c.ext
    have c1 := c.moreC nin ho (ok.cell (As := As ++ [a]))
    have := Cells.moreA (as := as) (yss := yss) c1 nd' (by simpa using hl) fun i b ys h1 h2 => by
      obtain ⟨q2, q3⟩ := h (i + 1) b ys (by simpa using h1) (by simpa using h2)
      refine ⟨fun hm => ?_, q3⟩
      rcases List.mem_append.mp hm with z | z
      · exact q2 z
      · rw [List.mem_singleton] at z
        subst z
        exact na (List.mem_of_getElem? h1)
    rw [List.append_assoc, List.append_assoc] at this
    exact this
/-- what a call told becomes cells -/
theorem Tf.cells {yss : List Cell} (s : Step G1 H1 As1 G H As) (c : Cells K G H As κ) (t : Tf K H1 G H As v yss) : ∃ as, Step G1 H1 As1 G H (As ++ as) ∧ Cells K G H (As ++ as) (κ ++ yss) ∧ It K G (As ++ as) v (.p (newP κ.length yss)) := by
  obtain ⟨p, as, rfl, hp, nd, hl, h⟩ := t
  refine ⟨as, ?_, c.moreA nd hl fun i a xs h1 h2 => (h i a xs h1 h2).2, p, as.map V.ref, rfl, hp, by rw [List.length_map, newP, List.length_range', hl], fun i k hk => ?_⟩
  · obtain ⟨bs, e⟩ := s.pre
    refine ⟨s.ex, ⟨bs ++ as, by rw [e, List.append_assoc]⟩, fun a ha => ?_, s.fr, s.dom, s.gn⟩
    rcases List.mem_append.mp ha with z | z
    · exact s.new a z
    · obtain ⟨i, hi, ei⟩ := List.getElem_of_mem z
      have h1 : as[i]? = some a := by rw [List.getElem?_eq_getElem hi, ei]
      have h2 : yss[i]? = some (yss[i]'(by omega)) := List.getElem?_eq_getElem _
      exact .inr (h i a _ h1 h2).1
  · obtain ⟨li, ek⟩ := List.getElem?_eq_some_iff.mp hk
    unfold newP at li ek
    rw [List.length_range'] at li
    rw [List.getElem_range', Nat.one_mul] at ek
    have hi : i < as.length := by omega
    refine ⟨as[i], ?_, by rw [List.getElem?_map, List.getElem?_eq_getElem hi]; rfl⟩
    rw [← ek, ← c.len, List.getElem?_append_right (by omega), show As.length + i - As.length = i by omega, List.getElem?_eq_getElem hi]
theorem Tf.wide {yss : List Cell} (c : Cells K G H As κ) (t : Tf K H G' H' As1 v yss) : Tf K H G' H' As v yss := by
  obtain ⟨p, as, rfl, hp, nd, hl, h⟩ := t
  exact ⟨p, as, rfl, hp, nd, hl, fun i a xs h1 h2 => by
    obtain ⟨q1, _, q4⟩ := h i a xs h1 h2
    exact ⟨q1, c.notin q1, q4⟩⟩
theorem Tf.back {yss : List Cell} {G0 : Hp} {As0 As1 : List Addr} (s : Step G0 H0 As0 G1 H1 As1) (t : Tf K H1 G H As v yss) : Tf K H0 G H As v yss := by
  obtain ⟨p, as, rfl, hp, nd, hl, h⟩ := t
  exact ⟨p, as, rfl, hp, nd, hl, fun i a xs h1 h2 => by
    obtain ⟨q1, q2⟩ := h i a xs h1 h2
    exact ⟨s.dom a q1, q2⟩⟩
end
section
variable {X : Cx} {k n : Nat} {ps : List Str} {x : Str} {p pos : Pos} {e : Expr} {es : List Expr} {wr : DTA}
end
section
variable {P : Program} {w : World} {K : PySem.W.Frag} {mg : Str → Option Value} {base : Heap} {x qual : Str} {st : Stmt} {f : Addr} {fd : FuncData} {N ps : List Str} {k : Nat}
end
end DL
namespace SH
open PySem PySem.Spec PyProof.Rows L2 DL
theorem endL_x {κ : Kap} {bs : List PyData} {x : PyData} {Pd : R → List PyData → Prop} (h0 : κ[(0 : Nat)]? = some (.l bs)) (k : Pd (.d x) bs) : endL κ (.d x) Pd := by
  unfold endL
  rw [h0]
  exact k
section
variable {E : DEnds} {N : Int} {ns : List Str} {room j : Nat} {bs : List PyData} {f q : Row} {κ : Kap} {p4 p5 p6 : Option R}
end
section
variable {ρ ρ1 : Rho} {κ κ1 : Kap} {wa : DTE} {wr : DTA} {x z : PyData} {xs : List PyData}
end
end SH
namespace SH
open PySem PySem.Spec PyProof.Rows L2 DL
abbrev Tri := Str × List Str × Str
def triD (t : Tri) : PyData := .tuple [.str t.1, strsD t.2.1, .str t.2.2]
theorem triD_inj (a b : Tri) (h : triD a = triD b) : a = b := by
  obtain ⟨a1, a2, a3⟩ := a
  obtain ⟨b1, b2, b3⟩ := b
  have h : PyData.tuple [.str a1, strsD a2, .str a3] = .tuple [.str b1, strsD b2, .str b3] := h
  injection h with h
  injection h with x y
  injection x with x
  injection y with y z
  injection z with z _
  injection z with z
  rw [x, strsD_inj _ _ y, z]
def clashH (W : Wish) (r : Str) (h : List Str) : List Tri := (h.filter fun o => wantB W r h o).map fun o => (r, h, o)
def clashR (W : Wish) (r : Str) : List Tri := ((W r).map fun h => clashH W r h).flatten
def clashL (ns : List Str) (W : Wish) : List Tri := (ns.map fun r => clashR W r).flatten
section
variable {ns : List Str} {W : Wish}
theorem clash_mem {t : Tri} : t ∈ clashL ns W ↔ t.1 ∈ ns ∧ t.2.1 ∈ W t.1 ∧ t.2.2 ∈ t.2.1 ∧ wantB W t.1 t.2.1 t.2.2 = true := by
  unfold clashL clashR clashH
  simp only [List.mem_flatten, List.mem_map, List.mem_filter]
  constructor
  · rintro ⟨l, ⟨r, hr, rfl⟩, h⟩
    simp only [List.mem_flatten, List.mem_map] at h
    obtain ⟨l, ⟨h, hh, rfl⟩, ht⟩ := h
    simp only [List.mem_map, List.mem_filter] at ht
    obtain ⟨o, ⟨ho, hw⟩, rfl⟩ := ht
    exact ⟨hr, hh, ho, hw⟩
  · rintro ⟨h1, h2, h3, h4⟩
    refine ⟨_, ⟨t.1, h1, rfl⟩, ?_⟩
    simp only [List.mem_flatten, List.mem_map]
    refine ⟨_, ⟨t.2.1, h2, rfl⟩, ?_⟩
    simp only [List.mem_map, List.mem_filter]
    exact ⟨t.2.2, ⟨h3, h4⟩, rfl⟩
theorem flat_len2 {α β : Type} {f : α → List β} {b : Nat} : ∀ {l : List α}, (∀ x ∈ l, (f x).length ≤ b) → ((l.map f).flatten).length ≤ l.length * b
  | [], _ => Nat.zero_le _
  | x :: l, h => by
    rw [List.map_cons, List.flatten_cons, List.length_append, List.length_cons, Nat.add_mul]
    have h1 := h x (List.mem_cons_self ..)
    have h2 := flat_len2 (f := f) (b := b) (l := l) fun y hy => h y (List.mem_cons_of_mem _ hy)
    omega
theorem clashH_len (h : List Str) (r : Str) : (clashH W r h).length ≤ h.length := by
  unfold clashH
  rw [List.length_map]
  exact List.length_filter_le _ _
theorem clashR_len (n8 : ns.length ≤ 8) (w : WishOk ns W) {r : Str} (hr : r ∈ ns) : (clashR W r).length ≤ 2400 := by
  have h1 := flat_len2 (f := fun h => clashH W r h) (b := 8) (l := W r) fun h hh => by
    have := clashH_len (W := W) h r
    have := (w.sub r hr h hh).1.length_le
    show (clashH W r h).length ≤ 8
    omega
  have h2 := w.few r hr
  unfold clashR
  omega
theorem clashL_len (n8 : ns.length ≤ 8) (w : WishOk ns W) : (clashL ns W).length ≤ 19200 := by
  have h1 := flat_len2 (f := fun r => clashR W r) (b := 2400) (l := ns) fun r hr => clashR_len n8 w hr
  unfold clashL
  omega
def Ph_law_clashes (es : List MEnt) (rs : List R) (P : R → Prop) : Prop := ∃ (ns : List Str) (W : Wish), es = wishE ns W ∧ rs = [] ∧ Names ns ∧ ns.length ≤ 8 ∧ WishOk ns W ∧ P (.d (.list ((clashL ns W).map triD)))
def wb_ch : DTS := (wSet false 1 (wBin addD (wVar 1) (wLc (wSq (wVar 3)) (wName 4) (wTru (wCallM Ph_law_wanting (wCons (wVar 0) (wCons (wVar 2) (wCons (wVar 3) (wCons (wVar 4) wNil)))))) (wTup (wCons (wVar 2) (wCons (wVar 3) (wCons (wVar 4) wNil)))) [4])))
def wb_cr : DTS := (wFor (wSq (wGetD (wVar 0) (wVar 2))) (wName 3) wb_ch)
/-- _law_clashes -/
noncomputable def w_law_clashes : DTS := (wSeq (wSet false 1 (wLst wNil))
  (wSeq (wFor (wSq (wSortDS (wVar 0))) (wName 2) wb_cr)
  (wRet (wVar 1))))
variable {E : DEnds} {ok : Kap → Prop}
abbrev rhoCl (acc : List Tri) (p2 p3 p4 : Option R) : Rho := [some (.c 0), some (.d (.list (acc.map triD))), p2, p3, p4]
theorem step_ch {r : Str} {h : List Str} {acc : List Tri} {p4 : Option R} (hn : Names ns) (n8 : ns.length ≤ 8) (w : WishOk ns W) (hr : r ∈ ns) (hh : h ∈ W r) (la : acc.length ≤ 100000)
    (k : E.nx (rhoCl (acc ++ clashH W r h) (some (.d (.str r))) (some (.d (strsD h))) p4) [.m (mOf (wishE ns W))]) :
    wb_ch E (rhoCl acc (some (.d (.str r))) (some (.d (strsD h))) p4) [.m (mOf (wishE ns W))] := by
  have hz := sizeLine_eq
  obtain ⟨h1, h2, h3⟩ := w.sub r hr h hh
  have hl := h1.length_le
  have hc := clashH_len (W := W) h r
  unfold wb_ch
  rw [s_set]
  simp only [s_callL, s_call, s_cons, s_consM, s_nil, s_c, s_var, s_bin, s_un, s_lst, s_tup, s_cb, s_B, s_tru, s_not, s_repr, List.getElem?_cons_succ, List.getElem?_cons_zero, List.set_cons_succ, List.set_cons_zero, st_d, st_f, st_c, val_d, val_f, dats_d, dats_nil, vals_cons, vals_nil, lend_c, args_d, DL.args_nil, Opt_some, out_v, out_n, out_t, lab_d, lab_f, sto_f, sto_d, List.length_cons, List.length_nil, lenD_list, lenD_tuple, listC_list, listC_tuple, tupC_list, tupC_tuple, istt, istf, Bool.not_true, Bool.not_false, Bool.false_eq_true, if_false, if_true, s_lc, s_sq, wipeR_cons, wipeR_nil]
  refine lc_filter PyData.str (fun o => wantB W r h o) (fun o => triD (r, h, o)) (by trivial) h [] (by rw [List.length_nil]; omega) (fun o ho C hC => ?_) ?_
  · have hC := hC (rhoCl acc (some (.d (.str r))) (some (.d (strsD h))) (some (.d (.str o)))) fun _ D hD => by
      simp only [s_callL, s_call, s_cons, s_consM, s_nil, s_c, s_var, s_bin, s_un, s_lst, s_tup, s_cb, s_B, s_tru, s_not, s_repr, List.getElem?_cons_succ, List.getElem?_cons_zero, List.set_cons_succ, List.set_cons_zero, st_d, st_f, st_c, val_d, val_f, dats_d, dats_nil, vals_cons, vals_nil, lend_c, args_d, DL.args_nil, Opt_some, out_v, out_n, out_t, lab_d, lab_f, sto_f, sto_d, List.length_cons, List.length_nil, lenD_list, lenD_tuple, listC_list, listC_tuple, tupC_list, tupC_tuple, istt, istf, Bool.not_true, Bool.not_false, Bool.false_eq_true, if_false, if_true]
      refine ⟨by omega, ?_⟩
      exact hD
    have hon := h1.subset ho
    obtain ⟨sm, lw⟩ := WishOk.small hn n8 w hon
    rw [s_name, s_tru, s_callM]
    simp only [s_callL, s_call, s_cons, s_consM, s_nil, s_c, s_var, s_bin, s_un, s_lst, s_tup, s_cb, s_B, s_tru, s_not, s_repr, List.getElem?_cons_succ, List.getElem?_cons_zero, List.set_cons_succ, List.set_cons_zero, st_d, st_f, st_c, val_d, val_f, dats_d, dats_nil, vals_cons, vals_nil, lend_c, args_d, DL.args_nil, Opt_some, out_v, out_n, out_t, lab_d, lab_f, sto_f, sto_d, List.length_cons, List.length_nil, lenD_list, lenD_tuple, listC_list, listC_tuple, tupC_list, tupC_tuple, istt, istf, Bool.not_true, Bool.not_false, Bool.false_eq_true, if_false, if_true]
    refine ⟨wishE ns W, rfl, ns, W, r, h, o, rfl, rfl, hon, sm, by omega, fun y hy => hn.1 y (h1.subset hy), by omega, hn.1 _ hr, ?_⟩
    simp only [s_callL, s_call, s_cons, s_consM, s_nil, s_c, s_var, s_bin, s_un, s_lst, s_tup, s_cb, s_B, s_tru, s_not, s_repr, List.getElem?_cons_succ, List.getElem?_cons_zero, List.set_cons_succ, List.set_cons_zero, st_d, st_f, st_c, val_d, val_f, dats_d, dats_nil, vals_cons, vals_nil, lend_c, args_d, DL.args_nil, Opt_some, out_v, out_n, out_t, lab_d, lab_f, sto_f, sto_d, List.length_cons, List.length_nil, lenD_list, lenD_tuple, listC_list, listC_tuple, tupC_list, tupC_tuple, istt, istf, Bool.not_true, Bool.not_false, Bool.false_eq_true, if_false, if_true, truth_b]
    exact hC
  rw [List.nil_append]
  have e1 : ((h.filter fun o => wantB W r h o).map fun o => triD (r, h, o)) = (clashH W r h).map triD := by
    unfold clashH
    rw [List.map_map]
    rfl
  have e2 : addD (.list (acc.map triD)) (.list ((clashH W r h).map triD)) = some (.n ((acc ++ clashH W r h).map triD)) := by
    rw [addD_list (by rw [hz, List.length_map, List.length_map]; omega), List.map_append]
  rw [e1]
  simp only [s_callL, s_call, s_cons, s_consM, s_nil, s_c, s_var, s_bin, s_un, s_lst, s_tup, s_cb, s_B, s_tru, s_not, s_repr, List.getElem?_cons_succ, List.getElem?_cons_zero, List.set_cons_succ, List.set_cons_zero, st_d, st_f, st_c, val_d, val_f, dats_d, dats_nil, vals_cons, vals_nil, lend_c, args_d, DL.args_nil, Opt_some, out_v, out_n, out_t, lab_d, lab_f, sto_f, sto_d, List.length_cons, List.length_nil, lenD_list, lenD_tuple, listC_list, listC_tuple, tupC_list, tupC_tuple, istt, istf, Bool.not_true, Bool.not_false, Bool.false_eq_true, if_false, if_true, e2]
  exact k
theorem loop_ch {r : Str} (hok : ∀ κ, ok κ) (hn : Names ns) (n8 : ns.length ≤ 8) (w : WishOk ns W) (hr : r ∈ ns) : ∀ (hs : List (List Str)) (acc : List Tri) (p3 p4 : Option R), (∀ h ∈ hs, h ∈ W r) → acc.length + 8 * hs.length ≤ 100000 →
    (∀ p3 p4, E.nx (rhoCl (acc ++ (hs.map fun h => clashH W r h).flatten) (some (.d (.str r))) p3 p4) [.m (mOf (wishE ns W))]) →
    forL ok (wName 3) wb_ch E (hs.map strsD) (rhoCl acc (some (.d (.str r))) p3 p4) [.m (mOf (wishE ns W))]
  | [], acc, p3, p4, _, _, k => by
    rw [List.map_nil, forL_nil]
    have := k p3 p4
    simpa using this
  | h :: hs, acc, p3, p4, hw, hl, k => by
    simp only [List.length_cons] at hl
    have hh := hw h (List.mem_cons_self ..)
    have hc := clashH_len (W := W) h r
    have h1 := (w.sub r hr h hh).1.length_le
    rw [List.map_cons, forL_cons, s_name]
    simp only [List.set_cons_succ, List.set_cons_zero]
    refine step_ch hn n8 w hr hh (by omega) ⟨hok _, ?_⟩
    refine loop_ch hok hn n8 w hr hs (acc ++ clashH W r h) _ _ (fun u hu => hw u (List.mem_cons_of_mem _ hu)) (by rw [List.length_append]; omega) fun p3 p4 => ?_
    have := k p3 p4
    rw [List.map_cons, List.flatten_cons, ← List.append_assoc] at this
    exact this
theorem loop_cr (hok : ∀ κ, ok κ) (hn : Names ns) (n8 : ns.length ≤ 8) (w : WishOk ns W) : ∀ (rs : List Str) (acc : List Tri) (p2 p3 p4 : Option R), (∀ r ∈ rs, r ∈ ns) → acc.length + 2400 * rs.length ≤ 50000 →
    (∀ p2 p3 p4, E.nx (rhoCl (acc ++ (rs.map fun r => clashR W r).flatten) p2 p3 p4) [.m (mOf (wishE ns W))]) →
    forL ok (wName 2) wb_cr E (rs.map .str) (rhoCl acc p2 p3 p4) [.m (mOf (wishE ns W))]
  | [], acc, p2, p3, p4, _, _, k => by
    rw [List.map_nil, forL_nil]
    have := k p2 p3 p4
    simpa using this
  | r :: rs, acc, p2, p3, p4, hw, hl, k => by
    simp only [List.length_cons] at hl
    have hr := hw r (List.mem_cons_self ..)
    have hc := clashR_len n8 w hr
    have hf := w.few r hr
    rw [List.map_cons, forL_cons, s_name]
    simp only [List.set_cons_succ, List.set_cons_zero]
    unfold wb_cr
    rw [s_for, s_sq]
    refine get_wish (ns := ns) (z := r) rfl rfl rfl hr ?_
    simp only [s_callL, s_call, s_cons, s_consM, s_nil, s_c, s_var, s_bin, s_un, s_lst, s_tup, s_cb, s_B, s_tru, s_not, s_repr, List.getElem?_cons_succ, List.getElem?_cons_zero, List.set_cons_succ, List.set_cons_zero, st_d, st_f, st_c, val_d, val_f, dats_d, dats_nil, vals_cons, vals_nil, lend_c, args_d, DL.args_nil, Opt_some, out_v, out_n, out_t, lab_d, lab_f, sto_f, sto_d, List.length_cons, List.length_nil, lenD_list, lenD_tuple, listC_list, listC_tuple, tupC_list, tupC_tuple, istt, istf, Bool.not_true, Bool.not_false, Bool.false_eq_true, if_false, if_true]
    refine loop_ch (fun _ => by trivial) hn n8 w hr (W r) acc p3 p4 (fun h hh => hh) (by omega) fun p3 p4 => ⟨hok _, ?_⟩
    refine loop_cr hok hn n8 w rs (acc ++ clashR W r) _ p3 p4 (fun u hu => hw u (List.mem_cons_of_mem _ hu)) (by rw [List.length_append]; omega) fun p2 p3 p4 => ?_
    have := k p2 p3 p4
    rw [List.map_cons, List.flatten_cons, ← List.append_assoc] at this
    exact this
end
theorem sort_wish {ns : List Str} (hn : Names ns) : (ns.map PyData.str).mergeSort dLe = ns.map .str := by
  rw [sort_strs]
  congr 1
  exact strict_uniq (sorted_names hn.1 (pw_nodup hn.2)).1.2 hn.2 fun z => (List.mergeSort_perm _ _).mem_iff
theorem r_law_clashes (es : List MEnt) (rs : List R) (Pd : R → Prop) (h : Ph_law_clashes es rs Pd) (hl : rs.length = 0) : w_law_clashes { nx := fun _ κ => endM es κ (.d .none) Pd, rt := fun r κ => endM es κ r Pd } (some (.c 0) :: (rs.map some ++ List.replicate 4 none)) [.m (mOf es)] := by
  obtain ⟨ns, W, rfl, rfl, hn, n8, w, k⟩ := h
  clear hl
  have hz := sizeLine_eq
  simp only [List.map_nil, List.replicate_succ, List.replicate_zero, List.cons_append, List.nil_append]
  unfold w_law_clashes
  rw [s_seq, s_set]
  simp only [s_callL, s_call, s_cons, s_consM, s_nil, s_c, s_var, s_bin, s_un, s_lst, s_tup, s_cb, s_B, s_tru, s_not, s_repr, List.getElem?_cons_succ, List.getElem?_cons_zero, List.set_cons_succ, List.set_cons_zero, st_d, st_f, st_c, val_d, val_f, dats_d, dats_nil, vals_cons, vals_nil, lend_c, args_d, DL.args_nil, Opt_some, out_v, out_n, out_t, lab_d, lab_f, sto_f, sto_d, List.length_cons, List.length_nil, lenD_list, lenD_tuple, listC_list, listC_tuple, tupC_list, tupC_tuple, istt, istf, Bool.not_true, Bool.not_false, Bool.false_eq_true, if_false, if_true]
  refine ⟨by omega, ?_⟩
  rw [s_seq, s_for, s_sq, s_sortDS, s_var]
  dsimp only [List.getElem?_cons_succ, List.getElem?_cons_zero]
  refine ⟨wishE ns W, rfl, by rw [keys_wish]; exact sortOk_strs (by omega), ?_⟩
  rw [keys_wish, sort_wish hn]
  simp only [s_callL, s_call, s_cons, s_consM, s_nil, s_c, s_var, s_bin, s_un, s_lst, s_tup, s_cb, s_B, s_tru, s_not, s_repr, List.getElem?_cons_succ, List.getElem?_cons_zero, List.set_cons_succ, List.set_cons_zero, st_d, st_f, st_c, val_d, val_f, dats_d, dats_nil, vals_cons, vals_nil, lend_c, args_d, DL.args_nil, Opt_some, out_v, out_n, out_t, lab_d, lab_f, sto_f, sto_d, List.length_cons, List.length_nil, lenD_list, lenD_tuple, listC_list, listC_tuple, tupC_list, tupC_tuple, istt, istf, Bool.not_true, Bool.not_false, Bool.false_eq_true, if_false, if_true]
  show forL _ _ _ _ _ (rhoCl [] none none none) _
  refine loop_cr (fun _ => by trivial) hn n8 w ns [] none none none (fun r hr => hr) (by rw [List.length_nil]; omega) fun p2 p3 p4 => ?_
  rw [List.nil_append]
  dsimp only
  rw [s_ret]
  simp only [s_callL, s_call, s_cons, s_consM, s_nil, s_c, s_var, s_bin, s_un, s_lst, s_tup, s_cb, s_B, s_tru, s_not, s_repr, List.getElem?_cons_succ, List.getElem?_cons_zero, List.set_cons_succ, List.set_cons_zero, st_d, st_f, st_c, val_d, val_f, dats_d, dats_nil, vals_cons, vals_nil, lend_c, args_d, DL.args_nil, Opt_some, out_v, out_n, out_t, lab_d, lab_f, sto_f, sto_d, List.length_cons, List.length_nil, lenD_list, lenD_tuple, listC_list, listC_tuple, tupC_list, tupC_tuple, istt, istf, Bool.not_true, Bool.not_false, Bool.false_eq_true, if_false, if_true]
  exact endM_d rfl k
def Ph_shows_clash (es : List MEnt) (rs : List R) (P : R → Prop) : Prop := ∃ (ns : List Str) (W : Wish) (t : Tri), es = wishE ns W ∧ rs = [.d (triD t)] ∧ Names ns ∧ ns.length ≤ 8 ∧ WishOk ns W ∧ t.1 ∈ ns ∧ t.2.1 ∈ W t.1 ∧ t.2.2 ∈ t.2.1 ∧ P (.d (.bool (wantB W t.1 t.2.1 t.2.2)))
/-- shows_clash -/
def w_shows_clash : DTS := (wSeq (wIfS (wOr (wNot (wTru (wIsi .tuple (wVar 1)))) (wB (wBin (eqD true) (wCB lenD (wCons (wVar 1) wNil)) (wC (.int 3))))) (wRet (wC (.bool false))) wNext)
  (wSeq (wAsg (wVar 1) (wTupG 3 (wgCons (wName 2) (wgCons (wName 3) (wgCons (wName 4) wgNil)))))
  (wSeq (wIfS (wOr (wNot (wTru (wIsi .str (wVar 2)))) (wOr (wB (wInG true (wVar 2) (wVar 0))) (wOr (wNot (wTru (wIsi .tuple (wVar 3)))) (wB (wBin (inD true) (wVar 3) (wGetD (wVar 0) (wVar 2))))))) (wRet (wC (.bool false))) wNext)
  (wRet (wAndV (wBin (inD false) (wVar 4) (wVar 3)) (wCallM Ph_is_wanting (wCons (wVar 0) (wCons (wVar 2) (wCons (wVar 3) (wCons (wVar 4) wNil))))))))))
theorem r_shows_clash (es : List MEnt) (rs : List R) (Pd : R → Prop) (h : Ph_shows_clash es rs Pd) (hl : rs.length = 1) : w_shows_clash { nx := fun _ κ => endM es κ (.d .none) Pd, rt := fun r κ => endM es κ r Pd } (some (.c 0) :: (rs.map some ++ List.replicate 3 none)) [.m (mOf es)] := by
  obtain ⟨ns, W, ⟨r, h, o⟩, rfl, rfl, hn, n8, w, hr, hh, ho, k⟩ := h
  clear hl
  have hz := sizeLine_eq
  have hr : r ∈ ns := hr
  have hh : h ∈ W r := hh
  have ho : o ∈ h := ho
  obtain ⟨h1, h2, h3⟩ := w.sub r hr h hh
  have hlen := h1.length_le
  have hnm : ∀ y ∈ h, IsName y := fun y hy => hn.1 y (h1.subset hy)
  obtain ⟨sm, lw⟩ := WishOk.small hn n8 w hr
  obtain ⟨sm2, lw2⟩ := WishOk.small hn n8 w (h1.subset ho)
  have hs := sm h hh
  simp only [List.map_cons, List.map_nil, List.replicate_succ, List.replicate_zero, List.cons_append, List.nil_append]
  unfold w_shows_clash triD
  have el : lenD [.tuple [.str r, strsD h, .str o]] = some (.v (.int 3)) := rfl
  have e3 : eqD true (.int 3) (.int 3) = some (.v (.bool false)) := len_ne [.int 0, .int 0, .int 0]
  rw [s_seq, s_if, s_or, s_not]
  simp only [s_callL, s_call, s_cons, s_consM, s_nil, s_c, s_var, s_bin, s_un, s_lst, s_tup, s_cb, s_B, s_tru, s_not, s_repr, List.getElem?_cons_succ, List.getElem?_cons_zero, List.set_cons_succ, List.set_cons_zero, st_d, st_f, st_c, val_d, val_f, dats_d, dats_nil, vals_cons, vals_nil, lend_c, args_d, DL.args_nil, Opt_some, out_v, out_n, out_t, lab_d, lab_f, sto_f, sto_d, List.length_cons, List.length_nil, lenD_list, lenD_tuple, listC_list, listC_tuple, tupC_list, tupC_tuple, istt, istf, Bool.not_true, Bool.not_false, Bool.false_eq_true, if_false, if_true, s_isi, show isi (.tuple [.str r, strsD h, .str o]) .tuple = true from rfl, truth_b, el, e3]
  rw [s_next]
  dsimp only
  rw [s_seq, s_asg]
  simp only [s_callL, s_call, s_cons, s_consM, s_nil, s_c, s_var, s_bin, s_un, s_lst, s_tup, s_cb, s_B, s_tru, s_not, s_repr, List.getElem?_cons_succ, List.getElem?_cons_zero, List.set_cons_succ, List.set_cons_zero, st_d, st_f, st_c, val_d, val_f, dats_d, dats_nil, vals_cons, vals_nil, lend_c, args_d, DL.args_nil, Opt_some, out_v, out_n, out_t, lab_d, lab_f, sto_f, sto_d, List.length_cons, List.length_nil, lenD_list, lenD_tuple, listC_list, listC_tuple, tupC_list, tupC_tuple, istt, istf, Bool.not_true, Bool.not_false, Bool.false_eq_true, if_false, if_true, s_tupG, s_gcons, s_gnil, s_name, true_and]
  rw [s_seq, s_if, s_or, s_not]
  simp only [s_callL, s_call, s_cons, s_consM, s_nil, s_c, s_var, s_bin, s_un, s_lst, s_tup, s_cb, s_B, s_tru, s_not, s_repr, List.getElem?_cons_succ, List.getElem?_cons_zero, List.set_cons_succ, List.set_cons_zero, st_d, st_f, st_c, val_d, val_f, dats_d, dats_nil, vals_cons, vals_nil, lend_c, args_d, DL.args_nil, Opt_some, out_v, out_n, out_t, lab_d, lab_f, sto_f, sto_d, List.length_cons, List.length_nil, lenD_list, lenD_tuple, listC_list, listC_tuple, tupC_list, tupC_tuple, istt, istf, Bool.not_true, Bool.not_false, Bool.false_eq_true, if_false, if_true, s_isi, show isi (.str r) .str = true from rfl, truth_b]
  rw [s_or]
  have ei := in_sets (s := h) (l := W r) true ⟨hs.1, by have := hs.2; omega⟩ sm (show _ ≤ 1000000 by omega)
  rw [decide_eq_true hh] at ei
  have eo := in_names false (D := strsD h) ⟨.inr rfl, hnm⟩ (hnm o ho)
  rw [decide_eq_true ho] at eo
  simp only [s_callL, s_call, s_cons, s_consM, s_nil, s_c, s_var, s_bin, s_un, s_lst, s_tup, s_cb, s_B, s_tru, s_not, s_repr, List.getElem?_cons_succ, List.getElem?_cons_zero, List.set_cons_succ, List.set_cons_zero, st_d, st_f, st_c, val_d, val_f, dats_d, dats_nil, vals_cons, vals_nil, lend_c, args_d, DL.args_nil, Opt_some, out_v, out_n, out_t, lab_d, lab_f, sto_f, sto_d, List.length_cons, List.length_nil, lenD_list, lenD_tuple, listC_list, listC_tuple, tupC_list, tupC_tuple, istt, istf, Bool.not_true, Bool.not_false, Bool.false_eq_true, if_false, if_true, s_inG]
  show Opt (some (Sum.inr r)) _
  rw [Opt_some, lookM_wish hr]
  simp only [s_callL, s_call, s_cons, s_consM, s_nil, s_c, s_var, s_bin, s_un, s_lst, s_tup, s_cb, s_B, s_tru, s_not, s_repr, List.getElem?_cons_succ, List.getElem?_cons_zero, List.set_cons_succ, List.set_cons_zero, st_d, st_f, st_c, val_d, val_f, dats_d, dats_nil, vals_cons, vals_nil, lend_c, args_d, DL.args_nil, Opt_some, out_v, out_n, out_t, lab_d, lab_f, sto_f, sto_d, List.length_cons, List.length_nil, lenD_list, lenD_tuple, listC_list, listC_tuple, tupC_list, tupC_tuple, istt, istf, Bool.not_true, Bool.not_false, Bool.false_eq_true, if_false, if_true, show (some (R.d (.list ((W r).map strsD)))).isSome = true from rfl]
  rw [s_or, s_not]
  simp only [s_callL, s_call, s_cons, s_consM, s_nil, s_c, s_var, s_bin, s_un, s_lst, s_tup, s_cb, s_B, s_tru, s_not, s_repr, List.getElem?_cons_succ, List.getElem?_cons_zero, List.set_cons_succ, List.set_cons_zero, st_d, st_f, st_c, val_d, val_f, dats_d, dats_nil, vals_cons, vals_nil, lend_c, args_d, DL.args_nil, Opt_some, out_v, out_n, out_t, lab_d, lab_f, sto_f, sto_d, List.length_cons, List.length_nil, lenD_list, lenD_tuple, listC_list, listC_tuple, tupC_list, tupC_tuple, istt, istf, Bool.not_true, Bool.not_false, Bool.false_eq_true, if_false, if_true, s_isi, show isi (strsD h) .tuple = true from rfl, truth_b]
  refine get_wish (ns := ns) (z := r) rfl rfl rfl hr ?_
  simp only [s_callL, s_call, s_cons, s_consM, s_nil, s_c, s_var, s_bin, s_un, s_lst, s_tup, s_cb, s_B, s_tru, s_not, s_repr, List.getElem?_cons_succ, List.getElem?_cons_zero, List.set_cons_succ, List.set_cons_zero, st_d, st_f, st_c, val_d, val_f, dats_d, dats_nil, vals_cons, vals_nil, lend_c, args_d, DL.args_nil, Opt_some, out_v, out_n, out_t, lab_d, lab_f, sto_f, sto_d, List.length_cons, List.length_nil, lenD_list, lenD_tuple, listC_list, listC_tuple, tupC_list, tupC_tuple, istt, istf, Bool.not_true, Bool.not_false, Bool.false_eq_true, if_false, if_true, ei]
  rw [s_next]
  dsimp only
  rw [s_ret, s_andV]
  simp only [s_callL, s_call, s_cons, s_consM, s_nil, s_c, s_var, s_bin, s_un, s_lst, s_tup, s_cb, s_B, s_tru, s_not, s_repr, List.getElem?_cons_succ, List.getElem?_cons_zero, List.set_cons_succ, List.set_cons_zero, st_d, st_f, st_c, val_d, val_f, dats_d, dats_nil, vals_cons, vals_nil, lend_c, args_d, DL.args_nil, Opt_some, out_v, out_n, out_t, lab_d, lab_f, sto_f, sto_d, List.length_cons, List.length_nil, lenD_list, lenD_tuple, listC_list, listC_tuple, tupC_list, tupC_tuple, istt, istf, Bool.not_true, Bool.not_false, Bool.false_eq_true, if_false, if_true, eo, s_callM]
  refine ⟨wishE ns W, rfl, ns, W, r, h, o, rfl, rfl, h1.subset ho, sm2, by omega, hnm, by omega, hn.1 _ hr, ?_⟩
  simp only [s_callL, s_call, s_cons, s_consM, s_nil, s_c, s_var, s_bin, s_un, s_lst, s_tup, s_cb, s_B, s_tru, s_not, s_repr, List.getElem?_cons_succ, List.getElem?_cons_zero, List.set_cons_succ, List.set_cons_zero, st_d, st_f, st_c, val_d, val_f, dats_d, dats_nil, vals_cons, vals_nil, lend_c, args_d, DL.args_nil, Opt_some, out_v, out_n, out_t, lab_d, lab_f, sto_f, sto_d, List.length_cons, List.length_nil, lenD_list, lenD_tuple, listC_list, listC_tuple, tupC_list, tupC_tuple, istt, istf, Bool.not_true, Bool.not_false, Bool.false_eq_true, if_false, if_true]
  exact endM_d rfl k
end SH
namespace DL
open PySem PySem.Spec PyProof.Rows L2
abbrev DTK := Rho → Kap → (Key → Nat → Kap → Prop) → Prop
def KR (G : Hp) (As : List Addr) (v : V) (q : Key) (j : Nat) : Prop := ∃ t a, v = .ref t ∧ G t = some (.tup [kV q, .ref a]) ∧ As[j]? = some a
theorem KR.mono {G G' : Hp} {As As' : List Addr} {v : V} {q : Key} {j : Nat} (h : KR G As v q j) (e : Ex G G') (p : ∃ bs, As' = As ++ bs) : KR G' As' v q j := by
  obtain ⟨bs, rfl⟩ := p
  obtain ⟨t, a, rfl, h1, h2⟩ := h
  exact ⟨t, a, rfl, e _ _ h1, by rw [List.getElem?_append_left (List.getElem?_eq_some_iff.mp h2).1]; exact h2⟩
def RefsK (G : Hp) (As : List Addr) (vs : List V) (es : List (Key × R)) : Prop := Paired (fun v (e : Key × R) => ∃ j, e.2 = .c j ∧ KR G As v e.1 j) vs es
theorem RefsK.nil {G : Hp} {As : List Addr} : RefsK G As [] [] := Paired.nil
theorem RefsK.len {G : Hp} {As : List Addr} {vs : List V} {es : List (Key × R)} (h : RefsK G As vs es) : vs.length = es.length := Paired.length h
theorem RefsK.mono {G G' : Hp} {As As' : List Addr} {vs : List V} {es : List (Key × R)} (h : RefsK G As vs es) (e : Ex G G') (p : ∃ bs, As' = As ++ bs) : RefsK G' As' vs es :=
  Paired.mapP h fun v x ⟨j, h1, h2⟩ => ⟨j, h1, h2.mono e p⟩
theorem RefsK.snoc {G : Hp} {As : List Addr} {vs : List V} {es : List (Key × R)} {v : V} {y : Key} {j : Nat} (h : RefsK G As vs es) (k : KR G As v y j) : RefsK G As (vs ++ [v]) (es ++ [(y, R.c j)]) := by
  unfold RefsK at h ⊢
  induction h with
  | nil => exact .cons ⟨j, rfl, k⟩ .nil
  | cons q t ih => exact .cons q ih
theorem RefsK.pairs {K : PySem.W.Frag} {G : Hp} {As : List Addr} {vs : List V} {es : List (Key × R)} (h : RefsK G As vs es) : ∃ (as : List Addr) (kvs : List (Key × V)), vs = as.map V.ref ∧ Paired (fun p (kv : Key × V) => G p = some (.tup [kV kv.1, kv.2])) as kvs ∧ Mp K G As kvs es := by
  unfold RefsK at h
  induction h with
  | nil => exact ⟨[], [], rfl, .nil, .nil⟩
  | @cons v e vs es q _ ih =>
    obtain ⟨as, kvs, e1, q1, q2⟩ := ih
    obtain ⟨j, ej, t, a, rfl, h1, h2⟩ := q
    obtain ⟨k, r⟩ := e
    dsimp only at ej
    subst ej
    exact ⟨t :: as, (k, .ref a) :: kvs, by rw [e1]; rfl, .cons h1 q1, .cons ⟨rfl, a, h2, rfl⟩ q2⟩
def wKV (wa : DTA) : DTK := fun ρ κ P => wa ρ κ fun rs κ1 => match rs with
  | [.d x, .c j] => Opt (keyD x) fun q => P q j κ1
  | _ => False
theorem s_KV {wa : DTA} {ρ : Rho} {κ : Kap} {P : Key → Nat → Kap → Prop} : wKV wa ρ κ P = wa ρ κ fun rs κ1 => match rs with
  | [.d x, .c j] => Opt (keyD x) fun q => P q j κ1
  | _ => False := rfl
def DKV (X : Cx) (e : Expr) (w : DTK) : Prop := ∃ t, PE X e t ∧ ∀ (G H : Hp) (As : List Addr) (σ : L2.St) (ρ : Rho) (κ : Kap) (P : Key → Nat → Kap → Prop) (Q : VK), Cells X.K G H As κ → Places X.K G As σ ρ → w ρ κ P →
  (∀ v q j G' H' As' κ', Step G H As G' H' As' → Cells X.K G' H' As' κ' → Places X.K G' As' σ ρ → KR G' As' v q j → P q j κ' → Q v H') → t σ H Q
theorem dkv_tup {X : Cx} {es : List Expr} {wr : DTA} {pos : Pos} {x1 : Nat} (h : DA X es wr) : DKV X (.Tuple es x1 pos) (wKV wr) := by
  obtain ⟨t, pt, h⟩ := h
  refine ⟨_, pe_tup pt, fun G H As σ ρ κ P Q c p w k => ?_⟩
  refine h G H As σ ρ κ _ _ c p w fun vs rs G1 H1 As1 κ1 s1 c1 p1 i1 el w1 => ?_
  split at w1
  · rename_i x j
    obtain ⟨q, eq, w2⟩ := w1.ex
    cases i1 with
    | cons i1 i2 =>
      cases i2 with
      | cons i2 i3 =>
        cases i3
        obtain ⟨a, ha, rfl⟩ := i2
        have ek := key_rel eq i1
        subst ek
        refine ⟨show 2 ≤ sizeLine by rw [sizeLine_eq]; decide, fun p' hp => ?_⟩
        have st := Step.laid (As := As1) (o := .tup [kV q, .ref a]) c1.ext hp
        exact k (.ref p') q j _ _ As1 κ1 (s1.trans st) (c1.laid hp) (p1.step st) ⟨p', a, rfl, upd_same, ha⟩ w2
  · exact w1.elim
theorem uni_KV {X : Cx} {scope : Scope} {e : Expr} {w : DTK} (h : ∀ i : BI, DKV (i.cx X scope) e w) : ∃ t, (∀ i : BI, PE (i.cx X scope) e t) ∧ ∀ (G H : Hp) (As : List Addr) (σ : L2.St) (ρ : Rho) (κ : Kap) (P : Key → Nat → Kap → Prop) (Q : VK), Cells X.K G H As κ → Places X.K G As σ ρ → w ρ κ P →
    (∀ v q j G' H' As' κ', Step G H As G' H' As' → Cells X.K G' H' As' κ' → Places X.K G' As' σ ρ → KR G' As' v q j → P q j κ' → Q v H') → t σ H Q := by
  obtain ⟨f, hf⟩ := Classical.skolem.mp h
  exact ⟨fun σ H Q => ∀ i, f i σ H Q, fun i => ⟨fun pins s σ H Q I q => (hf i).1.run pins s σ H Q I (q i)⟩, fun G H As σ ρ κ P Q c p w k i => (hf i).2 G H As σ ρ κ P Q c p w k⟩
def lcK (ok : Kap → Prop) (g : DTG) (t : DTT) (e : DTK) (ρw : Rho) (P : List (Key × R) → Kap → Prop) : List PyData → List (Key × R) → Kap → Prop
  | [], es, κ => P es κ
  | x :: xs, es, κ => g (.d x) ρw κ fun ρ1 κ1 => t ρ1 κ1 fun b κ2 => if b = true then e ρ1 κ2 fun q j κ3 => es.length < sizeLine ∧ ok κ3 ∧ lcK ok g t e ρw P xs (es ++ [(q, R.c j)]) κ3 else ok κ2 ∧ lcK ok g t e ρw P xs es κ2
theorem lcK_nil {ok : Kap → Prop} {g : DTG} {t : DTT} {e : DTK} {ρw : Rho} {P : List (Key × R) → Kap → Prop} {es : List (Key × R)} {κ : Kap} : lcK ok g t e ρw P [] es κ = P es κ := rfl
theorem lcK_cons {ok : Kap → Prop} {g : DTG} {t : DTT} {e : DTK} {ρw : Rho} {P : List (Key × R) → Kap → Prop} {x : PyData} {xs : List PyData} {es : List (Key × R)} {κ : Kap} : lcK ok g t e ρw P (x :: xs) es κ = g (.d x) ρw κ fun ρ1 κ1 => t ρ1 κ1 fun b κ2 => if b = true then e ρ1 κ2 fun q j κ3 => es.length < sizeLine ∧ ok κ3 ∧ lcK ok g t e ρw P xs (es ++ [(q, R.c j)]) κ3 else ok κ2 ∧ lcK ok g t e ρw P xs es κ2 := rfl
def wDictLB (wi : DTI) (g : DTG) (t : DTT) (e : DTK) (vs : List Nat) : DTE := fun ρ κ P => wi ρ κ fun xs ok κ1 => lcK ok g t e (wipeR ρ vs) (fun es κ2 => P (.c κ2.length) (κ2 ++ [.m (mergeM [] es)])) xs [] κ1
theorem s_dictLB {wi : DTI} {g : DTG} {t : DTT} {e : DTK} {vs : List Nat} {ρ : Rho} {κ : Kap} {P : R → Kap → Prop} : wDictLB wi g t e vs ρ κ P = wi ρ κ fun xs ok κ1 => lcK ok g t e (wipeR ρ vs) (fun es κ2 => P (.c κ2.length) (κ2 ++ [.m (mergeM [] es)])) xs [] κ1 := rfl
section
variable {X : Cx} {elt tg iter : Expr} {ifs : List Expr} {scope : Scope} {own : List (Str × Nat)} {pos : Pos} {wi : DTI} {g : DTG} {wt : DTT} {we : DTK} {js : List Nat}
theorem lcK_reads {ti : TI} {gg : TG} {tt : TT} {te : TE} {vs : List Nat} (hj : ∀ j, j ∈ js → j ∈ vs)
    (hi : ∀ (G H : Hp) (As : List Addr) (σ : L2.St) (ρ : Rho) (κ : Kap) (P : List PyData → (Kap → Prop) → Kap → Prop) (R : L2.It → Hp → Prop), Cells X.K G H As κ → Places X.K G As σ ρ → wi ρ κ P → (∀ J xs ok G' H' As' κ', Step G H As G' H' As' → Cells X.K G' H' As' κ' → Places X.K G' As' σ ρ → WalkOk X.K G' As' J xs ok → ok κ' → P xs ok κ' → R J H') → ti σ H R)
    (hg : ∀ (G H : Hp) (As : List Addr) (σ : L2.St) (ρ : Rho) (κ : Kap) (v : V) (r : R) (P : Rho → Kap → Prop) (Q : L2.St → Hp → Prop), Cells X.K G H As κ → Places X.K G As σ ρ → It X.K G As v r → g r ρ κ P → (∀ σ' ρ' G' H' As' κ', Wr js σ σ' → Step G H As G' H' As' → Cells X.K G' H' As' κ' → Places X.K G' As' σ' ρ' → P ρ' κ' → Q σ' H') → gg v σ H Q)
    (ht : ∀ (G H : Hp) (As : List Addr) (σ : L2.St) (ρ : Rho) (κ : Kap) (P : Bool → Kap → Prop) (Q : Bool → Hp → Prop), Cells X.K G H As κ → Places X.K G As σ ρ → wt ρ κ P → (∀ b G' H' As' κ', Step G H As G' H' As' → Cells X.K G' H' As' κ' → Places X.K G' As' σ ρ → P b κ' → Q b H') → tt σ H Q)
    (he : ∀ (G H : Hp) (As : List Addr) (σ : L2.St) (ρ : Rho) (κ : Kap) (P : Key → Nat → Kap → Prop) (Q : VK), Cells X.K G H As κ → Places X.K G As σ ρ → we ρ κ P → (∀ v q j G' H' As' κ', Step G H As G' H' As' → Cells X.K G' H' As' κ' → Places X.K G' As' σ ρ → KR G' As' v q j → P q j κ' → Q v H') → te σ H Q)
    (G H : Hp) (As : List Addr) (σ : L2.St) (ρ : Rho) (κ : Kap) (P : List (Key × R) → Kap → Prop) (Q : VK) (c : Cells X.K G H As κ) (p : Places X.K G As σ ρ) (w : wi ρ κ fun xs ok κ1 => lcK ok g wt we (wipeR ρ vs) P xs [] κ1)
    (k : ∀ D ws es G' H' As' κ', Step G H As G' H' As' → Cells X.K G' H' As' κ' → Places X.K G' As' σ ρ → H' D = some (.lst ws) → RefsK G' As' ws es → P es κ' → Q (.ref D) H') : tLc ti gg tt te vs σ H Q := by
  refine hi G H As σ ρ κ _ _ c p w fun J xs ok G1 H1 As1 κ1 s1 c1 p1 wk o1 w1 => fun D hD => ?_
  have gD1 : G1 D = none := c1.ext.free hD
  have nD1 : D ∉ As1 := c1.notin hD
  -- the list that is made stands at D, is known to nobody, and only the turns change it
  let W : Nat → Hp → Prop := fun i H' => ∃ G' As' κ' acc vs', Step G1 H1 As1 G' H' As' ∧ Cells X.K G' H' As' κ' ∧ G' D = none ∧ D ∉ As' ∧ H' D = some (.lst vs') ∧ RefsK G' As' vs' acc ∧ ok κ' ∧ lcK ok g wt we (wipeR ρ vs) P (xs.drop i) acc κ'
  -- a step keeps the list at D as it is
  have keep : ∀ {Ga Ha Asa Gb Hb Asb} {vs' : List V}, Step Ga Ha Asa Gb Hb Asb → Ga D = none → D ∉ Asa → Ha D = some (.lst vs') → Gb D = none ∧ D ∉ Asb ∧ Hb D = some (.lst vs') := fun s g0 n0 h0 => by
    refine ⟨?_, fun hm => ?_, s.fr D _ n0 (wo_lst _).1 h0⟩
    · rcases s.gn D g0 with z | z | z | ⟨ys, z⟩
      · exact z
      · rw [h0] at z; cases z
      · exact absurd z n0
      · have q := s.fr D _ n0 (wo_lst _).1 h0
        rw [z] at q
        cases q
    · rcases s.new D hm with z | z
      · exact n0 z
      · rw [h0] at z; cases z
  -- a turn's end: the item goes onto the list
  have grow : ∀ {G' H' As' κ' acc vs' v y j i}, Step G1 H1 As1 G' H' As' → Cells X.K G' H' As' κ' → G' D = none → D ∉ As' → H' D = some (.lst vs') → RefsK G' As' vs' acc → KR G' As' v y j → ok κ' → lcK ok g wt we (wipeR ρ vs) P (xs.drop i) (acc ++ [(y, R.c j)]) κ' → W i (upd H' D (.lst (vs' ++ [v]))) := fun {G' H' As' κ' acc vs' v y j i} s c g0 n0 h0 rp rv o f => by
    refine ⟨G', As', κ', acc ++ [(y, R.c j)], vs' ++ [v], ⟨s.ex, s.pre, s.new, fun b u hb nt e => ?_, fun b e => ?_, s.gnU h0 (wo_lst _)⟩, ⟨c.ext.mut g0, c.len, c.nd, fun a ha => ?_, fun j x a e1 e2 => ?_, c.tab.put (wo_at h0 (wo_lst _))⟩, g0, n0, upd_same, rp.snoc rv, o, f⟩
    · by_cases q : b = D
      · subst q; rw [hD] at e; cases e
      · rw [upd_ne q]; exact s.fr b u hb nt e
    · by_cases q : b = D
      · subst q; rw [upd_same] at e; cases e
      · rw [upd_ne q] at e; exact s.dom b e
    · by_cases q : a = D
      · subst q; exact ⟨_, upd_same⟩
      · rw [upd_ne q]; exact c.al a ha
    · have z := c.ok j x a e1 e2
      cases x with
      | l ds =>
        obtain ⟨z1, ws, z2, z3⟩ := z
        have ne : a ≠ D := fun q => n0 (by rw [← q]; exact List.mem_of_getElem? e2)
        exact ⟨z1, ws, by rw [upd_ne ne]; exact z2, z3⟩
      | m ds =>
        obtain ⟨z1, ws, z2, z3⟩ := z
        have ne : a ≠ D := fun q => n0 (by rw [← q]; exact List.mem_of_getElem? e2)
        exact ⟨z1, ws, by rw [upd_ne ne]; exact z2, z3⟩
      | z x => exact z
      | k es => exact z
      | x u =>
        obtain ⟨z1, z2, z3⟩ := z
        have ne : a ≠ D := fun q => n0 (by rw [← q]; exact List.mem_of_getElem? e2)
        exact ⟨z1, by rw [upd_ne ne]; exact z2, z3⟩
  refine ⟨fun i m H' => i + m = xs.length ∧ W i H', ⟨xs.length, by omega, G1, As1, κ1, [], [], Step.fresh hD, c1.fresh hD, gD1, nD1, upd_same, RefsK.nil, o1, w1⟩, fun i m H' hW => ?_⟩
  obtain ⟨em, G', As', κ', acc, vs', s', c', g', n', h', rp, o', f⟩ := hW
  obtain ⟨wgo, wst, wyl⟩ := wk G' H' As' κ' s'.ex s'.pre c' o'
  cases m with
  | zero =>
    have ei : i = xs.length := by omega
    subst ei
    rw [List.drop_length] at f
    have st := s1.trans s'
    exact .inl ⟨wst, k D vs' acc _ H' As' κ' st c' (p.step st) h' rp f⟩
  | succ m =>
    have hi' : i < xs.length := by omega
    rw [List.drop_eq_getElem_cons hi'] at f
    refine .inr ⟨wgo i hi', W (i + 1), fun H2 q => ⟨m, by omega, by omega, q⟩, fun v H2 hy => ?_⟩
    obtain ⟨G2, s2, c2, r2⟩ := wyl i v H2 _ hy (List.getElem?_eq_getElem hi')
    obtain ⟨g2, n2, h2⟩ := keep s2 g' n' h'
    refine hg G2 H2 As' (wipe σ vs) (wipeR ρ vs) κ' v (.d xs[i]) _ _ c2 ((p.step ((s1.trans s').trans s2)).wipe vs) r2 f fun σ3 ρ3 G3 H3 As3 κ3 a3 s3 c3 p3 w3 => ⟨?_, ?_⟩
    · have hw : wipe (wipe σ vs) vs = wipe σ vs := by
        refine List.ext_getElem? fun j => ?_
        by_cases hj : j ∈ vs
        · rw [wipe_in hj, wipe_in hj, wipe_length]
        · rw [wipe_out hj]
      rw [← hw]
      have q := a3.wipe hj
      rw [q]
    · obtain ⟨g3, n3, h3⟩ := keep s3 g2 n2 h2
      refine ht G3 H3 As3 σ3 ρ3 κ3 _ _ c3 p3 w3 fun z G4 H4 As4 κ4 s4 c4 p4 w4 => ?_
      obtain ⟨g4, n4, h4⟩ := keep s4 g3 n3 h3
      have st4 : Step G1 H1 As1 G4 H4 As4 := ((s'.trans s2).trans s3).trans s4
      cases z with
      | false =>
        rw [if_neg (by decide)] at w4 ⊢
        exact ⟨G4, As4, κ4, acc, vs', st4, c4, g4, n4, h4, rp.mono (((s2.trans s3).trans s4)).ex (((s2.trans s3).trans s4)).pre, w4.1, w4.2⟩
      | true =>
        rw [if_pos rfl] at w4 ⊢
        refine he G4 H4 As4 σ3 ρ3 κ4 _ _ c4 p4 w4 fun v5 q5 j5 G5 H5 As5 κ5 s5 c5 p5 i5 w5 => ?_
        obtain ⟨hl, ho, w6⟩ := w5
        obtain ⟨g6, n6, h6⟩ := keep s5 g4 n4 h4
        have rp6 := rp.mono ((((s2.trans s3).trans s4)).trans s5).ex ((((s2.trans s3).trans s4)).trans s5).pre
        refine ⟨vs', h6, by rw [rp6.len]; exact hl, ?_⟩
        exact grow (st4.trans s5) c5 g6 n6 h6 rp6 i5 ho w6
theorem de_dictLB {p dpos : Pos} (hc : X.calm = true) (hm : X.mg "dict" = none) (hN : X.N.Nodup) (hi : DI X tg iter wi) (ok : BlkOk X.N X.env.scope scope own) (hg : ∀ i : BI, DG (i.cx X scope) tg js g) (ht : ∀ i : BI, DTs (i.cx X scope) ifs wt) (he : ∀ i : BI, DKV (i.cx X scope) elt we)
    (hj : ∀ j, j ∈ js → j ∈ own.map (·.2) := by decide) (hs : ∀ x, foldedSetIterable iter X.env x = pure x := by intro _; rfl) (hgl : Gl X "dict" := by rfl) (h1 : starEach [.ListComp elt [⟨tg, iter, ifs, 0⟩] scope pos] X.env = (false, eval (.ListComp elt [⟨tg, iter, ifs, 0⟩] scope pos) X.env) :: starEach [] X.env := by rfl)
    (h4 : (backTo dpos (starEach [] X.env)).any (·.1) = false := by rfl) : DE X (.Call (.Name "dict" p) [.ListComp elt [⟨tg, iter, ifs, 0⟩] scope pos] [] dpos) (wDictLB wi g wt we (own.map (·.2))) := by
  obtain ⟨ti, pi, hi⟩ := hi
  obtain ⟨gg, pg, hg⟩ := uni_G hg
  obtain ⟨tt, pt, ht⟩ := uni_T ht
  obtain ⟨te, pe, he⟩ := uni_KV he
  have plc := pe_lc (pos := pos) hc hN pi ok (fun s H C cl fp => pg ⟨s, H, C, cl, fp⟩) (fun s H C cl fp => pt ⟨s, H, C, cl, fp⟩) (fun s H C cl fp => pe ⟨s, H, C, cl, fp⟩) hs
  obtain ⟨t0, pt0, h0⟩ : ∃ t0, PE X (.ListComp elt [⟨tg, iter, ifs, 0⟩] scope pos) t0 ∧ ∀ (G H : Hp) (As : List Addr) (σ : L2.St) (ρ : Rho) (κ : Kap) (P : List (Key × R) → Kap → Prop) (Q : VK), Cells X.K G H As κ → Places X.K G As σ ρ → (wi ρ κ fun xs ok κ1 => lcK ok g wt we (wipeR ρ (own.map (·.2))) P xs [] κ1) →
      (∀ D ws es G' H' As' κ', Step G H As G' H' As' → Cells X.K G' H' As' κ' → Places X.K G' As' σ ρ → H' D = some (.lst ws) → RefsK G' As' ws es → P es κ' → Q (.ref D) H') → t0 σ H Q := ⟨_, plc, fun G H As σ ρ κ P Q c p w k => lcK_reads hj hi hg ht he G H As σ ρ κ P Q c p w k⟩
  refine ⟨_, pe_callTy (call_dictP hc) hgl hm (by decide +kernel) (pa_cons pt0 pa_nil h1) (by decide) (by decide) h1 h4, fun G H As σ ρ κ P Q c pl w k => ?_⟩
  refine h0 G H As σ ρ κ _ _ c pl w fun D ws es G1 H1 As1 κ1 s1 c1 p1 hD hr w1 => ?_
  obtain ⟨as, kvs, rfl, hp, mp⟩ := hr.pairs (K := X.K)
  refine ⟨D, as, kvs, rfl, sql_of hD, Paired.mapP hp fun b kv q => sqt_of (c1.ext _ _ q), fun q hq => ?_⟩
  have mm : Mp X.K G1 As1 (mergeK [] kvs) (mergeM [] es) := Mp.merge mp .nil
  have st : Step G1 H1 As1 G1 (upd H1 q (.dK (mergeK [] kvs))) (As1 ++ [q]) := Step.more hq
  have c' : Cells X.K G1 (upd H1 q (.dK (mergeK [] kvs))) As1 κ1 := c1.fresh hq
  refine k (.ref q) (.c κ1.length) G1 _ (As1 ++ [q]) _ (s1.trans st) (c'.moreC (c2 := .m _) (c1.notin hq) upd_same ⟨c1.ext.free hq, _, upd_same, mm.mono (Ex.refl G1) ⟨[q], rfl⟩⟩) (p1.step st) ⟨q, ?_, rfl⟩ w1
  rw [← c1.len, List.getElem?_append_right (Nat.le_refl _), Nat.sub_self]
  rfl
end
def wAsgM (we : DTE) (g : DTG) : DTS := fun E ρ κ => we ρ κ fun r κ1 => g (sto true r κ1).1 ρ (sto true r κ1).2 E.nx
theorem s_asgM {we : DTE} {g : DTG} {E : DEnds} {ρ : Rho} {κ : Kap} : wAsgM we g E ρ κ = we ρ κ fun r κ1 => g (sto true r κ1).1 ρ (sto true r κ1).2 E.nx := rfl
def wSubDR (wo wi : DTE) : DTG := fun r ρ κ P => wo ρ κ fun ro κ1 => match ro with
  | .c d => wi ρ κ1 fun ri κ2 => match ri, κ2[d]? with
    | .d x, some (.m es) => Opt (keyD x) fun k => es.length < sizeLine ∧ P ρ (κ2.set d (Cell.m (putM es k r)))
    | _, _ => False
  | _ => False
theorem s_subDR {wo wi : DTE} {r : R} {ρ : Rho} {κ : Kap} {P : Rho → Kap → Prop} : wSubDR wo wi r ρ κ P = wo ρ κ fun ro κ1 => match ro with
  | .c d => wi ρ κ1 fun ri κ2 => match ri, κ2[d]? with
    | .d x, some (.m es) => Opt (keyD x) fun k => es.length < sizeLine ∧ P ρ (κ2.set d (Cell.m (putM es k r)))
    | _, _ => False
  | _ => False := rfl
section
variable {X : Cx} {e tg o i : Expr} {we wo wi : DTE} {wg : DTG} {js : List Nat} {pos : Pos}
theorem ds_asgM (he : DE X e we) (hg : DG X tg js wg) (hs : swapsWithSole [tg] e pos.line X.env = pure false := by rfl) (hw : swappedStores [tg] e X.env = pure none := by rfl) (h1 : (assignEach [tg] X.env).map (·.2) = [assign tg X.env] := by rfl) : DS X (.Assign [tg] e pos) (wAsgM we wg) := by
  obtain ⟨t, pt, he⟩ := he
  obtain ⟨g, pg, hg⟩ := hg
  refine ⟨_, ps_asg pt pg hs hw h1, fun G H As σ ρ κ E D c p w r => ?_⟩
  refine he G H As σ ρ κ _ _ c p w fun v q G1 H1 As1 κ1 s1 c1 p1 i1 w1 => ?_
  obtain ⟨G1', As1', s1', c1', i1', e1, e2⟩ := sto_ok true s1 c1 i1
  refine hg G1' H1 As1' σ ρ _ _ _ _ _ c1' (p1.mono e1 e2) i1' w1 fun σ2 ρ2 G2 H2 As2 κ2 _ s2 c2 p2 w2 => ?_
  exact r.nx σ2 ρ2 G2 H2 As2 κ2 (s1'.trans s2) c2 p2 w2
theorem dg_subDR (hu : X.A.units + 65 < cLine) (ho : DE X o wo) (hi : DE X i wi) (hx : ∀ v, assign (.Subscript o i pos) X.env v = (do
      let ov ← holding [v] (eval o X.env)
      let iv ← holding [v, ov] (eval i X.env)
      standAt pos
      holding [v, ov, iv] (setItem ov iv v)
      release [v, ov, iv] []) := by intro _; rfl) : DG X (.Subscript o i pos) [] (wSubDR wo wi) := by
  obtain ⟨to, po, ho⟩ := ho
  obtain ⟨ti, pi, hi⟩ := hi
  refine ⟨_, pg_sub po pi (set_dict (by omega)) hx, fun G H As σ ρ κ v r P Q c p i0 w k => ?_⟩
  refine ho G H As σ ρ κ _ _ c p w fun v1 r1 G1 H1 As1 κ1 s1 c1 p1 i1 w1 => ?_
  cases r1 with
  | c kk =>
    obtain ⟨l, hl, rfl⟩ := i1
    refine hi G1 H1 As1 σ ρ κ1 _ _ c1 p1 w1 fun v2 r2 G2 H2 As2 κ2 s2 c2 p2 i2 w2 => ?_
    split at w2
    · rename_i o1 o2 y es hk
      obtain ⟨q, eq, hlen, w3⟩ := w2.ex
      have i2 : Rp X.K G2 v2 y := i2
      have ek := key_rel eq i2
      obtain ⟨bs, eb⟩ := s2.pre
      have hl2 : As2[kk]? = some l := by rw [eb, List.getElem?_append_left (List.getElem?_eq_some_iff.mp hl).1]; exact hl
      obtain ⟨g0, kvs, hq, mp⟩ := c2.ok kk _ l hk hl2
      have r02 : It X.K G2 As2 v r := (s1.trans s2).it i0
      refine ⟨l, _, rfl, by rw [ek]; exact DPut.k hq (by rw [mp.len]; exact hlen), ?_⟩
      have sw : Step G2 H2 As2 G2 (upd H2 l (.dK (putK kvs q v))) As2 := Step.write (List.mem_of_getElem? hl2) hq
      have sa := (s1.trans s2).trans sw
      exact k σ ρ G2 _ As2 _ Wr.refl sa (c2.put (c2 := .m (putM es q r)) hk hl2 g0 (wo_at hq (wo_dK _)) ⟨g0, _, upd_same, mp.put r02⟩) (p.step sa) w3
    · exact w2.elim
  | _ => exact w1.elim
end
end DL
namespace DL
open PySem PySem.Spec PyProof.Rows L2
def mH (xs : List (Key × PyData)) : List (Key × R) := xs.map fun e => (e.1, R.d e.2)
theorem mp_H {K : PySem.W.Frag} {G : Hp} {As : List Addr} {kvs : List (Key × V)} {xs : List (Key × PyData)} (h : EnH K G kvs xs) : Mp K G As kvs (mH xs) := by
  unfold EnH at h
  unfold Mp mH
  induction h with
  | nil => exact .nil
  | cons q _ ih => exact .cons ⟨q.1, q.2⟩ ih
def Tm (K : PySem.W.Frag) (H0 G H : Hp) (As : List Addr) (v : V) (xs : List (Key × PyData)) : Prop := ∃ d kvs, v = .ref d ∧ H0 d = none ∧ d ∉ As ∧ G d = none ∧ H d = some (.dK kvs) ∧ EnH K G kvs xs
def spLN (K : PySem.W.Frag) (n : Nat) (Φ : List PyData → List R → (List (Key × PyData) → List PyData → Prop) → Prop) : Sp := fun vs H Q _ => vs.length = n ∧ ∃ (G : Hp) (a : Addr) (ws : List V) (bs : List PyData) (rs : List R) (P : List (Key × PyData) → List PyData → Prop),
  vs = .ref a :: ws ∧ Cells K G H [a] [.l bs] ∧ Paired (It K G []) ws rs ∧ Φ bs rs P ∧
  ∀ v xs bs' G' H', P xs bs' → Cells K G' H' [a] [.l bs'] → Step G H [a] G' H' [a] → Tm K H G' H' [a] v xs → Q v H'
def wCallLN (Φ : List PyData → List R → (List (Key × PyData) → List PyData → Prop) → Prop) (wa : DTA) : DTE := fun ρ κ P => wa ρ κ fun rs κ1 => Opt (lend κ1 rs) fun q => Φ q.2.1 q.2.2.1 fun xs bs => P (.c q.2.2.2.length) (q.2.2.2.set q.1 (.l bs) ++ [.m (mH xs)])
theorem s_callLN {Φ : List PyData → List R → (List (Key × PyData) → List PyData → Prop) → Prop} {wa : DTA} {ρ : Rho} {κ : Kap} {P : R → Kap → Prop} : wCallLN Φ wa ρ κ P = wa ρ κ fun rs κ1 => Opt (lend κ1 rs) fun q => Φ q.2.1 q.2.2.1 fun xs bs => P (.c q.2.2.2.length) (q.2.2.2.set q.1 (.l bs) ++ [.m (mH xs)]) := rfl
section
variable {X : Cx} {k n : Nat} {ps : List Str} {x : Str} {p pos : Pos} {e : Expr} {es : List Expr} {wr : DTA}
theorem de_callC_LN {Φ : List PyData → List R → (List (Key × PyData) → List PyData → Prop) → Prop} (C : Cal X.prog X.w X.K X.mg X.base x k ps (spLN X.K n Φ)) (hr : RoomG k X.A) (hn : n = (e :: es).length) (ha : DA X (e :: es) wr) (hg : Gl X x := by rfl) (hdb : (x == ("__debug__" : Str)) = false := by decide)
    (he : starEach (e :: es) X.env = (false, eval e X.env) :: starEach es X.env := by rfl) (hpl : (backTo pos (starEach es X.env)).any (·.1) = false := by rfl) : DE X (.Call (.Name x p) (e :: es) [] pos) (wCallLN Φ wr) := by
  obtain ⟨f, fd, F, hm, hk, hb⟩ := C.ex
  obtain ⟨t, pt, h⟩ := ha
  refine ⟨_, pe_callG F hr hg hm hk hb .nil pass0 pt hdb he hpl, fun G H As σ ρ κ P Q c pl w kk => ?_⟩
  refine h G H As σ ρ κ _ _ c pl w fun vs rs G1 H1 As1 κ1 s1 c1 p1 i1 el w1 => ?_
  obtain ⟨⟨kc, bs, xs, κ2⟩, ea, w2⟩ := w1.ex
  cases rs with
  | nil => cases ea
  | cons r rs =>
    cases r with
    | c kk' =>
      cases i1 with
      | cons i1 i1r =>
        unfold lend at ea
        simp only at ea
        cases q2 : args κ1 rs with
        | none => rw [q2] at ea; cases ea
        | some pp =>
          obtain ⟨ys, κ3⟩ := pp
          rw [q2] at ea
          simp only at ea
          cases q3 : κ3[kk']? with
          | none => rw [q3] at ea; cases ea
          | some c3 =>
            cases c3 with
            | l ds =>
              rw [q3] at ea
              cases ea
              obtain ⟨G2, s2, c2, i2⟩ := args_ok c1 i1r q2
              obtain ⟨a, ha1, rfl⟩ := i1
              rw [List.append_nil]
              refine ⟨by rw [List.length_cons, Paired.length i1r, hn]; exact el, G2, a, _, _, _, _, rfl, c2.one q3 ha1, i2, w2, fun v yss bs' G' H' hP hE s3 tm => ?_⟩
              have st : Step G H As G' H' As1 := (s1.trans s2).trans (s3.lent (List.mem_of_getElem? ha1))
              obtain ⟨d, kvs, rfl, hd0, _, gd, hd, en⟩ := tm
              have nin : d ∉ As1 := c2.notin hd0
              have c4 := (c2.lent q3 ha1 s3 hE).moreC (c2 := .m (mH yss)) nin hd ⟨gd, kvs, hd, mp_H en⟩
              have hd00 : H d = none := (s1.trans s2).dom d hd0
              have s4 : Step G H As G' H' (As1 ++ [d]) := by
                obtain ⟨bs2, e2⟩ := st.pre
                refine ⟨st.ex, ⟨bs2 ++ [d], by rw [e2, List.append_assoc]⟩, fun a ha => ?_, st.fr, st.dom, st.gn⟩
                rcases List.mem_append.mp ha with z | z
                · exact st.new a z
                · rw [List.mem_singleton] at z
                  subst z
                  exact .inr hd00
              refine kk (.ref d) (.c _) G' H' (As1 ++ [d]) _ s4 c4 (pl.step s4) ⟨d, ?_, rfl⟩ hP
              rw [← c2.len, List.getElem?_append_right (Nat.le_refl _), Nat.sub_self]
              rfl
            | _ => rw [q3] at ea; cases ea
    | _ => cases ea
end
def endLN (κ : Kap) (r : R) (Pd : List (Key × PyData) → List PyData → Prop) : Prop := match r with
  | .c k => 1 ≤ k ∧ match (κ[k]? : Option Cell) with
    | some (.m es) => Opt (hdats κ es) fun q => match (q.2[(0 : Nat)]? : Option Cell) with
      | some (.l bs) => Pd q.1 bs
      | _ => False
    | _ => False
  | _ => False
theorem endLN_ex {κ : Kap} {r : R} {Pd : List (Key × PyData) → List PyData → Prop} (h : endLN κ r Pd) : ∃ k es xs κ2 bs, r = .c k ∧ 1 ≤ k ∧ κ[k]? = some (.m es) ∧ hdats κ es = some (xs, κ2) ∧ κ2[(0 : Nat)]? = some (.l bs) ∧ Pd xs bs := by
  unfold endLN at h
  split at h
  · rename_i k
    obtain ⟨h1, h⟩ := h
    split at h
    · rename_i es e
      obtain ⟨⟨xs, κ2⟩, e2, h⟩ := h.ex
      dsimp only at h
      split at h
      · rename_i bs e3
        exact ⟨k, es, xs, κ2, bs, rfl, h1, e, e2, e3, h⟩
      · exact h.elim
    · exact h.elim
  · exact h.elim
theorem endLN_of {κ κ2 : Kap} {k : Nat} {es : List (Key × R)} {xs : List (Key × PyData)} {bs : List PyData} {Pd : List (Key × PyData) → List PyData → Prop} (h1 : 1 ≤ k) (hk : κ[k]? = some (.m es)) (e : hdats κ es = some (xs, κ2)) (e0 : κ2[(0 : Nat)]? = some (.l bs)) (h : Pd xs bs) : endLN κ (.c k) Pd := by
  unfold endLN
  dsimp only
  rw [hk]
  dsimp only
  rw [e, Opt_some]
  dsimp only
  rw [e0]
  exact ⟨h1, h⟩
section
variable {P : Program} {w : World} {K : PySem.W.Frag} {mg : Str → Option Value} {base : Heap} {x qual : Str} {st : Stmt} {f : Addr} {fd : FuncData} {N ps : List Str} {k : Nat}
theorem dfnLN {Φ : List PyData → List R → (List (Key × PyData) → List PyData → Prop) → Prop} {n : Nat} (F : Fun K x qual st f fd) (S : FnScope N ps (defScope st)) (hn : ps.length = n + 1)
    (hb : ∀ (cdv : Value) (A : Around) (outer : List Env) (s : Shared) (H : Hp) (E : XK), RoomG k (A.deeper (envOfC qual (defScope st) s.heap.objs.size f cdv)) →
      ∃ wd, DSs (cxOf CX0 P w K mg base N qual (defScope st) f cdv A outer s H E).nox (defBody st) wd ∧ ∀ bs rs Pd, Φ bs rs Pd → rs.length = n → wd { nx := fun _ _ => False, rt := fun r κ => endLN κ r Pd } (some (.c 0) :: (rs.map some ++ List.replicate (N.length - ps.length) none)) [.l bs]) :
    FnG P w K mg base CX0 (k + 1) f fd ps (spLN K ps.length Φ) := by
  refine Fun.okG F S (fun vs H Q E h => h.1) (fun cdv A outer s H vs Q E hr h => ?_)
  obtain ⟨hl, G, a, ws, bs, rs, Pd, rfl, c0, i0, hΦ, kk⟩ := h
  obtain ⟨wd, ⟨t, pt, ht⟩, hw⟩ := hb cdv A outer s H E hr
  have hl2 : rs.length = n := by
    have e1 := Paired.length i0
    rw [List.length_cons] at hl
    omega
  refine ⟨t, pt, ?_⟩
  have i1 : Paired (It K G [a]) (V.ref a :: ws) (R.c 0 :: rs) := .cons ⟨a, rfl, rfl⟩ (Paired.mapP i0 fun _ _ z => z.mono (Ex.refl G) ⟨[a], rfl⟩)
  have p0 := places_start i1 (N.length - ps.length)
  have one : ∀ {G' H' As' κ' bs'}, Step G H [a] G' H' As' → Cells K G' H' As' κ' → κ'[0]? = some (.l bs') → Cells K G' H' [a] [.l bs'] := fun s' c' e => by
    obtain ⟨zs, ez⟩ := s'.pre
    exact c'.one e (by rw [ez]; rfl)
  unfold L2.start
  rw [hl]
  refine ht G H [a] _ _ [.l bs] _ _ c0 p0 (hw bs rs Pd hΦ hl2) ⟨fun _ _ _ _ _ _ _ _ _ q => q.elim, fun _ _ _ _ _ _ _ _ _ q => q.elim, fun _ _ _ _ _ _ _ _ _ q => q.elim, fun v r G' H' As' κ' s' c' rv q => ?_⟩
  obtain ⟨j, es, xs, κ2, bs', rfl, j1, hj, eh, e0, q⟩ := endLN_ex q
  obtain ⟨d, hd, rfl⟩ := (show It K G' As' v (.c j) from rv)
  obtain ⟨_, kvs, hq, mp⟩ := c'.ok j _ d hj hd
  obtain ⟨G2, s2, c2, en⟩ := hdats_ok c' mp eh
  have hj2 := hdats_keepM eh hj
  obtain ⟨gd, _⟩ := c2.ok j _ d hj2 hd
  have st := s'.trans s2
  have nd : d ∉ [a] := fun hm => by
    rw [List.mem_singleton] at hm
    subst hm
    obtain ⟨zs, ez⟩ := s'.pre
    have h0 : As'[0]? = some d := by rw [ez]; rfl
    obtain ⟨l1, q1⟩ := List.getElem?_eq_some_iff.mp h0
    obtain ⟨l2, q2⟩ := List.getElem?_eq_some_iff.mp hd
    have := (List.getElem_inj c'.nd).mp (q1.trans q2.symm)
    omega
  have hd0 : H d = none := by
    rcases s'.new d (List.mem_of_getElem? hd) with z | z
    · exact absurd z nd
    · exact z
  exact kk (.ref d) xs bs' G2 H' q (one st c2 e0) st.short ⟨d, kvs, rfl, hd0, nd, gd, hq, en⟩
end
def wCallKM (Φ : List MEnt → List R → (R → Prop) → Prop) (q : List Nat) (wk : DTA) : DTE := fun ρ κ P => wk ρ κ fun rs κ1 => match pick q rs with
  | .c k :: rs' => Opt (args κ1 rs') fun z => ∃ es : List MEnt, z.2[k]? = some (.m (mOf es)) ∧ Φ es z.1 fun r => P (r.lab k) z.2
  | _ => False
theorem s_callKM {Φ : List MEnt → List R → (R → Prop) → Prop} {q : List Nat} {wk : DTA} {ρ : Rho} {κ : Kap} {P : R → Kap → Prop} : wCallKM Φ q wk ρ κ P = wk ρ κ fun rs κ1 => match pick q rs with
  | .c k :: rs' => Opt (args κ1 rs') fun z => ∃ es : List MEnt, z.2[k]? = some (.m (mOf es)) ∧ Φ es z.1 fun r => P (r.lab k) z.2
  | _ => False := rfl
theorem de_callK0_M {X : Cx} {k : Nat} {ps : List Str} {x : Str} {p pos : Pos} {Φ : List MEnt → List R → (R → Prop) → Prop} {ks : List Str} {q : List Nat} {kws : List Keyword} {wk : DTA} {l : Nat} (C : CalK X.prog X.w X.K X.mg X.base x k ps 0 ks q (spM X.K l Φ)) (hr : RoomG k X.A) (hm : ks.length = kws.length) (hkw : DK X kws wk)
    (hq : ∀ {α : Type} (xs : List α), xs.length = 0 + ks.length → (pick q xs).length = l)
    (hall : (backToKw pos (keywordEach kws X.env)).all (·.1.isSome) = true := by rfl) (hks : (backToKw pos (keywordEach kws X.env)).filterMap (·.1) = ks := by rfl) (hg : Gl X x := by rfl) (hdb : (x == ("__debug__" : Str)) = false := by decide)
    (hpl : ((backTo pos (starEach [] X.env)).any (·.1) || (backToKw pos (keywordEach kws X.env)).any (·.1.isNone)) = false := by rfl) :
    DE X (.Call (.Name x p) [] kws pos) (wCallKM Φ q wk) := by
  obtain ⟨f, fd, F, hmg, hk, hb⟩ := C.ex
  obtain ⟨tk, ptk, hk2⟩ := hkw
  refine ⟨_, pe_callN0G F hr hg hmg hk hb pass0 ptk hall hks hdb hpl, fun G H As σ ρ κ P Q c pl w kk => ?_⟩
  show tk σ H _
  refine hk2 G H As σ ρ κ _ _ c pl w fun vs rs G1 H1 As1 κ1 s1 c1 p1 i1 l1 w1 => ?_
  have e1 : vs.length = ks.length := (Paired.length i1).trans (l1.trans hm.symm)
  have ip := Paired.pick i1 q
  split at w1
  · rename_i k' rs' ep
    rw [ep] at ip
    cases ev : pick q vs with
    | nil => rw [ev] at ip; cases ip
    | cons v0 ws =>
      rw [ev] at ip
      cases ip with
      | cons i0 i1r =>
        obtain ⟨⟨ys, κ3⟩, q2, es', q3, w2⟩ := Opt.ex w1
        obtain ⟨G2, s2, c2, i2⟩ := args_ok c1 i1r q2
        obtain ⟨a, ha1, rfl⟩ := i0
        have el := hq vs (by rw [e1]; omega)
        refine ⟨rfl, e1, ?_⟩
        show spM X.K l Φ (pick q vs) H1 Q E0
        rw [ev]
        refine ⟨by rw [← ev]; exact el, G2, a, _, _, _, _, rfl, c2.oneM q3 ha1, i2, w2, fun v r G' H' hP hE s3 rv => ?_⟩
        have st : Step G H As G' H' As1 := (s1.trans s2).trans (s3.lent (List.mem_of_getElem? ha1))
        exact kk v _ G' H' As1 _ st (c2.lentM q3 ha1 s3 hE) (pl.step st) ((rv.lent c2 ha1).back (s1.trans s2)) hP
  · exact w1.elim
end DL
namespace SH
open PySem PySem.Spec PyProof.Rows L2 DL
theorem put_newK {es : List (Key × R)} {q : Key} {r : R} (h : ∀ e ∈ es, e.1 ≠ q) : putM es q r = es ++ [(q, r)] := by
  unfold putM
  rw [if_neg]
  rw [List.any_eq_true]
  rintro ⟨e, he, z⟩
  exact h e he (of_decide_eq_true z)
theorem merge_nodup : ∀ (ps es : List (Key × R)), ((es ++ ps).map (·.1)).Nodup → mergeM es ps = es ++ ps
  | [], es, _ => by rw [List.append_nil]; rfl
  | p :: ps, es, nd => by
    have e1 : putM es p.1 p.2 = es ++ [p] := put_newK fun e he q => by
      rw [List.map_append, List.nodup_append] at nd
      exact nd.2.2 e.1 (List.mem_map.mpr ⟨e, he, rfl⟩) p.1 (by simp) q
    show mergeM (putM es p.1 p.2) ps = _
    rw [e1, merge_nodup ps (es ++ [p]) (by rw [List.append_assoc]; exact nd), List.append_assoc]
    rfl
theorem look_at : ∀ {es : List (Key × R)} {i : Nat} {q : Key} {r : R}, (es.map (·.1)).Nodup → es[i]? = some (q, r) → lookM es q = some r
  | [], i, q, r, _, h => by simp at h
  | e :: es, 0, q, r, nd, h => by
    have h : e = (q, r) := by simpa using h
    subst h
    unfold lookM
    rw [List.find?_cons]
    simp
  | e :: es, i + 1, q, r, nd, h => by
    have h : es[i]? = some (q, r) := by simpa using h
    rw [List.map_cons, List.nodup_cons] at nd
    have ne : e.1 ≠ q := fun he => nd.1 (by rw [he]; exact List.mem_map.mpr ⟨(q, r), List.mem_of_getElem? h, rfl⟩)
    have ih := look_at nd.2 h
    unfold lookM at ih ⊢
    rw [List.find?_cons, decide_eq_false ne]
    exact ih
theorem put_keys {es : List (Key × R)} {q : Key} {r : R} (h : q ∈ es.map (·.1)) : (putM es q r).map (·.1) = es.map (·.1) := by
  unfold putM
  rw [if_pos (by
    obtain ⟨e, he, rfl⟩ := List.mem_map.mp h
    exact List.any_eq_true.mpr ⟨e, he, decide_eq_true rfl⟩), List.map_map]
  refine List.map_congr_left fun e he => ?_
  show (if e.1 = q then (e.1, r) else e).1 = e.1
  split <;> rfl
structure Lv (κ : Kap) (d : Nat) (es : List (Key × R)) (ns : List Str) (W : Wish) (bs : List PyData) : Prop where
  h0 : κ[(0 : Nat)]? = some (.l bs)
  hd : κ[d]? = some (.m es)
  d0 : d ≠ 0
  ek : es.map (·.1) = ns.map Sum.inr
  get : ∀ z ∈ ns, ∃ j, lookM es (.inr z) = some (.c j) ∧ j ≠ 0 ∧ j ≠ d ∧ κ[j]? = some (.l ((W z).map strsD))
  inj : ∀ z ∈ ns, ∀ y ∈ ns, ∀ j, lookM es (.inr z) = some (.c j) → lookM es (.inr y) = some (.c j) → z = y
section
variable {κ : Kap} {d : Nat} {es : List (Key × R)} {ns : List Str} {W : Wish} {bs : List PyData} {z : Str}
theorem Lv.box (h : Lv κ d es ns W bs) (bs' : List PyData) : Lv (κ.set 0 (.l bs')) d es ns W bs' where
  h0 := set0 h.h0
  hd := setj h.d0 h.hd
  d0 := h.d0
  ek := h.ek
  get z hz := by
    obtain ⟨j, h1, h2, h3, h4⟩ := h.get z hz
    exact ⟨j, h1, h2, h3, setj h2 h4⟩
  inj := h.inj
theorem setW_same {l : List (List Str)} : setW W z l z = l := by
  unfold setW
  rw [if_pos rfl]
theorem setW_ne {l : List (List Str)} {y : Str} (h : y ≠ z) : setW W z l y = W y := by
  unfold setW
  rw [if_neg h]
theorem Lv.setl (h : Lv κ d es ns W bs) {j : Nat} {l : List (List Str)} (hz : z ∈ ns) (hj : lookM es (.inr z) = some (.c j)) : Lv (κ.set j (.l (l.map strsD))) d es ns (setW W z l) bs := by
  obtain ⟨j1, q1, q2, q3, q4⟩ := h.get z hz
  have e : j1 = j := by
    rw [hj] at q1
    injection q1 with q1
    injection q1 with q1
    exact q1.symm
  subst e
  refine ⟨by rw [List.getElem?_set_ne q2]; exact h.h0, by rw [List.getElem?_set_ne q3]; exact h.hd, h.d0, h.ek, fun y hy => ?_, h.inj⟩
  by_cases c : y = z
  · subst c
    refine ⟨j1, q1, q2, q3, ?_⟩
    rw [setW_same, List.getElem?_set_self (List.getElem?_eq_some_iff.mp q4).1]
  · obtain ⟨j2, p1, p2, p3, p4⟩ := h.get y hy
    refine ⟨j2, p1, p2, p3, ?_⟩
    have ne : j1 ≠ j2 := fun e => c (by subst e; exact h.inj y hy z hz _ p1 q1)
    rw [setW_ne c, List.getElem?_set_ne ne]
    exact p4
theorem Lv.put (h : Lv κ d es ns W bs) {l : List (List Str)} (hz : z ∈ ns) : Lv ((κ ++ [Cell.l (l.map strsD)]).set d (.m (putM es (.inr z) (.c κ.length)))) d (putM es (.inr z) (.c κ.length)) ns (setW W z l) bs := by
  have hk : (Sum.inr z : Key) ∈ es.map (·.1) := by rw [h.ek]; exact List.mem_map.mpr ⟨z, hz, rfl⟩
  have ld : d < κ.length := (List.getElem?_eq_some_iff.mp h.hd).1
  have l0 : 0 < κ.length := (List.getElem?_eq_some_iff.mp h.h0).1
  have d0 := h.d0
  refine ⟨by rw [List.getElem?_set_ne (by omega), List.getElem?_append_left l0]; exact h.h0, by rw [List.getElem?_set_self (by rw [List.length_append]; omega)], d0, by rw [put_keys hk, h.ek], fun y hy => ?_, fun x hx y hy j e1 e2 => ?_⟩
  · by_cases c : y = z
    · subst c
      refine ⟨κ.length, by rw [look_put, if_pos rfl], by omega, by omega, ?_⟩
      rw [setW_same, List.getElem?_set_ne (by omega), List.getElem?_append_right (Nat.le_refl _), Nat.sub_self]
      rfl
    · obtain ⟨j2, p1, p2, p3, p4⟩ := h.get y hy
      refine ⟨j2, by rw [look_put, if_neg (fun e => c (Sum.inr.inj e))]; exact p1, p2, p3, ?_⟩
      rw [setW_ne c, List.getElem?_set_ne (by omega), List.getElem?_append_left (List.getElem?_eq_some_iff.mp p4).1]
      exact p4
  · have old : ∀ u ∈ ns, lookM es (.inr u) ≠ some (.c κ.length) := fun u hu e => by
      obtain ⟨j2, p1, _, _, p4⟩ := h.get u hu
      rw [e] at p1
      injection p1 with p1
      injection p1 with p1
      have := (List.getElem?_eq_some_iff.mp p4).1
      omega
    rw [look_put] at e1 e2
    by_cases c1 : x = z
    · by_cases c2 : y = z
      · rw [c1, c2]
      · rw [if_pos (by rw [c1])] at e1
        rw [if_neg (fun e => c2 (Sum.inr.inj e))] at e2
        injection e1 with e1
        rw [← e1] at e2
        exact absurd e2 (old y hy)
    · rw [if_neg (fun e => c1 (Sum.inr.inj e))] at e1
      by_cases c2 : y = z
      · rw [if_pos (by rw [c2])] at e2
        injection e2 with e2
        rw [← e2] at e1
        exact absurd e1 (old x hx)
      · rw [if_neg (fun e => c2 (Sum.inr.inj e))] at e2
        exact h.inj x hx y hy j e1 e2
theorem lv_get {ρ : Rho} {P : R → Kap → Prop} {i i2 : Nat} (h : Lv κ d es ns W bs) (h1 : ρ[i]? = some (some (.c d))) (h2 : ρ[i2]? = some (some (.d (.str z)))) (hz : z ∈ ns)
    (k : ∀ j, lookM es (.inr z) = some (.c j) → κ[j]? = some (.l ((W z).map strsD)) → j ≠ 0 → P (.c j) κ) : wGetD (wVar i) (wVar i2) ρ κ P := by
  obtain ⟨j, q1, q2, q3, q4⟩ := h.get z hz
  rw [s_getD2, s_var, h1]
  dsimp only
  rw [s_var, h2]
  dsimp only
  rw [h.hd]
  dsimp only
  show Opt (some (Sum.inr z)) _
  rw [Opt_some, q1, Opt_some]
  exact k j q1 q4 q2
theorem gw_get {ρ : Rho} {i i2 : Nat} (h : Lv κ d es ns W bs) (h1 : ρ[i]? = some (some (.c d))) (h2 : ρ[i2]? = some (some (.d (.str z)))) (hz : z ∈ ns) : Gw (wGetD (wVar i) (wVar i2)) ρ κ (.list ((W z).map strsD)) := fun Q k =>
  lv_get h h1 h2 hz fun j _ q _ => k _ (val_c q)
end
section
variable {ρ : Rho} {κ : Kap} {wa wb : DTE} {l : List (List Str)}
theorem gw_filt {α : Type} {wt : DTT} {f e : α → PyData} {p : α → Bool} {l : List α} {g : DTG} {vs : List Nat} (h : Gw wa ρ κ (.list (l.map f))) (len : l.length ≤ 1000000)
    (step : ∀ x ∈ l, ∀ C : Bool → Rho → Kap → Prop, (∀ ρ1, (p x = true → ∀ D : R → Kap → Prop, D (.d (e x)) κ → wb ρ1 κ D) → C (p x) ρ1 κ) → g (.d (f x)) (wipeR ρ vs) κ fun ρ1 κ1 => wt ρ1 κ1 fun b κ2 => C b ρ1 κ2) : Gv (wLc (wSq wa) g wt wb vs) ρ κ (.list ((l.filter p).map e)) := fun Q k => by
  rw [s_lc, s_sq]
  refine h _ fun r hr => ?_
  rw [hr, Opt_some]
  dsimp only
  refine lc_filter f p e (by exact hr) l [] (by rw [List.length_nil, sizeLine_eq]; omega) step ?_
  rw [List.nil_append]
  exact k _ rfl
theorem gw_map {α : Type} {f e : α → PyData} {l : List α} {g : DTG} {vs : List Nat} (h : Gw wa ρ κ (.list (l.map f))) (len : l.length ≤ 1000000)
    (step : ∀ x ∈ l, ∀ C : R → Kap → Prop, C (.d (e x)) κ → g (.d (f x)) (wipeR ρ vs) κ fun ρ1 κ1 => wb ρ1 κ1 C) : Gv (wLc (wSq wa) g wYes wb vs) ρ κ (.list (l.map e)) := fun Q k => by
  rw [s_lc, s_sq]
  refine h _ fun r hr => ?_
  rw [hr, Opt_some]
  dsimp only
  refine lc_map f e (by exact hr) l [] (by rw [List.length_nil, sizeLine_eq]; omega) step ?_
  rw [List.nil_append]
  exact k _ rfl
/-- some sets by length, then by name -/
abbrev wByLen (wa : DTE) (i j : Nat) : DTE := wLc (wSq (wCB sortC (wCons (wLc (wSq wa) (wName i) wYes (wTup (wCons (wCB lenD (wCons (wVar i) wNil)) (wCons (wVar i) wNil))) [i]) wNil))) (wName j) wYes (wBin ixD (wVar j) (wC (.int 1))) [j]
theorem gv_byLen {i j : Nat} (hi : i < ρ.length) (hj : j < ρ.length) (h : Gw wa ρ κ (.list (l.map strsD))) (ll : l.length ≤ 1000) : Gv (wByLen wa i j) ρ κ (.list ((l.mergeSort leLen).map strsD)) := by
  have g1 : Gv (wLc (wSq wa) (wName i) wYes (wTup (wCons (wCB lenD (wCons (wVar i) wNil)) (wCons (wVar i) wNil))) [i]) ρ κ (.list (l.map keyLen)) := gw_map h (by omega) fun x hx C hC => by
    rw [s_name]
    have v : Gv (wVar i) ((wipeR ρ [i]).set i (some (.d (strsD x)))) κ (strsD x) := gv_var (by rw [List.getElem?_set_self (by rw [wipeR_len]; exact hi)])
    exact gv_tup2 (gv_cb v (lenD_strs x) rfl) v _ fun r hr => by
      cases r with
      | d y => cases hr; exact hC
      | _ => cases hr
  have g2 := gv_cb g1 (sortC_list (keys_ok (sss := l) (by omega))) rfl
  rw [sort_keys] at g2
  refine gw_map (gw_gv g2) (by rw [List.length_mergeSort]; omega) fun x hx C hC => ?_
  rw [s_name]
  have v : Gv (wVar j) ((wipeR ρ [j]).set j (some (.d (keyLen x)))) κ (keyLen x) := gv_var (by rw [List.getElem?_set_self (by rw [wipeR_len]; exact hj)])
  refine gv_atT (i := 1) v gv_c (d := strsD x) rfl _ fun r hr => ?_
  cases r with
  | d y => cases hr; exact hC
  | _ => cases hr
end
end SH
namespace SH
open PySem PySem.Spec PyProof.Rows L2 DL
abbrev nmL (ss : List Str) : PyData := .list (ss.map .str)
/-- a wish on its way: sets of others, none twice, at most so many -/
structure WPre (ns : List Str) (W : Wish) (n : Nat) : Prop where
  sub : ∀ z ∈ ns, ∀ h ∈ W z, h.Sublist ns ∧ z ∉ h ∧ 1 ≤ h.length
  nd : ∀ z ∈ ns, (W z).Nodup
  len : ∀ z ∈ ns, (W z).length ≤ n
abbrev wishH (ns : List Str) (W : Wish) : List (Key × PyData) := ns.map fun z => (Sum.inr z, .list ((W z).map strsD))
def Ph_law_want (bs : List PyData) (rs : List R) (P : List (Key × PyData) → List PyData → Prop) : Prop := ∃ (N : Int) (ns : List Str), Box N bs ∧ N ≤ 2 ^ 36 ∧ rs = [.d (nmL ns)] ∧ Names ns ∧ 2 ≤ ns.length ∧ ns.length ≤ 5 ∧
  ∀ (W : Wish) (bs' : List PyData), WishOk ns W → WishLow ns W → (∀ z ∈ ns, (W z).length ≤ 9) → Box (N + 9000) bs' → P (wishH ns W) bs'
def wq1 : DTS := (wSet false 2 (wCallL Ph_law_family (wCons (wVar 0) (wCons (wVar 1) (wCons (wC (.int 6)) wNil)))))
def wq2 : DTS := (wSet true 3 (wDictLB (wSq (wVar 1)) (wName 5) wYes (wKV (wConsM false (wVar 5) (wConsM true (wCall Ph_law_holds_by (wCons (wVar 2) (wCons (wVar 5) wNil))) wNil))) [5]))
def wq3 : DTS := (wSet false 5 (wCallL Ph_law_pick (wCons (wVar 0) (wCons (wVar 1) wNil))))
def wt4 : DTT := (wAnd (wB (wBin (eqD true) (wGetD (wVar 3) (wVar 5)) (wLst wNil))) (wB (wBin (eqD false) (wCallL Ph_law_take (wCons (wVar 0) (wCons (wC (.int 2)) wNil))) (wC (.int 0)))))
def wq5 : DTS := (wDrop (wPop1 (wGetD (wVar 3) (wVar 5)) (wCallL Ph_law_take (wCons (wVar 0) (wCons (wCB lenD (wCons (wGetD (wVar 3) (wVar 5)) wNil)) wNil)))))
def wq6 : DTS := (wSet false 6 (wCB tupC (wCons (wCallL Ph_law_some (wCons (wVar 0) (wCons (wLc (wSq (wVar 1)) (wName 8) (wB (wBin (eqD true) (wVar 8) (wVar 5))) (wVar 8) [8]) (wCons (wC (.int 1)) wNil)))) wNil)))
def wq7 : DTS := (wSet false 7 (wLc (wSq (wGetD (wVar 3) (wVar 5))) (wName 8) (wAnd (wNot (wTru (wCall Ph_law_inside (wCons (wVar 8) (wCons (wVar 6) wNil))))) (wNot (wTru (wCall Ph_law_inside (wCons (wVar 6) (wCons (wVar 8) wNil)))))) (wVar 8) [8]))
def wq8 : DTS := (wAsgM (wBin addD (wVar 7) (wLst (wCons (wVar 6) wNil))) (wSubDR (wVar 3) (wVar 5)))
def wb_want : DTS := (wSeq wq3
  (wIfS wt4 wq5 (wSeq wq6
  (wSeq wq7
  wq8))))
def wr_want : DTI := (wRng1 (wCons (wBin ixD (wLst (wCons (wC (.int 0)) (wCons (wC (.int 1)) (wCons (wC (.int 1)) (wCons (wC (.int 3)) wNil))))) (wCallL Ph_law_take (wCons (wVar 0) (wCons (wC (.int 4)) wNil)))) wNil))
def wb_tops : DTS := (wAsgM (wCall Ph_law_tops (wCons (wByLen (wGetD (wVar 3) (wVar 5)) 8 9) wNil)) (wSubDR (wVar 3) (wVar 5)))
/-- _law_want -/
def w_law_want : DTS := (wSeq wq1
  (wSeq wq2
  (wSeq (wFor wr_want (wName 4) wb_want)
  (wSeq (wFor (wSq (wVar 1)) (wName 5) wb_tops)
  (wRet (wVar 3))))))
abbrev rhoQ (ns : List Str) (fam : List (List Str)) (d : Nat) (p4 p5 p6 p7 p8 p9 : Option R) : Rho := [some (.c 0), some (.d (nmL ns)), some (.d (.list (fam.map strsD))), some (.c d), p4, p5, p6, p7, p8, p9]
section
variable {ns : List Str} {fam : List (List Str)} {W : Wish} {E : DEnds} {bs : List PyData} {κ : Kap} {N : Int} {d : Nat} {es : List (Key × R)} {p4 p5 p6 p7 p8 p9 : Option R} {z : Str}
theorem set_small (hn : Names ns) {l : List (List Str)} (n5 : ns.length ≤ 5) (h : ∀ s ∈ l, s.Sublist ns) : Small l := fun s hs => by
  have q := h s hs
  have := q.length_le
  exact ⟨fun y hy => hn.1 y (q.subset hy), by omega⟩
theorem sub_inc (hn : Names ns) {s : List Str} (h : s.Sublist ns) : Inc s := hn.2.sublist h
abbrev W0F (fam : List (List Str)) : Wish := fun z => leastOnes (bareZ fam z)
theorem bare_sub (hn : Names ns) (hf : fam.Sublist (setsF ns 2)) {s : List Str} (hs : s ∈ bareZ fam z) : s.Sublist ns ∧ z ∉ s ∧ 1 ≤ s.length := by
  obtain ⟨S, h1, rfl⟩ := List.mem_map.mp hs
  obtain ⟨h2, h3⟩ := List.mem_filter.mp h1
  have h3 : z ∈ S := of_decide_eq_true h3
  obtain ⟨q1, q2⟩ := sets_mem.mp (hf.subset h2)
  refine ⟨(rest_sub _ _).trans q1, fun hm => (rest_mem.mp hm).2 rfl, ?_⟩
  cases S with
  | nil => cases h3
  | cons a S =>
    cases S with
    | nil => simp at q2
    | cons b S =>
      have ne : a ≠ b := fun e => by
        have i := sub_inc hn q1
        have := (List.pairwise_cons.mp i).1 b (by simp)
        rw [e] at this
        exact List.lt_irrefl _ this
      have : ∃ y, y ∈ restF (a :: b :: S) z := by
        by_cases c : a = z
        · exact ⟨b, rest_mem.mpr ⟨by simp, fun e => ne (by rw [c, e])⟩⟩
        · exact ⟨a, rest_mem.mpr ⟨by simp, c⟩⟩
      obtain ⟨y, hy⟩ := this
      exact List.length_pos_of_mem hy
theorem pre0 (hn : Names ns) (hf : fam.Sublist (setsF ns 2)) (l6 : fam.length ≤ 6) : WPre ns (W0F fam) 6 := by
  have hi : ∀ z, ∀ s ∈ bareZ fam z, Inc s := fun z s hs => sub_inc hn (bare_sub hn hf hs).1
  refine ⟨fun z _ h hh => bare_sub hn hf ((ones_mem (hi z)).mp hh).1, fun z _ => (ones_ok (hi z)).2, fun z _ => ?_⟩
  have h1 := ones_len (bareZ fam z)
  have h2 : (bareZ fam z).length ≤ fam.length := by
    unfold bareZ
    rw [List.length_map]
    exact List.length_filter_le _ _
  show (leastOnes (bareZ fam z)).length ≤ 6
  omega
structure Le (κ : Kap) (es : List (Key × R)) (done : List Str) (W : Wish) (bs : List PyData) : Prop where
  h0 : κ[(0 : Nat)]? = some (.l bs)
  kl : κ.length = done.length + 1
  ek : es.map (·.1) = done.map Sum.inr
  get : ∀ (i : Nat) (z : Str), done[i]? = some z → es[i]? = some (Sum.inr z, R.c (i + 1)) ∧ κ[i + 1]? = some (.l ((W z).map strsD))
theorem Le.snoc {done : List Str} (h : Le κ es done W bs) (z : Str) : Le (κ ++ [.l ((W z).map strsD)]) (es ++ [(Sum.inr z, R.c κ.length)]) (done ++ [z]) W bs := by
  have el : es.length = done.length := by
    have := congrArg List.length h.ek
    rw [List.length_map, List.length_map] at this
    exact this
  have kl := h.kl
  refine ⟨by rw [List.getElem?_append_left (by omega)]; exact h.h0, by rw [List.length_append, List.length_append, kl]; rfl, by rw [List.map_append, List.map_append, h.ek]; rfl, fun i y hi => ?_⟩
  by_cases c : i < done.length
  · rw [List.getElem?_append_left c] at hi
    obtain ⟨h1, h2⟩ := h.get i y hi
    exact ⟨by rw [List.getElem?_append_left (by omega)]; exact h1, by rw [List.getElem?_append_left (by omega)]; exact h2⟩
  · have e : i = done.length := by
      have := (List.getElem?_eq_some_iff.mp hi).1
      rw [List.length_append, List.length_singleton] at this
      omega
    subst e
    rw [List.getElem?_append_right (Nat.le_refl _), Nat.sub_self] at hi
    cases hi
    refine ⟨?_, ?_⟩
    · rw [List.getElem?_append_right (by omega), el, Nat.sub_self, kl]
      rfl
    · rw [List.getElem?_append_right (by omega), kl, Nat.sub_self]
      rfl
theorem Le.lv (h : Le κ es ns W bs) (nd : ns.Nodup) : Lv (κ ++ [.m (mergeM [] es)]) κ.length (mergeM [] es) ns W bs := by
  have nk : (es.map (·.1)).Nodup := by
    rw [h.ek]
    exact nd.map Sum.inr fun a b h e => h (Sum.inr.inj e)
  have em : mergeM [] es = es := merge_nodup es [] (by rw [List.nil_append]; exact nk)
  have kl := h.kl
  rw [em]
  refine ⟨by rw [List.getElem?_append_left (by omega)]; exact h.h0, by rw [List.getElem?_append_right (Nat.le_refl _), Nat.sub_self]; rfl, by omega, h.ek, fun z hz => ?_, fun x hx y hy j e1 e2 => ?_⟩
  · obtain ⟨i, hi⟩ := List.getElem?_of_mem hz
    obtain ⟨h1, h2⟩ := h.get i z hi
    have := (List.getElem?_eq_some_iff.mp h2).1
    exact ⟨i + 1, look_at nk h1, by omega, by omega, by rw [List.getElem?_append_left this]; exact h2⟩
  · obtain ⟨i, hi⟩ := List.getElem?_of_mem hx
    obtain ⟨k, hk⟩ := List.getElem?_of_mem hy
    have q1 := look_at nk (h.get i x hi).1
    have q2 := look_at nk (h.get k y hk).1
    rw [e1] at q1
    rw [e2] at q2
    injection q1 with q1
    injection q1 with q1
    injection q2 with q2
    injection q2 with q2
    have : i = k := by omega
    subst this
    rw [hi] at hk
    exact Option.some.inj hk
abbrev rhoPw (ns : List Str) (fam : List (List Str)) (p3 p4 p5 p6 p7 p8 p9 : Option R) : Rho := [some (.c 0), some (.d (nmL ns)), some (.d (.list (fam.map strsD))), p3, p4, p5, p6, p7, p8, p9]
theorem dict_loop {ok : Kap → Prop} {P : List (Key × R) → Kap → Prop} {p3 : Option R} (hok : ∀ κ, ok κ) (hn : Names ns) (n5 : ns.length ≤ 5) (hf : fam.Sublist (setsF ns 2)) (l6 : fam.length ≤ 6) : ∀ (todo done : List Str) (κ : Kap) (es : List (Key × R)), done ++ todo = ns → Le κ es done (W0F fam) bs →
    (∀ κ' es', Le κ' es' ns (W0F fam) bs → P es' κ') →
    lcK ok (wName 5) wYes (wKV (wConsM false (wVar 5) (wConsM true (wCall Ph_law_holds_by (wCons (wVar 2) (wCons (wVar 5) wNil))) wNil))) (rhoPw ns fam p3 p4 none p6 p7 p8 p9) P (todo.map .str) es κ
  | [], done, κ, es, e, h, k => by
    rw [List.append_nil] at e
    subst e
    rw [List.map_nil, lcK_nil]
    exact k κ es h
  | z :: todo, done, κ, es, e, h, k => by
    have hz : z ∈ ns := by rw [← e]; simp
    have dl : done.length ≤ 5 := by
      have := congrArg List.length e
      rw [List.length_append] at this
      omega
    have el : es.length = done.length := by
      have := congrArg List.length h.ek
      rw [List.length_map, List.length_map] at this
      exact this
    have fs : Small fam := set_small hn n5 fun s hs => (sets_mem.mp (hf.subset hs)).1
    rw [List.map_cons, lcK_cons, s_name, s_yes, if_pos rfl, s_KV, s_consM, s_var]
    simp only [List.set_cons_succ, List.set_cons_zero, List.getElem?_cons_succ, List.getElem?_cons_zero]
    rw [sto_f, s_consM]
    dsimp only
    refine gf_call2 (x := .list (fam.map strsD)) (y := .str z) (gv_var (i := 2) rfl) (gv_var (i := 5) rfl) ⟨fam, z, rfl, fs, by omega, hf.nodup (sets_nodup hn.2 2), fun s hs => sub_inc hn (sets_mem.mp (hf.subset hs)).1, hn.1 z hz, ?_⟩
    dsimp only
    rw [sto_t, s_nil]
    dsimp only
    show Opt (some (Sum.inr z)) _
    rw [Opt_some]
    refine ⟨by rw [sizeLine_eq]; omega, hok _, ?_⟩
    exact dict_loop hok hn n5 hf l6 todo (done ++ [z]) _ _ (by rw [List.append_assoc]; exact e) (h.snoc z) k
theorem step2 (hn : Names ns) (n5 : ns.length ≤ 5) (hf : fam.Sublist (setsF ns 2)) (l6 : fam.length ≤ 6) {p3 : Option R} (k : ∀ κ d es, Lv κ d es ns (W0F fam) bs → E.nx (rhoQ ns fam d p4 p5 p6 p7 p8 p9) κ) :
    wq2 E (rhoPw ns fam p3 p4 p5 p6 p7 p8 p9) [.l bs] := by
  unfold wq2
  rw [s_set, s_dictLB, s_sq, s_var]
  simp only [List.getElem?_cons_succ, List.getElem?_cons_zero]
  rw [st_d, val_d, Opt_some]
  dsimp only
  refine dict_loop (fun κ => val_d ..) hn n5 hf l6 ns [] [.l bs] [] rfl ⟨rfl, rfl, rfl, fun i y hi => by simp at hi⟩ fun κ' es' h => ?_
  rw [sto_c]
  exact k _ _ _ (h.lv (pw_nodup hn.2))
end
end SH
namespace SH
open PySem PySem.Spec PyProof.Rows L2 DL
section
variable {ns : List Str} {fam : List (List Str)} {W : Wish} {E : DEnds} {bs : List PyData} {κ : Kap} {N : Int} {n d : Nat} {es : List (Key × R)} {p4 p5 p6 p7 p8 p9 : Option R} {z : Str}
theorem WPre.mono (w : WPre ns W n) {m : Nat} (h : n ≤ m) : WPre ns W m := ⟨w.sub, w.nd, fun z hz => Nat.le_trans (w.len z hz) h⟩
theorem WPre.set (w : WPre ns W n) {l : List (List Str)} {m : Nat} (h1 : ∀ h ∈ l, h.Sublist ns ∧ z ∉ h ∧ 1 ≤ h.length) (h2 : l.Nodup) (h3 : l.length ≤ m) (h4 : n ≤ m) : WPre ns (setW W z l) m := by
  refine ⟨fun y hy h hh => ?_, fun y hy => ?_, fun y hy => ?_⟩
  · by_cases c : y = z
    · subst c
      rw [setW_same] at hh
      exact h1 h hh
    · rw [setW_ne c] at hh
      exact w.sub y hy h hh
  · by_cases c : y = z
    · subst c
      rw [setW_same]
      exact h2
    · rw [setW_ne c]
      exact w.nd y hy
  · by_cases c : y = z
    · subst c
      rw [setW_same]
      exact h3
    · rw [setW_ne c]
      exact Nat.le_trans (w.len y hy) h4
theorem WPre.small (w : WPre ns W n) (hn : Names ns) (n5 : ns.length ≤ 5) (hz : z ∈ ns) : Small (W z) := set_small hn n5 fun s hs => (w.sub z hz s hs).1
theorem es_len (L : Lv κ d es ns W bs) : es.length = ns.length := by
  have := congrArg List.length L.ek
  rw [List.length_map, List.length_map] at this
  exact this
theorem step_pop (w : WPre ns W n) (n9 : n ≤ 9) (hz : z ∈ ns) (L : Lv κ d es ns W bs) (ne : W z ≠ []) (hb : Box N bs) (hN : N < 2 ^ 39)
    (k : ∀ W' bs' κ', WPre ns W' n → Lv κ' d es ns W' bs' → Box (N + 1) bs' → E.nx (rhoQ ns fam d p4 (some (.d (.str z))) p6 p7 p8 p9) κ') :
    wq5 E (rhoQ ns fam d p4 (some (.d (.str z))) p6 p7 p8 p9) κ := by
  have wl := w.len z hz
  unfold wq5
  rw [s_drop, s_pop1]
  refine lv_get L rfl rfl hz fun j hj hk j0 => ?_
  dsimp only
  refine ⟨⟨_, hk⟩, ?_⟩
  have gl : Gv (wCB lenD (wCons (wGetD (wVar 3) (wVar 5)) wNil)) (rhoQ ns fam d p4 (some (.d (.str z))) p6 p7 p8 p9) κ (.int ((W z).length : Int)) := by
    have := gw_cb (gw_get (i := 3) (i2 := 5) L rfl rfl hz : Gw _ (rhoQ ns fam d p4 (some (.d (.str z))) p6 p7 p8 p9) _ _) (lenD_list _) rfl
    rw [List.length_map] at this
    exact this
  have lp : 0 < (W z).length := List.length_pos_iff.mpr ne
  refine box_take rfl L.h0 hb (by omega) gl (by omega) (by omega) fun i bs' i0 i1 hb' => ?_
  obtain ⟨i, rfl⟩ := Int.eq_ofNat_of_zero_le i0
  rw [setj j0 hk]
  dsimp only
  rw [Int.toNat_natCast]
  refine ⟨by omega, by omega, ?_⟩
  have hi : i < ((W z).map strsD).length := by rw [List.length_map]; omega
  rw [List.getElem?_eq_getElem hi, Opt_some, erase_map]
  have sl : ((W z).eraseIdx i).Sublist (W z) := List.eraseIdx_sublist ..
  exact k _ bs' _ (w.set (fun h hh => w.sub z hz h (sl.subset hh)) ((w.nd z hz).sublist sl) (Nat.le_trans sl.length_le wl) (Nat.le_refl _)) ((L.box bs').setl hz hj) hb'
abbrev othersL (ns : List Str) (z : Str) : List Str := ns.filter fun y => !decide (y = z)
theorem step_6 (hn : Names ns) (n2 : 2 ≤ ns.length) (n5 : ns.length ≤ 5) (hz : z ∈ ns) (h0 : κ[(0 : Nat)]? = some (.l bs)) (hb : Box N bs) (hN : N ≤ 2 ^ 38)
    (k : ∀ (s : List Str) bs', s.Sublist ns → z ∉ s → 1 ≤ s.length → Box (N + 1001) bs' → E.nx (rhoQ ns fam d p4 (some (.d (.str z))) (some (.d (strsD s))) p7 p8 p9) (κ.set 0 (.l bs'))) :
    wq6 E (rhoQ ns fam d p4 (some (.d (.str z))) p6 p7 p8 p9) κ := by
  have hnz : Names (othersL ns z) := ⟨fun y hy => hn.1 y (List.mem_filter.mp hy).1, hn.2.sublist List.filter_sublist⟩
  have lz : (othersL ns z).length ≤ ns.length := List.length_filter_le _ _
  have l1 : 1 ≤ (othersL ns z).length := by
    have nd := pw_nodup hn.2
    match ns, n2, nd with
    | a :: b :: r, _, nd =>
      have ne : a ≠ b := by
        rw [List.nodup_cons] at nd
        exact fun e => nd.1 (by rw [e]; simp)
      by_cases c : a = z
      · have : b ∈ othersL (a :: b :: r) z := List.mem_filter.mpr ⟨by simp, by simp [← c, Ne.symm ne]⟩
        exact List.length_pos_of_mem this
      · have : a ∈ othersL (a :: b :: r) z := List.mem_filter.mpr ⟨by simp, by simp [c]⟩
        exact List.length_pos_of_mem this
  have go : Gv (wLc (wSq (wVar 1)) (wName 8) (wB (wBin (eqD true) (wVar 8) (wVar 5))) (wVar 8) [8]) (rhoQ ns fam d p4 (some (.d (.str z))) p6 p7 p8 p9) κ (nmL (othersL ns z)) := by
    refine gv_filt (f := PyData.str) (e := PyData.str) (p := fun y => !decide (y = z)) (gv_var (i := 1) rfl) (by omega) fun y hy C hC => ?_
    have hC := hC (rhoQ ns fam d p4 (some (.d (.str z))) p6 p7 (some (.d (.str y))) p9) fun _ D hD => by
      rw [s_var]
      exact hD
    rw [s_name]
    exact tv_B (gv_bin (gv_var (i := 8) rfl) (gv_var (i := 5) rfl) (eqD_ss true y z) rfl) _ hC
  unfold wq6
  rw [s_set, s_cb, s_cons]
  refine box_call (ys := [nmL (othersL ns z), .int 1]) rfl h0 (gc_cons go (gc_cons gv_c gc_nil)) ⟨N, othersL ns z, 1, hb, by omega, rfl, l1, by omega, hnz, fun ms bs' hm m1 m2 m3 hb' => ?_⟩
  dsimp only
  rw [s_nil]
  show Opt (some [PyData.list (ms.map .str)]) _
  rw [Opt_some, tupC_list, Opt_some]
  have sub : ms.Sublist ns := names_sub hm.2 hn.2 fun y hy => (List.mem_filter.mp (m3 y hy)).1
  exact k ms bs' sub (fun hh => by
    have := (List.mem_filter.mp (m3 z hh)).2
    simp at this) m1 hb'
abbrev apartL (W : Wish) (z : Str) (s : List Str) : List (List Str) := (W z).filter fun t => !withinF t s && !withinF s t
theorem step_7 {s : List Str} (hn : Names ns) (n5 : ns.length ≤ 5) (w : WPre ns W n) (n9 : n ≤ 9) (hz : z ∈ ns) (hs : s.Sublist ns) (L : Lv κ d es ns W bs)
    (k : E.nx (rhoQ ns fam d p4 (some (.d (.str z))) (some (.d (strsD s))) (some (.d (.list ((apartL W z s).map strsD)))) p8 p9) κ) :
    wq7 E (rhoQ ns fam d p4 (some (.d (.str z))) (some (.d (strsD s))) p7 p8 p9) κ := by
  have wl := w.len z hz
  have sl := hs.length_le
  have sn : ∀ y ∈ s, IsName y := fun y hy => hn.1 y (hs.subset hy)
  unfold wq7
  refine set_gv (gw_filt (f := strsD) (e := strsD) (p := fun t => !withinF t s && !withinF s t) (gw_get L rfl rfl hz) (by omega) fun t ht C hC => ?_) k
  have tsub := (w.sub z hz t ht).1
  have tl := tsub.length_le
  have tn : ∀ y ∈ t, IsName y := fun y hy => hn.1 y (tsub.subset hy)
  have hC := hC (rhoQ ns fam d p4 (some (.d (.str z))) (some (.d (strsD s))) p7 (some (.d (strsD t))) p9) fun _ D hD => by
    rw [s_var]
    exact hD
  have g1 : Gv (wCall Ph_law_inside (wCons (wVar 8) (wCons (wVar 6) wNil))) (rhoQ ns fam d p4 (some (.d (.str z))) (some (.d (strsD s))) p7 (some (.d (strsD t))) p9) κ (.bool (withinF t s)) := gv_call2 (gv_var (i := 8) rfl) (gv_var (i := 6) rfl) fun P kk => ⟨t, s, _, _, ⟨.inr rfl, tn⟩, ⟨.inr rfl, sn⟩, rfl, by omega, kk _ rfl⟩
  have g2 : Gv (wCall Ph_law_inside (wCons (wVar 6) (wCons (wVar 8) wNil))) (rhoQ ns fam d p4 (some (.d (.str z))) (some (.d (strsD s))) p7 (some (.d (strsD t))) p9) κ (.bool (withinF s t)) := gv_call2 (gv_var (i := 6) rfl) (gv_var (i := 8) rfl) fun P kk => ⟨s, t, _, _, ⟨.inr rfl, sn⟩, ⟨.inr rfl, tn⟩, rfl, by omega, kk _ rfl⟩
  rw [s_name, s_and]
  refine tv_not (tv_tru g1) _ ?_
  cases c : withinF t s with
  | true =>
    rw [c] at hC
    exact hC
  | false =>
    rw [c] at hC
    rw [if_pos (show (!false) = true from rfl)]
    refine tv_not (tv_tru g2) _ ?_
    exact hC
theorem within_self (s : List Str) : withinF s s = true := by
  unfold withinF
  rw [List.all_eq_true]
  intro y hy
  exact decide_eq_true hy
theorem step_8 {s : List Str} (hn : Names ns) (n5 : ns.length ≤ 5) (w : WPre ns W n) (n9 : n ≤ 8) (hz : z ∈ ns) (hs : s.Sublist ns) (nz : z ∉ s) (s1 : 1 ≤ s.length) (L : Lv κ d es ns W bs)
    (k : ∀ W' κ' es', WPre ns W' (n + 1) → Lv κ' d es' ns W' bs → E.nx (rhoQ ns fam d p4 (some (.d (.str z))) (some (.d (strsD s))) (some (.d (.list ((apartL W z s).map strsD)))) p8 p9) κ') :
    wq8 E (rhoQ ns fam d p4 (some (.d (.str z))) (some (.d (strsD s))) (some (.d (.list ((apartL W z s).map strsD)))) p8 p9) κ := by
  have wl := w.len z hz
  have fl : (apartL W z s).length ≤ (W z).length := List.length_filter_le _ _
  have ea : addD (.list ((apartL W z s).map strsD)) (.list [strsD s]) = some (.n ((apartL W z s ++ [s]).map strsD)) := by
    rw [List.map_append]
    exact addD_list (by rw [sizeLine_eq, List.length_map, List.length_singleton]; omega)
  unfold wq8
  rw [s_asgM]
  refine gf_bin (x := .list ((apartL W z s).map strsD)) (y := .list [strsD s]) (gw_gv (gv_var (i := 7) rfl)) (gw_gv (gv_lst1 (gv_var (i := 6) rfl))) ea ?_
  rw [sto_t, s_subDR, s_var]
  simp only [List.getElem?_cons_succ, List.getElem?_cons_zero]
  rw [s_var]
  simp only [List.getElem?_cons_succ, List.getElem?_cons_zero]
  rw [List.getElem?_append_left (List.getElem?_eq_some_iff.mp L.hd).1, L.hd]
  dsimp only
  show Opt (some (Sum.inr z)) _
  rw [Opt_some, es_len L, sizeLine_eq]
  refine ⟨by omega, ?_⟩
  refine k _ _ _ (w.set (fun h hh => ?_) ?_ ?_ (Nat.le_succ _)) (L.put hz)
  · rcases List.mem_append.mp hh with q | q
    · exact w.sub z hz h (List.mem_filter.mp q).1
    · rw [List.mem_singleton] at q
      subst q
      exact ⟨hs, nz, s1⟩
  · rw [List.nodup_append]
    refine ⟨(w.nd z hz).filter _, by simp, fun a ha b hb e => ?_⟩
    rw [List.mem_singleton] at hb
    subst hb
    subst e
    have := (List.mem_filter.mp ha).2
    rw [within_self] at this
    cases this
  · rw [List.length_append, List.length_singleton]
    omega
theorem turn (hn : Names ns) (n2 : 2 ≤ ns.length) (n5 : ns.length ≤ 5) (w : WPre ns W n) (n9 : n ≤ 8) (L : Lv κ d es ns W bs) (hb : Box N bs) (hN : N ≤ 2 ^ 37)
    (k : ∀ W' bs' κ' es' p5 p6 p7, WPre ns W' (n + 1) → Lv κ' d es' ns W' bs' → Box (N + 1100) bs' → E.nx (rhoQ ns fam d p4 p5 p6 p7 p8 p9) κ') :
    wb_want E (rhoQ ns fam d p4 p5 p6 p7 p8 p9) κ := by
  unfold wb_want
  rw [s_seq]
  unfold wq3
  rw [s_set]
  refine box_call (ys := [nmL ns]) rfl L.h0 (gc_cons (gv_var (i := 1) rfl) gc_nil) ⟨N, ns.map .str, hb, by omega, rfl, by rw [List.length_map]; omega, by rw [List.length_map]; omega, fun x bs1 hx hb1 => ?_⟩
  obtain ⟨z, hz, rfl⟩ := List.mem_map.mp hx
  have L1 := L.box bs1
  generalize κ.set 0 (.l bs1) = κ1 at L1 ⊢
  show wIfS wt4 wq5 _ _ (rhoQ ns fam d p4 (some (.d (.str z))) p6 p7 p8 p9) κ1
  have elseT : ∀ (bs2 : List PyData) (κ2 : Kap), Lv κ2 d es ns W bs2 → Box (N + 2) bs2 → (wSeq wq6 (wSeq wq7 wq8)) E (rhoQ ns fam d p4 (some (.d (.str z))) p6 p7 p8 p9) κ2 := fun bs2 κ2 L2 hb2 => by
    rw [s_seq]
    refine step_6 hn n2 n5 hz L2.h0 hb2 (by omega) fun s bs3 s1 s2 s3 hb3 => ?_
    dsimp only
    rw [s_seq]
    refine step_7 hn n5 w (by omega) hz s1 (L2.box bs3) ?_
    dsimp only
    refine step_8 hn n5 w n9 hz s1 s2 s3 (L2.box bs3) fun W' κ' es' w' L' => ?_
    exact k W' bs3 κ' es' _ _ _ w' L' (hb3.mono (by omega))
  have sm := w.small hn n5 hz
  have wl := w.len z hz
  have e := eqD_sets_nil true sm (show _ ≤ 1000000 by omega)
  rw [s_if]
  unfold wt4
  rw [s_and]
  refine tv_B (gw_bin (gw_get L1 rfl rfl hz) (gw_gv gv_lst0) e rfl) _ ?_
  by_cases c : W z = []
  · rw [decide_eq_true c]
    exact elseT bs1 κ1 L1 (hb1.mono (by omega))
  · rw [decide_eq_false c]
    rw [if_pos (show (if true = true then !false else false) = true from rfl), s_B, s_bin]
    refine box_take rfl L1.h0 hb1 (by omega) gv_c (by decide) (by decide) fun m bs2 m0 m1 hb2 => ?_
    rw [s_c, st_d, val_d, Opt_some, st_d, val_d, Opt_some, eqD_intn, Opt_some]
    show (if (decide (m = 0)) = true then _ else _)
    by_cases cm : m = 0
    · rw [decide_eq_true cm, if_pos rfl]
      refine step_pop w (by omega) hz (L1.box bs2) c hb2 (by omega) fun W' bs' κ' w' L' hb' => ?_
      exact k W' bs' κ' es _ _ _ (w'.mono (by omega)) L' (hb'.mono (by omega))
    · rw [decide_eq_false cm, if_neg (by decide)]
      exact elseT bs2 _ (L1.box bs2) (hb2.mono (by omega))
theorem turns {ok : Kap → Prop} (hok : ∀ κ, ok κ) (hn : Names ns) (n2 : 2 ≤ ns.length) (n5 : ns.length ≤ 5) : ∀ (xs : List PyData) (W : Wish) (n : Nat) (bs : List PyData) (κ : Kap) (es : List (Key × R)) (N : Int) (p4 p5 p6 p7 : Option R), n + xs.length ≤ 9 → WPre ns W n → Lv κ d es ns W bs → Box N bs → N + 1100 * (xs.length : Int) ≤ 2 ^ 37 →
    (∀ W' bs' κ' es' p4 p5 p6 p7, WPre ns W' 9 → Lv κ' d es' ns W' bs' → Box (N + 1100 * (xs.length : Int)) bs' → E.nx (rhoQ ns fam d p4 p5 p6 p7 p8 p9) κ') →
    forL ok (wName 4) wb_want E xs (rhoQ ns fam d p4 p5 p6 p7 p8 p9) κ
  | [], W, n, bs, κ, es, N, p4, p5, p6, p7, hl, w, L, hb, hN, k => by
    rw [forL_nil]
    exact k W bs κ es _ _ _ _ (w.mono (by omega)) L (by simpa using hb)
  | x :: xs, W, n, bs, κ, es, N, p4, p5, p6, p7, hl, w, L, hb, hN, k => by
    simp only [List.length_cons] at hl hN k
    rw [forL_cons, s_name]
    simp only [List.set_cons_succ, List.set_cons_zero]
    refine turn hn n2 n5 w (by omega) L hb (by omega) fun W' bs' κ' es' p5 p6 p7 w' L' hb' => ⟨hok _, ?_⟩
    exact turns hok hn n2 n5 xs W' (n + 1) bs' κ' es' (N + 1100) _ _ _ _ (by omega) w' L' hb' (by omega) fun W2 bs2 κ2 es2 p4 p5 p6 p7 w2 L2 hb2 => k W2 bs2 κ2 es2 p4 p5 p6 p7 w2 L2 (hb2.mono (by omega))
structure WTop (ns : List Str) (W : Wish) (done : List Str) : Prop where
  low : ∀ z ∈ done, (W z).Pairwise (fun a b => leLen a b = true) ∧ ∀ s ∈ W z, ∀ t ∈ W z, withinF t s = true → t = s
theorem tops {ok : Kap → Prop} (hok : ∀ κ, ok κ) (hn : Names ns) (n5 : ns.length ≤ 5) : ∀ (todo done : List Str) (W : Wish) (κ : Kap) (es : List (Key × R)) (p5 : Option R), done ++ todo = ns → WPre ns W 9 → WTop ns W done → Lv κ d es ns W bs →
    (∀ W' κ' es' p5, WPre ns W' 9 → WTop ns W' ns → Lv κ' d es' ns W' bs → E.nx (rhoQ ns fam d p4 p5 p6 p7 p8 p9) κ') →
    forL ok (wName 5) wb_tops E (todo.map .str) (rhoQ ns fam d p4 p5 p6 p7 p8 p9) κ
  | [], done, W, κ, es, p5, e, w, T, L, k => by
    rw [List.append_nil] at e
    subst e
    rw [List.map_nil, forL_nil]
    exact k W κ es p5 w T L
  | z :: todo, done, W, κ, es, p5, e, w, T, L, k => by
    have hz : z ∈ ns := by rw [← e]; simp
    have wl := w.len z hz
    have hi : ∀ s ∈ W z, Inc s := fun s hs => sub_inc hn (w.sub z hz s hs).1
    have p := List.mergeSort_perm (W z) leLen
    rw [List.map_cons, forL_cons, s_name]
    simp only [List.set_cons_succ, List.set_cons_zero]
    unfold wb_tops
    rw [s_asgM]
    refine gf_call1 (x := .list (((W z).mergeSort leLen).map strsD)) (gv_byLen (show 8 < 10 by decide) (show 9 < 10 by decide) (gw_get L rfl rfl hz) (by omega)) ⟨(W z).mergeSort leLen, rfl, fun s hs => w.small hn n5 hz s (p.mem_iff.mp hs), by rw [List.length_mergeSort]; omega, ?_⟩
    dsimp only
    rw [tops_ones hi (w.nd z hz), sto_t, s_subDR, s_var]
    simp only [List.getElem?_cons_succ, List.getElem?_cons_zero]
    rw [s_var]
    simp only [List.getElem?_cons_succ, List.getElem?_cons_zero]
    rw [List.getElem?_append_left (List.getElem?_eq_some_iff.mp L.hd).1, L.hd]
    dsimp only
    show Opt (some (Sum.inr z)) _
    rw [Opt_some, es_len L, sizeLine_eq]
    refine ⟨by omega, hok _, ?_⟩
    have ol := ones_len (W z)
    have om : ∀ s, s ∈ leastOnes (W z) ↔ s ∈ W z ∧ ∀ t ∈ W z, withinF t s = true → t = s := fun s => ones_mem hi
    refine tops hok hn n5 todo (done ++ [z]) (setW W z (leastOnes (W z))) _ _ _ (by rw [List.append_assoc]; exact e) (w.set (fun h hh => w.sub z hz h ((om h).mp hh).1) (ones_ok hi).2 (by omega) (Nat.le_refl _)) ⟨fun y hy => ?_⟩ (L.put hz) k
    by_cases c : y = z
    · subst c
      rw [setW_same]
      exact ⟨(ones_ok hi).1, fun s hs t ht q => ((om s).mp hs).2 t ((om t).mp ht).1 q⟩
    · rw [setW_ne c]
      rcases List.mem_append.mp hy with q | q
      · exact T.low y q
      · rw [List.mem_singleton] at q
        exact absurd q c
def isV (κ : Kap) (j : Nat) (x : PyData) : Prop := (∃ xs, κ[j]? = some (.l xs) ∧ x = .list xs) ∨ κ[j]? = some (.z x)
theorem isV_dat {j : Nat} {x : PyData} (h : isV κ j x) : ∃ κ', dat κ (.c j) = some (x, κ') ∧ (∀ i y, isV κ i y → isV κ' i y) ∧ ∀ i c, i ≠ j → κ[i]? = some c → κ'[i]? = some c := by
  rcases h with ⟨xs, h1, rfl⟩ | h1
  · refine ⟨κ.set j (.z (.list xs)), by unfold dat; simp only [h1], fun i y hy => ?_, fun i c ne hc => by rw [List.getElem?_set_ne (Ne.symm ne)]; exact hc⟩
    by_cases c : i = j
    · subst c
      refine .inr ?_
      rw [List.getElem?_set_self (List.getElem?_eq_some_iff.mp h1).1]
      rcases hy with ⟨ys, q, rfl⟩ | q
      · rw [h1] at q
        cases q
        rfl
      · rw [h1] at q
        cases q
    · rcases hy with ⟨ys, q, rfl⟩ | q
      · exact .inl ⟨ys, by rw [List.getElem?_set_ne (Ne.symm c)]; exact q, rfl⟩
      · exact .inr (by rw [List.getElem?_set_ne (Ne.symm c)]; exact q)
  · exact ⟨κ, by unfold dat; simp only [h1], fun i y hy => hy, fun i c _ hc => hc⟩
theorem hdats_live : ∀ (es : List (Key × R)) (κ : Kap) (f : Key → PyData), (∀ e ∈ es, ∃ j, e.2 = .c j ∧ j ≠ 0 ∧ isV κ j (f e.1)) → κ[(0 : Nat)]? = some (.l bs) → ∃ κ', hdats κ es = some (es.map fun e => (e.1, f e.1), κ') ∧ κ'[(0 : Nat)]? = some (.l bs)
  | [], κ, f, _, h0 => ⟨κ, rfl, h0⟩
  | e :: es, κ, f, h, h0 => by
    obtain ⟨j, ej, j0, hv⟩ := h e (List.mem_cons_self ..)
    obtain ⟨κ1, q1, q2, q3⟩ := isV_dat hv
    obtain ⟨κ2, r1, r2⟩ := hdats_live es κ1 f (fun y hy => by
      obtain ⟨i, ei, i0, hi⟩ := h y (List.mem_cons_of_mem _ hy)
      exact ⟨i, ei, i0, q2 _ _ hi⟩) (q3 0 _ (Ne.symm j0) h0)
    refine ⟨κ2, ?_, r2⟩
    obtain ⟨k, r⟩ := e
    dsimp only at ej
    subst ej
    show (match dat κ (.c j) with
      | some (x, κ1) => match hdats κ1 es with
        | some (xs, κ2) => some ((k, x) :: xs, κ2)
        | none => none
      | none => none) = _
    rw [q1]
    dsimp only
    rw [r1]
    rfl
theorem told (hn : Names ns) (L : Lv κ d es ns W bs) {Pd : List (Key × PyData) → List PyData → Prop} (k : Pd (wishH ns W) bs) : endLN κ (.c d) Pd := by
  have d0 := L.d0
  have nk : (es.map (·.1)).Nodup := by
    rw [L.ek]
    exact (pw_nodup hn.2).map Sum.inr fun a b h e => h (Sum.inr.inj e)
  let f : Key → PyData := fun q => match q with
    | .inr z => .list ((W z).map strsD)
    | .inl _ => .none
  have hf : ∀ e ∈ es, ∃ j, e.2 = .c j ∧ j ≠ 0 ∧ isV κ j (f e.1) := fun e he => by
    have hm : e.1 ∈ ns.map (Sum.inr : Str → Key) := by rw [← L.ek]; exact List.mem_map.mpr ⟨e, he, rfl⟩
    obtain ⟨z, hz, ez⟩ := List.mem_map.mp hm
    obtain ⟨j, q1, q2, q3, q4⟩ := L.get z hz
    obtain ⟨i, hi⟩ := List.getElem?_of_mem he
    have := look_at nk (q := e.1) (r := e.2) hi
    rw [← ez, q1] at this
    refine ⟨j, (Option.some.inj this).symm, q2, .inl ⟨_, q4, ?_⟩⟩
    rw [← ez]
  obtain ⟨κ2, e1, e2⟩ := hdats_live es κ f hf L.h0
  refine endLN_of (by omega) L.hd e1 e2 ?_
  have : (es.map fun e => (e.1, f e.1)) = wishH ns W := by
    have q : (es.map fun e => (e.1, f e.1)) = (es.map (·.1)).map fun q => (q, f q) := by rw [List.map_map]; rfl
    rw [q, L.ek, List.map_map]
    rfl
  rw [this]
  exact k
end
theorem rng_want {ρ : Rho} {κ : Kap} {N : Int} {bs : List PyData} {P : List PyData → (Kap → Prop) → Kap → Prop} (h0 : ρ[(0 : Nat)]? = some (some (.c 0))) (hκ : κ[(0 : Nat)]? = some (.l bs)) (hb : Box N bs) (hN : N < 2 ^ 40)
    (k : ∀ (xs : List PyData) bs', xs.length ≤ 3 → Box (N + 1) bs' → P xs (fun _ => True) (κ.set 0 (.l bs'))) : wr_want ρ κ P := by
  have ix : ∀ m : Int, 0 ≤ m → m < 4 → ∃ n : Nat, n ≤ 3 ∧ ixD (.list [.int 0, .int 1, .int 1, .int 3]) (.int m) = some (.v (.int (n : Int))) := fun m m0 m1 => by
    obtain ⟨m, rfl⟩ := Int.eq_ofNat_of_zero_le m0
    have : m = 0 ∨ m = 1 ∨ m = 2 ∨ m = 3 := by omega
    rcases this with rfl | rfl | rfl | rfl
    · exact ⟨0, by decide, ixD_list (atI_nat (j := 0) rfl)⟩
    · exact ⟨1, by decide, ixD_list (atI_nat (j := 1) rfl)⟩
    · exact ⟨1, by decide, ixD_list (atI_nat (j := 2) rfl)⟩
    · exact ⟨3, by decide, ixD_list (atI_nat (j := 3) rfl)⟩
  have gl : Gv (wLst (wCons (wC (.int 0)) (wCons (wC (.int 1)) (wCons (wC (.int 1)) (wCons (wC (.int 3)) wNil))))) ρ κ (.list [.int 0, .int 1, .int 1, .int 3]) := gv_lst (ga_cons gv_c (ga_cons gv_c (ga_cons gv_c (ga_cons gv_c ga_nil)))) (by decide)
  unfold wr_want
  generalize PyData.list [.int 0, .int 1, .int 1, .int 3] = L4 at ix gl
  generalize (wLst (wCons (wC (.int 0)) (wCons (wC (.int 1)) (wCons (wC (.int 1)) (wCons (wC (.int 3)) wNil))))) = w4 at gl
  rw [s_rng1, s_cons, s_bin]
  refine gl _ fun r hr => ?_
  refine box_take h0 hκ hb hN gv_c (by decide) (by decide) fun m bs' m0 m1 hb' => ?_
  obtain ⟨n, n3, en⟩ := ix m m0 m1
  rw [hr, val_d, Opt_some, st_d, val_d, Opt_some, en, Opt_some, s_nil]
  show -(2 ^ 62) ≤ (n : Int) ∧ (n : Int) < 2 ^ 62 ∧ P ((List.range (n : Int).toNat).map fun (i : Nat) => .int (0 + (i : Int))) (fun _ => True) _
  refine ⟨by omega, by omega, ?_⟩
  rw [Int.toNat_natCast]
  exact k _ bs' (by rw [List.length_map, List.length_range]; exact n3) hb'
theorem r_law_want (bs : List PyData) (rs : List R) (Pd : List (Key × PyData) → List PyData → Prop) (h : Ph_law_want bs rs Pd) (hl : rs.length = 1) : w_law_want { nx := fun _ _ => False, rt := fun r κ => endLN κ r Pd } (some (.c 0) :: (rs.map some ++ List.replicate 8 none)) [.l bs] := by
  obtain ⟨N, ns, hb, hN, rfl, hn, n2, n5, k⟩ := h
  clear hl
  simp only [List.map_cons, List.map_nil, List.replicate_succ, List.replicate_zero, List.cons_append, List.nil_append]
  unfold w_law_want
  rw [s_seq]
  unfold wq1
  rw [s_set]
  refine box_call (ys := [nmL ns, .int (6 : Nat)]) rfl rfl (gc_cons (gv_var (i := 1) rfl) (gc_cons gv_c gc_nil)) ⟨N, ns, 6, hb, by omega, rfl, by omega, fun fam bs1 hf l6 hb1 => ?_⟩
  show wSeq wq2 _ _ (rhoPw ns fam none none none none none none none) [.l bs1]
  rw [s_seq]
  refine step2 hn n5 hf l6 fun κ d es L => ?_
  dsimp only
  rw [s_seq, s_for]
  refine rng_want rfl L.h0 hb1 (by omega) fun xs bs2 lx hb2 => ?_
  refine turns (fun _ => trivial) hn n2 n5 xs _ 6 bs2 _ _ (N + 201) _ _ _ _ (by omega) (pre0 hn hf l6) (L.box bs2) (hb2.mono (by omega)) (by omega) fun W bs3 κ3 es3 p4 p5 p6 p7 w L3 hb3 => ?_
  dsimp only
  rw [s_seq]
  refine for_sq (xs := ns.map .str) (gv_var (i := 1) rfl) fun ok hok => ?_
  refine tops hok hn n5 ns [] W κ3 es3 p5 rfl w ⟨fun z hz => nomatch hz⟩ L3 fun W' κ' es' p5 w' T L' => ?_
  dsimp only
  rw [s_ret, s_var]
  simp only [List.getElem?_cons_succ, List.getElem?_cons_zero]
  refine told hn L' (k W' bs3 ⟨w'.sub, fun z hz => by have := w'.len z hz; omega⟩ (fun z hz => ⟨(T.low z hz).1, w'.nd z hz, (T.low z hz).2⟩) w'.len (hb3.mono (by omega)))
end SH
namespace DL
open PySem PySem.Spec PyProof.Rows L2
def inTD (neg : Bool) : PyData → PyData → Option Out
  | x, .tuple ys => if SeqAt.shaped x = true ∧ SeqAt.shaped (.tuple ys) = true then some (.v (.bool (if neg then !ys.any fun z => PyData.eqv z x else ys.any fun z => PyData.eqv z x))) else none
  | _, _ => none
def rInTD (K : PySem.W.Frag) (neg : Bool) : R2 := fun x y H Q => ∃ d ds, Dp K H x d ∧ Dp K H y (.tuple ds) ∧ SeqAt.shaped d = true ∧ SeqAt.shaped (.tuple ds) = true ∧ Q (.bl (if neg then !ds.any fun z => PyData.eqv z d else ds.any fun z => PyData.eqv z d)) H
section
variable {X : Cx}
theorem op_inTD (hu : X.A.units + 65 < cLine) : OpR X (compareOp .In) (rInTD X.K false) := by
  intro pins s σ H x y v u Q I rx ry h
  obtain ⟨d, ds, hd, he, sd, se, q⟩ := h
  obtain ⟨as, r1⟩ := Dp.reads I d x v hd rx
  obtain ⟨bs, r2⟩ := Dp.reads I (.tuple ds) y u he ry
  exact SeqAt.in_tuple_reads r2 r1 (SeqAt.canLay_of_shaped se) (SeqAt.canLay_of_shaped sd) (room_in_shaped sd hu) ⟨.bl _, H, I, rfl, q⟩
end
theorem inTD_ok {K : PySem.W.Frag} {neg : Bool} : OpD K (rInTD K neg) (inTD neg) := by
  intro G H v u x y o Q ext hx hy e k
  unfold inTD at e
  split at e
  · split at e
    · rename_i hs
      cases e
      exact ⟨_, _, Rp.dp _ _ (hx.rp ext), Rp.dp _ _ (hy.rp ext), hs.1, hs.2, k _ (.bl _)⟩
    · cases e
  · cases e
end DL
namespace SH
open PySem PySem.Spec PyProof.Rows L2 DL
/-- the first sign that differs is less -/
def lexN : List Str → List Str → Bool
  | x :: s, y :: t => if x = y then lexN s t else decide (cs x < cs y)
  | _, _ => false
theorem eqv_strs : ∀ s t : List Str, s.length = t.length → PySem.W.rowLt (s.map .str) (t.map .str) = lexN s t
  | [], [], _ => by
    show PyProof.Rows.lexLt itemOrd _ _ = false
    exact lex_irrefl _
  | x :: s, y :: t, h => by
    have ih := eqv_strs s t (by simpa using h)
    unfold PySem.W.rowLt at ih ⊢
    rw [List.map_cons, List.map_cons, PySem.W.dataLt_cons (by simp [PySem.W.alike]), ih]
    show _ = (if x = y then lexN s t else decide (cs x < cs y))
    by_cases c : x = y
    · rw [if_pos c, if_pos (by rw [c]; simp [PyData.eqv])]
    · rw [if_neg c, if_neg (by simp [PyData.eqv, c]), PySem.W.dataLt_str]
end SH
namespace K46
open PySem PySem.Spec PyProof.Rows L2 DL SH
abbrev Ph_law_odd := SH.Ph_odd3
abbrev w_law_odd := SH.w_odd3
theorem r_law_odd (bs : List PyData) (rs : List R) (Pd : R → List PyData → Prop) (h : Ph_law_odd bs rs Pd) (hl : rs.length = 1) : w_law_odd { nx := fun _ κ => endL κ (.d .none) Pd, rt := fun r κ => endL κ r Pd } (some (.c 0) :: (rs.map some ++ List.replicate 1 none)) [.l bs] := r_odd3 bs rs Pd h hl
abbrev Ph_law_bentN := SH.Ph_bent3N
abbrev Ph_law_bent := Ph_law_bentN 9
theorem n_law_bent {bs : List PyData} {rs : List R} {P : R → List PyData → Prop} (h : Ph_law_bentN 0 bs rs P) : False := n_bent3 h
abbrev w_law_bent := SH.w_bent3
theorem r_law_bent (n : Nat) (bs : List PyData) (rs : List R) (Pd : R → List PyData → Prop) (h : Ph_law_bentN (n + 1) bs rs Pd) (hl : rs.length = 1) : w_law_bent (Ph_law_bentN n) { nx := fun _ κ => endL κ (.d .none) Pd, rt := fun r κ => endL κ r Pd } (some (.c 0) :: (rs.map some ++ List.replicate 3 none)) [.l bs] := r_bent3 n bs rs Pd h hl
open Classical in
noncomputable def clashB (ns : List Str) (W : Wish) (x : PyData) : Bool := decide (∃ t ∈ clashL ns W, x = triD t)
open Classical in
theorem clashB_no {ns : List Str} {W : Wish} {x : PyData} (h : ∀ t ∈ clashL ns W, x ≠ triD t) : clashB ns W x = false := by
  unfold clashB
  exact decide_eq_false fun ⟨t, ht, e⟩ => h t ht e
open Classical in
theorem clashB_tri {ns : List Str} {W : Wish} {r : Str} {h : List Str} {o : Str} (hr : r ∈ ns) (hh : h ∈ W r) (ho : o ∈ h) : clashB ns W (triD (r, h, o)) = wantB W r h o := by
  cases c : wantB W r h o with
  | true =>
    unfold clashB
    exact decide_eq_true ⟨(r, h, o), clash_mem.mpr ⟨hr, hh, ho, c⟩, rfl⟩
  | false =>
    refine clashB_no fun t ht e => ?_
    have := triD_inj _ _ e
    subst this
    rw [(clash_mem.mp ht).2.2.2] at c
    cases c
/-- fit to be asked of -/
def Th (x : PyData) : Prop := Fine 100 6 20000 x
theorem shaped_of {b n s : Nat} {x : PyData} (f : Fine b n s x) (hb : b ≤ 100) (hn : n ≤ 64) : SeqAt.shaped x = true := by
  unfold SeqAt.shaped
  rw [(plain_ok hb f.pl).1, Bool.true_and]
  exact decide_eq_true (Nat.le_trans f.deep hn)
theorem eqv_strs : ∀ (s : List Str) (xs : List PyData), PyData.eqvAll (s.map .str) xs = true ↔ xs = s.map .str
  | [], [] => by simp [PyData.eqvAll]
  | [], x :: xs => by simp [PyData.eqvAll]
  | z :: s, [] => by simp [PyData.eqvAll]
  | z :: s, x :: xs => by
    rw [List.map_cons, PyData.eqvAll, Bool.and_eq_true, eqv_strs s xs, List.cons.injEq]
    refine and_congr ?_ Iff.rfl
    cases x with
    | str w =>
      rw [eqv_str, beq_iff_eq]
      exact ⟨fun e => by rw [e], fun e => by injection e with e; exact e.symm⟩
    | _ => simp [PyData.eqv]
theorem any_sets (l : List (List Str)) (xs : List PyData) : ((l.map strsD).any fun z => PyData.eqv z (.tuple xs)) = true ↔ ∃ h ∈ l, xs = h.map .str := by
  rw [List.any_eq_true]
  constructor
  · rintro ⟨z, hz, e⟩
    obtain ⟨h, hh, rfl⟩ := List.mem_map.mp hz
    rw [show strsD h = .tuple (h.map .str) from rfl, PyData.eqv] at e
    exact ⟨h, hh, (eqv_strs h xs).mp e⟩
  · rintro ⟨h, hh, rfl⟩
    refine ⟨strsD h, List.mem_map.mpr ⟨h, hh, rfl⟩, ?_⟩
    rw [show strsD h = .tuple (h.map .str) from rfl, PyData.eqv]
    exact (eqv_strs h _).mpr rfl
theorem any_texts (l : List Str) (x : PyData) : ((l.map PyData.str).any fun z => PyData.eqv z x) = true ↔ ∃ o ∈ l, x = .str o := by
  rw [List.any_eq_true]
  constructor
  · rintro ⟨z, hz, e⟩
    obtain ⟨o, ho, rfl⟩ := List.mem_map.mp hz
    refine ⟨o, ho, ?_⟩
    cases x <;> simp [PyData.eqv] at e ⊢
    exact e.symm
  · rintro ⟨o, ho, rfl⟩
    exact ⟨_, List.mem_map.mpr ⟨o, ho, rfl⟩, by simp [PyData.eqv]⟩
theorem lookM_no {W : Wish} {z : Str} : ∀ {ns : List Str}, z ∉ ns → lookM (mOf (wishE ns W)) (.inr z) = none := fun {ns} h => by
  unfold lookM
  rw [List.find?_eq_none.mpr]
  · rfl
  intro e he q
  unfold mOf wishE at he
  rw [List.map_map] at he
  obtain ⟨y, hy, rfl⟩ := List.mem_map.mp he
  have : (Sum.inr y : Key) = Sum.inr z := of_decide_eq_true q
  exact h (by rw [← Sum.inr.inj this]; exact hy)
def Ph_shows_clash (es : List MEnt) (rs : List R) (P : R → Prop) : Prop := ∃ (ns : List Str) (W : Wish) (x : PyData), es = wishE ns W ∧ rs = [.d x] ∧ Names ns ∧ ns.length ≤ 8 ∧ WishOk ns W ∧ Th x ∧ P (.d (.bool (clashB ns W x)))
abbrev Ph_law_is_clash := Ph_shows_clash
def wt1 : DTT := (wOr (wNot (wTru (wIsi .tuple (wVar 1)))) (wB (wBin (eqD true) (wCB lenD (wCons (wVar 1) wNil)) (wC (.int 3)))))
def wa2 : DTS := (wAsg (wVar 1) (wTupG 3 (wgCons (wName 2) (wgCons (wName 3) (wgCons (wName 4) wgNil)))))
def wt3 : DTT := (wOr (wNot (wTru (wIsi .str (wVar 2)))) (wOr (wB (wInG true (wVar 2) (wVar 0))) (wOr (wNot (wTru (wIsi .tuple (wVar 3)))) (wB (wBin (inD true) (wVar 3) (wGetD (wVar 0) (wVar 2)))))))
def we4 : DTE := (wAndV (wBin (inTD false) (wVar 4) (wVar 3)) (wCallM Ph_is_wanting (wCons (wVar 0) (wCons (wVar 2) (wCons (wVar 3) (wCons (wVar 4) wNil))))))
/-- shows_clash -/
def w_shows_clash : DTS := (wSeq (wIfS wt1 (wRet (wC (.bool false))) wNext)
  (wSeq wa2
  (wSeq (wIfS wt3 (wRet (wC (.bool false))) wNext)
  (wRet we4))))
section
variable {ns : List Str} {W : Wish} {E : DEnds} {κ : Kap} {ρ : Rho} {x a b c : PyData} {wa wb : DTE}
theorem not_tuple (h : isi x .tuple = false) : clashB ns W x = false := clashB_no fun t _ e => by
  subst e
  cases h
theorem not_three {xs : List PyData} (h : xs.length ≠ 3) : clashB ns W (.tuple xs) = false := clashB_no fun t _ e => by
  unfold triD at e
  injection e with e
  subst e
  exact h rfl
theorem seq_tuple (h : isi x .tuple = true) : ∃ xs, x = .tuple xs := by
  cases x <;> first | exact ⟨_, rfl⟩ | cases h
theorem text_of (h : isi x .str = true) : ∃ z, x = .str z := by
  cases x <;> first | exact ⟨_, rfl⟩ | cases h
theorem three {xs : List PyData} (h : xs.length = 3) : ∃ a b c, xs = [a, b, c] := by
  match xs, h with
  | [a, b, c], _ => exact ⟨a, b, c, rfl⟩
theorem item_fine {b n s : Nat} {xs : List PyData} (f : Fine b (n + 1) s (.tuple xs)) (h : x ∈ xs) : Fine b n s x := by
  have q : Fine b (n + 1) s (seqD true xs) := f
  obtain ⟨h1, h2, h3⟩ := seqD_fine q
  have := weight_mem h
  exact ⟨by have := (h1 x h).2; omega, (h1 x h).1, by omega⟩
theorem gv_wish {ns : List Str} {W : Wish} {ρ : Rho} {κ : Kap} {i j k : Nat} {z : Str} (h1 : ρ[i]? = some (some (.c k))) (h2 : ρ[j]? = some (some (.d (.str z)))) (h3 : κ[k]? = some (.m (mOf (wishE ns W)))) (hz : z ∈ ns) : Gv (wGetD (wVar i) (wVar j)) ρ κ (.list ((W z).map strsD)) := fun Q k => get_wish h1 h2 h3 hz (k _ rfl)
theorem gv_notin {j k : Nat} {z : Str} (ha : Gv wa ρ κ (.str z)) (h1 : ρ[j]? = some (some (.c k))) (h3 : κ[k]? = some (.m (mOf (wishE ns W)))) : Gv (wInG true wa (wVar j)) ρ κ (.bool (!decide (z ∈ ns))) := fun Q kk => by
  rw [s_inG]
  refine ha _ fun r hr => ?_
  rw [s_var, h1]
  dsimp only
  rw [hr, val_d, Opt_some, h3]
  dsimp only
  show Opt (some (Sum.inr z)) _
  rw [Opt_some]
  by_cases c : z ∈ ns
  · rw [lookM_wish c, decide_eq_true c] at *
    exact kk _ rfl
  · rw [lookM_no c, decide_eq_false c] at *
    exact kk _ rfl
theorem take_ret {wt : DTT} {b : DTS} (h : Tv wt ρ κ true) (k : E.rt (.d (.bool false)) κ) : wIfS wt (wRet (wC (.bool false))) b E ρ κ := by
  rw [s_if]
  refine h _ ?_
  rw [if_pos rfl, s_ret, s_c]
  exact k
theorem in_wish {l : List (List Str)} {xs : List PyData} (sh : SeqAt.shaped (.tuple xs) = true) (sl : SeqAt.shaped (.list (l.map strsD)) = true) : inD true (.tuple xs) (.list (l.map strsD)) = some (.v (.bool (!(l.map strsD).any fun z => PyData.eqv z (.tuple xs)))) := by
  show (if SeqAt.shaped (.tuple xs) = true ∧ SeqAt.shaped (.list (l.map strsD)) = true then some (Out.v (.bool (if true = true then !(l.map strsD).any fun z => PyData.eqv z (.tuple xs) else (l.map strsD).any fun z => PyData.eqv z (.tuple xs)))) else none) = _
  rw [if_pos ⟨sh, sl⟩, if_pos rfl]
theorem in_hold {l : List Str} {x : PyData} (sh : SeqAt.shaped x = true) (sl : SeqAt.shaped (.tuple (l.map .str)) = true) : inTD false x (.tuple (l.map .str)) = some (.v (.bool ((l.map PyData.str).any fun z => PyData.eqv z x))) := by
  show (if SeqAt.shaped x = true ∧ SeqAt.shaped (.tuple (l.map .str)) = true then some (Out.v (.bool (if false = true then !(l.map PyData.str).any fun z => PyData.eqv z x else (l.map PyData.str).any fun z => PyData.eqv z x))) else none) = _
  rw [if_pos ⟨sh, sl⟩, if_neg (by decide)]
theorem in_holdS {l : List Str} {z : Str} : inD true (.str z) (.tuple (l.map .str)) = some (.v (.bool (!(l.map PyData.str).any fun y => PyData.eqv y (.str z)))) := by
  have fl : (l.map PyData.str).all flatD = true := by
    rw [List.all_eq_true]
    intro y hy
    obtain ⟨o, _, rfl⟩ := List.mem_map.mp hy
    rfl
  show (if flatD (.str z) = true ∧ (l.map PyData.str).all flatD = true then some (Out.v (.bool (if true = true then !(l.map PyData.str).any fun y => PyData.eqv y (.str z) else (l.map PyData.str).any fun y => PyData.eqv y (.str z)))) else none) = _
  rw [if_pos ⟨rfl, fl⟩, if_pos rfl]
theorem holds_shaped (hn : Names ns) (n8 : ns.length ≤ 8) (w : WishOk ns W) {z : Str} (hz : z ∈ ns) : SeqAt.shaped (.list ((W z).map strsD)) = true := by
  obtain ⟨sm, l⟩ := WishOk.small hn n8 w hz
  exact good_shaped (c_sets (n := 1) (fun s hs => ⟨(sm s hs).1, by have := (sm s hs).2; omega⟩) (by omega)).good (by decide)
theorem gv_want {r o : Str} {h : List Str} (hn : Names ns) (n8 : ns.length ≤ 8) (w : WishOk ns W) (hr : r ∈ ns) (hh : h ∈ W r) (ho : o ∈ h) (h0 : ρ[(0 : Nat)]? = some (some (.c 0))) (h2 : ρ[(2 : Nat)]? = some (some (.d (.str r)))) (h3 : ρ[(3 : Nat)]? = some (some (.d (strsD h)))) (h4 : ρ[(4 : Nat)]? = some (some (.d (.str o)))) :
    Gv (wCallM Ph_is_wanting (wCons (wVar 0) (wCons (wVar 2) (wCons (wVar 3) (wCons (wVar 4) wNil))))) ρ [.m (mOf (wishE ns W))] (.bool (wantB W r h o)) := fun Q k => by
  obtain ⟨q1, q2, q3⟩ := w.sub r hr h hh
  have hlen := q1.length_le
  obtain ⟨sm2, lw2⟩ := WishOk.small hn n8 w (q1.subset ho)
  rw [s_callM, s_cons, s_var, h0]
  dsimp only
  rw [s_cons, s_var, h2]
  dsimp only
  rw [s_cons, s_var, h3]
  dsimp only
  rw [s_cons, s_var, h4]
  dsimp only
  rw [s_nil]
  show Opt (some ([R.d (.str r), .d (strsD h), .d (.str o)], [Cell.m (mOf (wishE ns W))])) _
  rw [Opt_some]
  refine ⟨wishE ns W, rfl, ns, W, r, h, o, rfl, rfl, q1.subset ho, sm2, by omega, fun y hy => hn.1 y (q1.subset hy), by omega, hn.1 _ hr, ?_⟩
  exact k _ rfl
abbrev rho0 (x : PyData) : Rho := [some (.c 0), some (.d x), none, none, none]
abbrev rho1 (a b c : PyData) : Rho := [some (.c 0), some (.d (.tuple [a, b, c])), some (.d a), some (.d b), some (.d c)]
theorem tv_1 : Tv (wNot (wTru (wIsi .tuple (wVar 1)))) (rho0 x) κ (!isi x .tuple) := tv_not (tv_tru (gv_isi (gv_var (i := 1) rfl)))
theorem tv_len {xs : List PyData} : Tv (wB (wBin (eqD true) (wCB lenD (wCons (wVar 1) wNil)) (wC (.int 3)))) (rho0 (.tuple xs)) κ (!decide (xs.length = 3)) := by
  have := gv_neI (gv_lenT (gv_var (i := 1) rfl) : Gv (wCB lenD (wCons (wVar 1) wNil)) (rho0 (.tuple xs)) κ _) (gv_c (x := .int 3))
  have e : (!decide ((xs.length : Int) = 3)) = !decide (xs.length = 3) := by
    congr 1
    exact decide_eq_decide.mpr (by omega)
  rw [e] at this
  exact tv_B this
theorem asg3 (k : E.nx (rho1 a b c) κ) : wa2 E (rho0 (.tuple [a, b, c])) κ := by
  unfold wa2
  rw [s_asg]
  simp only [s_callL, s_call, s_cons, s_consM, s_nil, s_c, s_var, s_bin, s_un, s_lst, s_tup, s_cb, s_B, s_tru, s_not, s_repr, List.getElem?_cons_succ, List.getElem?_cons_zero, List.set_cons_succ, List.set_cons_zero, st_d, st_f, st_c, val_d, val_f, dats_d, dats_nil, vals_cons, vals_nil, lend_c, args_d, DL.args_nil, Opt_some, out_v, out_n, out_t, lab_d, lab_f, sto_f, sto_d, List.length_cons, List.length_nil, lenD_list, lenD_tuple, listC_list, listC_tuple, tupC_list, tupC_tuple, istt, istf, Bool.not_true, Bool.not_false, Bool.false_eq_true, if_false, if_true, s_tupG, s_gcons, s_gnil, s_name, true_and]
  exact k
abbrev kapC (ns : List Str) (W : Wish) : Kap := [.m (mOf (wishE ns W))]
theorem no_a (h : ∀ z, a = .str z → z ∉ ns) : clashB ns W (.tuple [a, b, c]) = false := clashB_no fun t ht e => by
  unfold triD at e
  injection e with e
  injection e with e1 e2
  exact h _ e1 (clash_mem.mp ht).1
theorem no_b {r : Str} (h : ∀ s ∈ W r, b ≠ strsD s) : clashB ns W (.tuple [.str r, b, c]) = false := clashB_no fun t ht e => by
  unfold triD at e
  injection e with e
  injection e with e1 e2
  injection e2 with e2 e3
  injection e1 with e1
  subst e1
  exact h _ (clash_mem.mp ht).2.1 e2
theorem no_c {r : Str} {s : List Str} (h : ∀ o ∈ s, c ≠ .str o) : clashB ns W (.tuple [.str r, strsD s, c]) = false := clashB_no fun t ht e => by
  unfold triD at e
  injection e with e
  injection e with e1 e2
  injection e2 with e2 e3
  injection e3 with e3 e4
  have es : s = t.2.1 := by
    injection e2 with e2
    exact (List.map_inj_right (fun a b h => by injection h)).mp e2
  subst es
  exact h _ (clash_mem.mp ht).2.2.1 e3
end
theorem r_shows_clash (es : List MEnt) (rs : List R) (Pd : R → Prop) (h : Ph_shows_clash es rs Pd) (hl : rs.length = 1) : w_shows_clash { nx := fun _ κ => endM es κ (.d .none) Pd, rt := fun r κ => endM es κ r Pd } (some (.c 0) :: (rs.map some ++ List.replicate 3 none)) [.m (mOf es)] := by
  obtain ⟨ns, W, x, rfl, rfl, hn, n8, w, t, k⟩ := h
  clear hl
  simp only [List.map_cons, List.map_nil, List.replicate_succ, List.replicate_zero, List.cons_append, List.nil_append]
  unfold w_shows_clash
  show (wSeq _ _) _ (rho0 x) (kapC ns W)
  rw [s_seq]
  unfold wt1
  have out : clashB ns W x = false → endM (wishE ns W) (kapC ns W) (.d (.bool false)) Pd := fun e => endM_d rfl (by rw [e] at k; exact k)
  cases ht : isi x .tuple with
  | false =>
    have q : Tv (wOr (wNot (wTru (wIsi .tuple (wVar 1)))) (wB (wBin (eqD true) (wCB lenD (wCons (wVar 1) wNil)) (wC (.int 3))))) (rho0 x) (kapC ns W) (!isi x .tuple || true) := tv_or tv_1 fun e => by rw [ht] at e; cases e
    rw [ht] at q
    exact take_ret q (out (not_tuple ht))
  | true =>
    obtain ⟨xs, rfl⟩ := seq_tuple ht
    have q : Tv (wOr (wNot (wTru (wIsi .tuple (wVar 1)))) (wB (wBin (eqD true) (wCB lenD (wCons (wVar 1) wNil)) (wC (.int 3))))) (rho0 (.tuple xs)) (kapC ns W) (!isi (.tuple xs) .tuple || !decide (xs.length = 3)) := tv_or tv_1 fun _ => tv_len
    rw [ht] at q
    by_cases l3 : xs.length = 3
    · rw [decide_eq_true l3] at q
      obtain ⟨a, b, c, rfl⟩ := three l3
      refine pass_gv q ?_
      dsimp only
      rw [s_seq]
      refine asg3 ?_
      dsimp only
      rw [s_seq]
      have fa : Fine 100 5 20000 a := item_fine (xs := [a, b, c]) t (by simp)
      have fb : Fine 100 5 20000 b := item_fine (xs := [a, b, c]) t (by simp)
      have fc : Fine 100 5 20000 c := item_fine (xs := [a, b, c]) t (by simp)
      unfold wt3
      have t1 : Tv (wNot (wTru (wIsi .str (wVar 2)))) (rho1 a b c) (kapC ns W) (!isi a .str) := tv_not (tv_tru (gv_isi (gv_var (i := 2) rfl)))
      cases ha : isi a .str with
      | false =>
        have q2 := tv_or (c := true) t1 (wu := (wOr (wB (wInG true (wVar 2) (wVar 0))) (wOr (wNot (wTru (wIsi .tuple (wVar 3)))) (wB (wBin (inD true) (wVar 3) (wGetD (wVar 0) (wVar 2))))))) fun e => by rw [ha] at e; cases e
        rw [ha] at q2
        exact take_ret q2 (out (no_a fun z e => by subst e; cases ha))
      | true =>
        obtain ⟨r, rfl⟩ := text_of ha
        have t2 : Tv (wB (wInG true (wVar 2) (wVar 0))) (rho1 (.str r) b c) (kapC ns W) (!decide (r ∈ ns)) := tv_B (gv_notin (k := 0) (gv_var (i := 2) rfl) rfl rfl)
        by_cases hr : r ∈ ns
        · have t3 : Tv (wNot (wTru (wIsi .tuple (wVar 3)))) (rho1 (.str r) b c) (kapC ns W) (!isi b .tuple) := tv_not (tv_tru (gv_isi (gv_var (i := 3) rfl)))
          cases hb : isi b .tuple with
          | false =>
            have q2 := tv_or t1 fun _ => tv_or t2 fun _ => tv_or (c := true) t3 (wu := (wB (wBin (inD true) (wVar 3) (wGetD (wVar 0) (wVar 2))))) fun e => by rw [hb] at e; cases e
            rw [hb, ha, decide_eq_true hr] at q2
            exact take_ret q2 (out (no_b fun s _ e => by subst e; cases hb))
          | true =>
            obtain ⟨hs, rfl⟩ := seq_tuple hb
            have t4 : Tv (wB (wBin (inD true) (wVar 3) (wGetD (wVar 0) (wVar 2)))) (rho1 (.str r) (.tuple hs) c) (kapC ns W) _ := tv_B (gv_bin (gv_var (i := 3) rfl) (gv_wish (k := 0) rfl rfl rfl hr) (in_wish (shaped_of fb (by decide) (by decide)) (holds_shaped hn n8 w hr)) rfl)
            have q2 := tv_or t1 fun _ => tv_or t2 fun _ => tv_or t3 fun _ => t4
            rw [hb, ha, decide_eq_true hr] at q2
            by_cases hm : ∃ s ∈ W r, hs = s.map .str
            · rw [(any_sets _ _).mpr hm] at q2
              obtain ⟨s, hsm, rfl⟩ := hm
              refine pass_gv q2 ?_
              dsimp only
              rw [s_ret]
              unfold we4
              have g1 : Gv (wBin (inTD false) (wVar 4) (wVar 3)) (rho1 (.str r) (strsD s) c) (kapC ns W) _ := gv_bin (gv_var (i := 4) rfl) (gv_var (i := 3) rfl) (in_hold (shaped_of fc (by decide) (by decide)) (shaped_of fb (by decide) (by decide))) rfl
              by_cases hc : ∃ o ∈ s, c = .str o
              · obtain ⟨o, ho, rfl⟩ := hc
                have g2 := gv_andV g1 fun _ => gv_want hn n8 w hr hsm ho rfl rfl rfl rfl
                rw [(any_texts _ _).mpr ⟨o, ho, rfl⟩, Bool.true_and] at g2
                refine ret_gvB g2 ?_
                refine endM_d rfl ?_
                rw [← clashB_tri hr hsm ho]
                exact k
              · have g2 := gv_andV (c := true) g1 (wb := (wCallM Ph_is_wanting (wCons (wVar 0) (wCons (wVar 2) (wCons (wVar 3) (wCons (wVar 4) wNil)))))) fun e => absurd ((any_texts _ _).mp e) hc
                rw [show ((s.map PyData.str).any fun z => PyData.eqv z c) = false from Bool.eq_false_iff.mpr fun e => hc ((any_texts _ _).mp e), Bool.false_and] at g2
                refine ret_gvB g2 (out (no_c fun o ho e => hc ⟨o, ho, e⟩))
            · rw [show ((W r).map strsD).any (fun z => PyData.eqv z (.tuple hs)) = false from Bool.eq_false_iff.mpr fun e => hm ((any_sets _ _).mp e)] at q2
              refine take_ret q2 (out (no_b fun s hsm e => hm ⟨s, hsm, ?_⟩))
              injection e
        · have q2 := tv_or t1 fun _ => tv_or (c := true) t2 (wu := (wOr (wNot (wTru (wIsi .tuple (wVar 3)))) (wB (wBin (inD true) (wVar 3) (wGetD (wVar 0) (wVar 2)))))) fun e => by rw [decide_eq_false hr] at e; cases e
          rw [ha, decide_eq_false hr] at q2
          exact take_ret q2 (out (no_a fun z e => by injection e with e; rw [← e]; exact hr))
    · rw [decide_eq_false l3] at q
      exact take_ret q (out (not_three l3))
def wu1 : DTT := (wOr (wNot (wTru (wIsi .tuple (wVar 1)))) (wOr (wB (wBin (eqD true) (wCB lenD (wCons (wVar 1) wNil)) (wC (.int 3)))) (wOr (wNot (wTru (wIsi .str (wBin ixD (wVar 1) (wC (.int 0)))))) (wB (wInG true (wBin ixD (wVar 1) (wC (.int 0))) (wVar 0))))))
def wu3 : DTT := (wOr (wNot (wTru (wIsi .tuple (wVar 3)))) (wOr (wB (wBin (inD true) (wVar 3) (wGetD (wVar 0) (wVar 2)))) (wOr (wNot (wTru (wIsi .str (wVar 4)))) (wB (wBin (inD true) (wVar 4) (wVar 3))))))
/-- _law_is_clash -/
def w_law_is_clash : DTS := (wSeq (wIfS wu1 (wRet (wC (.bool false))) wNext)
  (wSeq wa2
  (wSeq (wIfS wu3 (wRet (wC (.bool false))) wNext)
  (wRet (wCallM Ph_law_wanting (wCons (wVar 0) (wCons (wVar 2) (wCons (wVar 3) (wCons (wVar 4) wNil)))))))))
theorem r_law_is_clash (es : List MEnt) (rs : List R) (Pd : R → Prop) (h : Ph_law_is_clash es rs Pd) (hl : rs.length = 1) : w_law_is_clash { nx := fun _ κ => endM es κ (.d .none) Pd, rt := fun r κ => endM es κ r Pd } (some (.c 0) :: (rs.map some ++ List.replicate 3 none)) [.m (mOf es)] := by
  obtain ⟨ns, W, x, rfl, rfl, hn, n8, w, t, k⟩ := h
  clear hl
  simp only [List.map_cons, List.map_nil, List.replicate_succ, List.replicate_zero, List.cons_append, List.nil_append]
  unfold w_law_is_clash
  show (wSeq _ _) _ (rho0 x) (kapC ns W)
  rw [s_seq]
  unfold wu1
  have out : clashB ns W x = false → endM (wishE ns W) (kapC ns W) (.d (.bool false)) Pd := fun e => endM_d rfl (by rw [e] at k; exact k)
  cases ht : isi x .tuple with
  | false =>
    have q := tv_or (c := true) (tv_1 (x := x) (κ := kapC ns W)) (wu := (wOr (wB (wBin (eqD true) (wCB lenD (wCons (wVar 1) wNil)) (wC (.int 3)))) (wOr (wNot (wTru (wIsi .str (wBin ixD (wVar 1) (wC (.int 0)))))) (wB (wInG true (wBin ixD (wVar 1) (wC (.int 0))) (wVar 0)))))) fun e => by rw [ht] at e; cases e
    rw [ht] at q
    exact take_ret q (out (not_tuple ht))
  | true =>
    obtain ⟨xs, rfl⟩ := seq_tuple ht
    by_cases l3 : xs.length = 3
    · obtain ⟨a, b, c, rfl⟩ := three l3
      have fa : Fine 100 5 20000 a := item_fine (xs := [a, b, c]) t (by simp)
      have fb : Fine 100 5 20000 b := item_fine (xs := [a, b, c]) t (by simp)
      have fc : Fine 100 5 20000 c := item_fine (xs := [a, b, c]) t (by simp)
      have g0 : Gv (wBin ixD (wVar 1) (wC (.int 0))) (rho0 (.tuple [a, b, c])) (kapC ns W) a := gv_bin (gv_var (i := 1) rfl) gv_c (ixD_tuple (atI_nat (j := 0) rfl)) rfl
      have t1 : Tv (wNot (wTru (wIsi .str (wBin ixD (wVar 1) (wC (.int 0)))))) (rho0 (.tuple [a, b, c])) (kapC ns W) (!isi a .str) := tv_not (tv_tru (gv_isi g0))
      cases ha : isi a .str with
      | false =>
        have q2 := tv_or (tv_1 (x := .tuple [a, b, c]) (κ := kapC ns W)) fun _ => tv_or (tv_len (xs := [a, b, c]) (κ := kapC ns W)) fun _ => tv_or (c := true) t1 (wu := (wB (wInG true (wBin ixD (wVar 1) (wC (.int 0))) (wVar 0)))) fun e => by rw [ha] at e; cases e
        rw [ht, ha, decide_eq_true l3] at q2
        exact take_ret q2 (out (no_a fun z e => by subst e; cases ha))
      | true =>
        obtain ⟨r, rfl⟩ := text_of ha
        have t2 : Tv (wB (wInG true (wBin ixD (wVar 1) (wC (.int 0))) (wVar 0))) (rho0 (.tuple [.str r, b, c])) (kapC ns W) (!decide (r ∈ ns)) := tv_B (gv_notin (k := 0) g0 rfl rfl)
        have q2 := tv_or (tv_1 (x := .tuple [.str r, b, c]) (κ := kapC ns W)) fun _ => tv_or (tv_len (xs := [.str r, b, c]) (κ := kapC ns W)) fun _ => tv_or t1 fun _ => t2
        rw [ht, ha, decide_eq_true l3] at q2
        by_cases hr : r ∈ ns
        · rw [decide_eq_true hr] at q2
          refine pass_gv q2 ?_
          dsimp only
          rw [s_seq]
          refine asg3 ?_
          dsimp only
          rw [s_seq]
          unfold wu3
          have t3 : Tv (wNot (wTru (wIsi .tuple (wVar 3)))) (rho1 (.str r) b c) (kapC ns W) (!isi b .tuple) := tv_not (tv_tru (gv_isi (gv_var (i := 3) rfl)))
          cases hb : isi b .tuple with
          | false =>
            have q2 := tv_or (c := true) t3 (wu := (wOr (wB (wBin (inD true) (wVar 3) (wGetD (wVar 0) (wVar 2)))) (wOr (wNot (wTru (wIsi .str (wVar 4)))) (wB (wBin (inD true) (wVar 4) (wVar 3)))))) fun e => by rw [hb] at e; cases e
            rw [hb] at q2
            exact take_ret q2 (out (no_b fun s _ e => by subst e; cases hb))
          | true =>
            obtain ⟨hs, rfl⟩ := seq_tuple hb
            have t4 : Tv (wB (wBin (inD true) (wVar 3) (wGetD (wVar 0) (wVar 2)))) (rho1 (.str r) (.tuple hs) c) (kapC ns W) _ := tv_B (gv_bin (gv_var (i := 3) rfl) (gv_wish (k := 0) rfl rfl rfl hr) (in_wish (shaped_of fb (by decide) (by decide)) (holds_shaped hn n8 w hr)) rfl)
            by_cases hm : ∃ s ∈ W r, hs = s.map .str
            · rw [(any_sets _ _).mpr hm] at t4
              obtain ⟨s, hsm, rfl⟩ := hm
              have t5 : Tv (wNot (wTru (wIsi .str (wVar 4)))) (rho1 (.str r) (.tuple (s.map .str)) c) (kapC ns W) (!isi c .str) := tv_not (tv_tru (gv_isi (gv_var (i := 4) rfl)))
              cases hc : isi c .str with
              | false =>
                have q2 := tv_or t3 fun _ => tv_or t4 fun _ => tv_or (c := true) t5 (wu := (wB (wBin (inD true) (wVar 4) (wVar 3)))) fun e => by rw [hc] at e; cases e
                rw [hb, hc] at q2
                exact take_ret q2 (out (no_c fun o _ e => by subst e; cases hc))
              | true =>
                obtain ⟨o, rfl⟩ := text_of hc
                have t6 : Tv (wB (wBin (inD true) (wVar 4) (wVar 3))) (rho1 (.str r) (.tuple (s.map .str)) (.str o)) (kapC ns W) _ := tv_B (gv_bin (gv_var (i := 4) rfl) (gv_var (i := 3) rfl) in_holdS rfl)
                have q2 := tv_or t3 fun _ => tv_or t4 fun _ => tv_or t5 fun _ => t6
                rw [hb, hc] at q2
                by_cases ho : o ∈ s
                · rw [(any_texts _ _).mpr ⟨o, ho, rfl⟩] at q2
                  refine pass_gv q2 ?_
                  dsimp only
                  rw [s_ret]
                  refine ret_gvB (gv_want hn n8 w hr hsm ho rfl rfl rfl rfl) ?_
                  refine endM_d rfl ?_
                  rw [← clashB_tri hr hsm ho]
                  exact k
                · have hc2 : ¬ ∃ y ∈ s, PyData.str o = .str y := fun ⟨y, hy, e⟩ => ho (by injection e with e; rw [e]; exact hy)
                  rw [show ((s.map PyData.str).any fun z => PyData.eqv z (.str o)) = false from Bool.eq_false_iff.mpr fun e => hc2 ((any_texts _ _).mp e)] at q2
                  exact take_ret q2 (out (no_c fun y hy e => hc2 ⟨y, hy, e⟩))
            · rw [show ((W r).map strsD).any (fun z => PyData.eqv z (.tuple hs)) = false from Bool.eq_false_iff.mpr fun e => hm ((any_sets _ _).mp e)] at t4
              have q2 := tv_or t3 fun _ => tv_or (c := true) t4 (wu := (wOr (wNot (wTru (wIsi .str (wVar 4)))) (wB (wBin (inD true) (wVar 4) (wVar 3))))) fun e => by cases e
              rw [hb] at q2
              refine take_ret q2 (out (no_b fun s hsm e => hm ⟨s, hsm, ?_⟩))
              injection e
        · rw [decide_eq_false hr] at q2
          exact take_ret q2 (out (no_a fun z e => by injection e with e; rw [← e]; exact hr))
    · have q := tv_or (tv_1 (x := .tuple xs) (κ := kapC ns W)) fun _ => tv_or (c := true) (tv_len (xs := xs) (κ := kapC ns W)) (wu := (wOr (wNot (wTru (wIsi .str (wBin ixD (wVar 1) (wC (.int 0)))))) (wB (wInG true (wBin ixD (wVar 1) (wC (.int 0))) (wVar 0))))) fun e => by rw [decide_eq_false l3] at e; cases e
      rw [ht, decide_eq_false l3] at q
      exact take_ret q (out (not_three l3))
def wk2 : DTS := (wSet false 2 (wCallLN Ph_law_want (wCons (wVar 0) (wCons (wVar 1) wNil))))
def wk3 : DTS := (wSet true 3 (wLst (wCons (wC .none) (wCons (wTup wNil) (wCons (wLst wNil) (wCons (wC (.str "a")) (wCons (wC (.int 0)) (wCons (wTup (wCons (wBin ixD (wVar 1) (wC (.int 0))) wNil)) (wCons (wTup (wCons (wBin ixD (wVar 1) (wC (.int 0))) (wCons (wTup wNil) (wCons (wBin ixD (wVar 1) (wC (.int 1))) wNil)))) (wCons (wTup (wCons (wBin ixD (wVar 1) (wC (.int 0))) (wCons (wTup (wCons (wBin ixD (wVar 1) (wC (.int 1))) wNil)) (wCons (wBin ixD (wVar 1) (wC (.int 1))) wNil)))) wNil))))))))))
def wx5 : DTE := (wBin addD (wGetD (wVar 2) (wVar 4)) (wLst (wCons (wCB tupC (wCons (wCallL Ph_law_some (wCons (wVar 0) (wCons (wVar 1) (wCons (wC (.int 1)) wNil)))) wNil)) wNil)))
def wb1 : DTS := (wSet true 3 (wBin addD (wBin addD (wVar 3) (wLc (wSq (wVar 5)) (wName 8) wYes (wTup (wCons (wVar 4) (wCons (wVar 5) (wCons (wVar 8) wNil)))) [8])) (wLst (wCons (wLst (wCons (wVar 4) (wCons (wVar 5) (wCons (wBin ixD (wVar 5) (wC (.int 0))) wNil)))) wNil))))
def wb2 : DTS := (wDrop (wAppend (wVar 3) (wTup (wCons (wVar 4) (wCons (wCB listC (wCons (wVar 5) wNil)) (wCons (wBin ixD (wVar 5) (wC (.int 0))) wNil))))))
def wb3 : DTS := (wSet true 3 (wBin addD (wVar 3) (wLst (wCons (wTup (wCons (wVar 4) (wCons (wVar 5) (wCons (wVar 4) wNil)))) (wCons (wCallL Ph_law_bent (wCons (wVar 0) (wCons (wTup (wCons (wVar 4) (wCons (wVar 5) (wCons (wBin ixD (wVar 5) (wUn negD (wC (.int 1)))) wNil)))) wNil))) wNil)))))
def wb6a : DTS := (wSet false 7 (wReprA (wVar 6)))
def wb6b : DTS := (wIfS (wOr (wNot (wTru (wCall Ph_law_same (wCons (wCallM Ph_shows_clash (wCons (wVar 2) (wCons (wVar 6) wNil))) (wCons (wCallM Ph_law_is_clash (wCons (wVar 2) (wCons (wVar 6) wNil))) wNil))))) (wB (wBin (eqD true) (wReprA (wVar 6)) (wVar 7)))) (wRet (wC (.bool false))) wNext)
def we7 : DTE := (wCB (allC fun bs => bs.all id) (wCons (wLc (wSq (wCallM Ph_law_clashes (wCons (wVar 2) wNil))) (wName 9) wYes (wBin (isND false) (wCallKM Ph_shows_clash [1, 0] (wCons (wVar 9) (wCons (wVar 2) wNil))) (wC (.bool true))) [9]) wNil))
/-- _law_right -/
noncomputable def w_law_right : DTS := (wSeq (wSet false 1 (wCallL Ph_law_names (wCons (wVar 0) (wCons (wBin addD (wC (.int 2)) (wCallL Ph_law_take (wCons (wVar 0) (wCons (wC (.int 4)) wNil)))) wNil))))
  (wSeq wk2
  (wSeq wk3
  (wSeq (wFor (wSq (wVar 1)) (wName 4) (wFor (wSq wx5) (wName 5) (wSeq wb1
  (wSeq wb2
  wb3))))
  (wSeq (wFor (wSq (wVar 3)) (wName 6) (wSeq wb6a
  wb6b))
  (wRet we7))))))
abbrev rhoR (ns : List Str) (j : Nat) (p4 p5 p6 p7 p8 p9 : Option R) : Rho := [some (.c 0), some (.d (nmL ns)), some (.c 1), some (.c j), p4, p5, p6, p7, p8, p9]
structure Fit (ns : List Str) (W : Wish) : Prop where
  hn : Names ns
  n2 : 2 ≤ ns.length
  n5 : ns.length ≤ 5
  ok : WishOk ns W
  few : ∀ z ∈ ns, (W z).length ≤ 9
structure Kp (κ : Kap) (bs : List PyData) (ns : List Str) (W : Wish) (j : Nat) (ms : List PyData) : Prop where
  h0 : κ[(0 : Nat)]? = some (.l bs)
  h1 : κ[(1 : Nat)]? = some (.m (mOf (wishE ns W)))
  hj : κ[j]? = some (.l ms)
  j2 : 2 ≤ j
  th : ∀ x ∈ ms, Th x
section
variable {ns : List Str} {W : Wish} {E : DEnds} {κ : Kap} {bs ms : List PyData} {N : Int} {j : Nat} {z : Str} {s : List Str} {p4 p5 p6 p7 p8 p9 : Option R} {x : PyData} {wa wb : DTE} {ρ : Rho}
theorem fine3 {r o : Str} {h : List Str} (hr : IsName r) (ho : IsName o) (hh : ∀ y ∈ h, IsName y) (l : h.length ≤ 5) (t u : Bool) : Fine 2 2 100 (seqD t [.str r, seqD u (h.map .str), .str o]) := by
  obtain ⟨a1, a2⟩ := name_fine hr
  obtain ⟨b1, b2⟩ := name_fine ho
  obtain ⟨c1, c2⟩ := strs_fine hh
  have f1 : Fine 2 0 6 (.str r) := fine_str a1 a2
  have f3 : Fine 2 0 6 (.str o) := fine_str b1 b2
  have f2 : Fine 2 1 35 (seqD u (h.map .str)) := fine_seqD u c1 (by omega)
  have w1 := f1.wt
  have w2 := f2.wt
  have w3 := f3.wt
  refine fine_seqD t (fun x hx => ?_) ?_
  · simp only [List.mem_cons, List.not_mem_nil, or_false] at hx
    rcases hx with rfl | rfl | rfl
    · exact ⟨f1.pl, Nat.le_trans f1.deep (by decide)⟩
    · exact ⟨f2.pl, f2.deep⟩
    · exact ⟨f3.pl, Nat.le_trans f3.deep (by decide)⟩
  · rw [PyData.weightAll, PyData.weightAll, PyData.weightAll, PyData.weightAll]
    omega
theorem th3 {r o : Str} {h : List Str} (hr : IsName r) (ho : IsName o) (hh : ∀ y ∈ h, IsName y) (l : h.length ≤ 5) (t u : Bool) : Th (seqD t [.str r, seqD u (h.map .str), .str o]) := (fine3 hr ho hh l t u).mono (by decide) (by decide) (by decide)
theorem noB_tri (t : Tri) : noB (triD t) = true := by
  unfold triD
  rw [noB, noBs_iff]
  intro x hx
  simp only [List.mem_cons, List.not_mem_nil, or_false] at hx
  rcases hx with rfl | rfl | rfl
  · rfl
  · show noB (.tuple (t.2.1.map .str)) = true
    rw [noB, noBs_iff]
    intro y hy
    obtain ⟨o, _, rfl⟩ := List.mem_map.mp hy
    rfl
  · rfl
theorem gv_mapT {α : Type} {f e : α → PyData} {l : List α} {g : DTG} {vs : List Nat} (h : Gv wa ρ κ (.tuple (l.map f))) (len : l.length ≤ 1000000)
    (step : ∀ x ∈ l, ∀ C : R → Kap → Prop, C (.d (e x)) κ → g (.d (f x)) (wipeR ρ vs) κ fun ρ1 κ1 => wb ρ1 κ1 C) : Gv (wLc (wSq wa) g wYes wb vs) ρ κ (.list (l.map e)) := fun Q k => by
  rw [s_lc, s_sq]
  refine h _ fun r hr => ?_
  rw [hr, val_d, Opt_some]
  dsimp only
  refine lc_map f e (by exact val_d ..) l [] (by rw [List.length_nil, sizeLine_eq]; omega) step ?_
  rw [List.nil_append]
  exact k _ rfl
theorem gv_tup3 {wc : DTE} {y u : PyData} (ha : Gv wa ρ κ x) (hb : Gv wb ρ κ y) (hc : Gv wc ρ κ u) : Gv (wTup (wCons wa (wCons wb (wCons wc wNil)))) ρ κ (.tuple [x, y, u]) := gv_tup (ga_cons ha (ga_cons hb (ga_cons hc ga_nil))) (by simp)
theorem gv_lst3 {wc : DTE} {y u : PyData} (ha : Gv wa ρ κ x) (hb : Gv wb ρ κ y) (hc : Gv wc ρ κ u) : Gv (wLst (wCons wa (wCons wb (wCons wc wNil)))) ρ κ (.list [x, y, u]) := gv_lst (ga_cons ha (ga_cons hb (ga_cons hc ga_nil))) (by simp)
/-- a hold that is asked of -/
structure Hd (ns : List Str) (s : List Str) : Prop where
  nm : ∀ y ∈ s, IsName y
  l1 : 1 ≤ s.length
  l5 : s.length ≤ 5
theorem Hd.first (h : Hd ns s) : ∃ a, a ∈ s ∧ ixD (strsD s) (.int 0) = some (.v (.str a)) := by
  have h := h.l1
  cases s with
  | nil => simp at h
  | cons a s => exact ⟨a, by simp, ixD_tuple (atI_nat (j := 0) rfl)⟩
theorem Hd.last (h : Hd ns s) : ∃ a, a ∈ s ∧ ixD (strsD s) (.int (-1)) = some (.v (.str a)) := by
  have h := h.l1
  rcases List.eq_nil_or_concat s with e | ⟨u, x, e⟩
  · rw [e] at h
    simp at h
  · rw [List.concat_eq_append] at e
    subst e
    refine ⟨x, by simp, ?_⟩
    show ixD (.tuple ((u ++ [x]).map .str)) _ = _
    rw [List.map_append]
    exact ixD_tuple (L2.atI_last _ _)
theorem step_b1 (hz : IsName z) (H : Hd ns s) (K : Kp κ bs ns W j ms) (lm : ms.length ≤ 900)
    (k : ∀ ms' , ms'.length ≤ ms.length + 6 → Kp (κ ++ [.l ms']) bs ns W κ.length ms' → E.nx (rhoR ns κ.length (some (.d (.str z))) (some (.d (strsD s))) p6 p7 p8 p9) (κ ++ [.l ms'])) :
    wb1 E (rhoR ns j (some (.d (.str z))) (some (.d (strsD s))) p6 p7 p8 p9) κ := by
  have l5 := H.l5
  obtain ⟨a, ha, e0⟩ := H.first
  have g8 : Gv (wLc (wSq (wVar 5)) (wName 8) wYes (wTup (wCons (wVar 4) (wCons (wVar 5) (wCons (wVar 8) wNil)))) [8]) (rhoR ns j (some (.d (.str z))) (some (.d (strsD s))) p6 p7 p8 p9) κ (.list (s.map fun o => .tuple [.str z, strsD s, .str o])) :=
    gv_mapT (f := PyData.str) (e := fun o => .tuple [.str z, strsD s, .str o]) (gv_var (i := 5) rfl) (by omega) fun o ho C hC => by
      rw [s_name]
      exact gv_tup3 (gv_var (i := 4) rfl) (gv_var (i := 5) rfl) (gv_var (i := 8) (x := .str o) rfl) _ fun r hr => by
        rw [st_tuple hr]
        exact hC
  have gl : Gv (wLst (wCons (wLst (wCons (wVar 4) (wCons (wVar 5) (wCons (wBin ixD (wVar 5) (wC (.int 0))) wNil)))) wNil)) (rhoR ns j (some (.d (.str z))) (some (.d (strsD s))) p6 p7 p8 p9) κ (.list [.list [.str z, strsD s, .str a]]) :=
    gv_lst1 (gv_lst3 (gv_var (i := 4) rfl) (gv_var (i := 5) rfl) (gv_bin (gv_var (i := 5) rfl) gv_c e0 rfl))
  have g1 := gw_bin (gw_c (i := 3) (j := j) rfl K.hj : Gw (wVar 3) (rhoR ns j (some (.d (.str z))) (some (.d (strsD s))) p6 p7 p8 p9) κ (.list ms)) (gw_gv g8) (addD_list (by rw [sizeLine_eq, List.length_map]; omega)) rfl
  unfold wb1
  rw [s_set]
  refine gf_bin (gw_gv g1) (gw_gv gl) (addD_list (by rw [sizeLine_eq, List.length_append, List.length_map, List.length_singleton]; omega)) ?_
  rw [sto_t]
  have l0 : j < κ.length := (List.getElem?_eq_some_iff.mp K.hj).1
  have j2 := K.j2
  refine k _ (by rw [List.length_append, List.length_append, List.length_map, List.length_singleton]; omega) ⟨by rw [List.getElem?_append_left (by omega)]; exact K.h0, by rw [List.getElem?_append_left (by omega)]; exact K.h1, by rw [List.getElem?_append_right (Nat.le_refl _), Nat.sub_self]; rfl, by omega, fun y hy => ?_⟩
  rcases List.mem_append.mp hy with h | h
  · rcases List.mem_append.mp h with h | h
    · exact K.th y h
    · obtain ⟨o, ho, rfl⟩ := List.mem_map.mp h
      exact th3 hz (H.nm o ho) H.nm l5 true true
  · rw [List.mem_singleton.mp h]
    exact th3 hz (H.nm a ha) H.nm l5 false true
theorem Kp.app (K : Kp κ bs ns W j ms) {y : PyData} (hy : Th y) : Kp (κ.set j (.l (ms ++ [y]))) bs ns W j (ms ++ [y]) := by
  have j2 := K.j2
  refine ⟨by rw [List.getElem?_set_ne (by omega)]; exact K.h0, by rw [List.getElem?_set_ne (by omega)]; exact K.h1, List.getElem?_set_self (List.getElem?_eq_some_iff.mp K.hj).1, j2, fun x hx => ?_⟩
  rcases List.mem_append.mp hx with h | h
  · exact K.th x h
  · rw [List.mem_singleton.mp h]
    exact hy
theorem Kp.box (K : Kp κ bs ns W j ms) (bs' : List PyData) : Kp (κ.set 0 (.l bs')) bs' ns W j ms := by
  have j2 := K.j2
  exact ⟨set0 K.h0, setj (by decide) K.h1, setj (by omega) K.hj, j2, K.th⟩
theorem step_b2 (hz : IsName z) (H : Hd ns s) (K : Kp κ bs ns W j ms) (lm : ms.length ≤ 1000)
    (k : ∀ ms' κ', ms'.length ≤ ms.length + 1 → Kp κ' bs ns W j ms' → E.nx (rhoR ns j (some (.d (.str z))) (some (.d (strsD s))) p6 p7 p8 p9) κ') :
    wb2 E (rhoR ns j (some (.d (.str z))) (some (.d (strsD s))) p6 p7 p8 p9) κ := by
  obtain ⟨a, ha, e0⟩ := H.first
  unfold wb2
  refine gv_app (i := 3) (j := j) rfl K.hj (gv_tup3 (gv_var (i := 4) rfl) (gv_listT (gv_var (i := 5) rfl)) (gv_bin (gv_var (i := 5) rfl) gv_c e0 rfl)) (by omega) ?_
  exact k _ _ (by rw [List.length_append, List.length_singleton]; omega) (K.app (th3 hz (H.nm a ha) H.nm H.l5 true false))
theorem step_b3 (hz : IsName z) (H : Hd ns s) (K : Kp κ bs ns W j ms) (lm : ms.length ≤ 1000) (hb : Box N bs) (hN : N ≤ 2 ^ 37)
    (k : ∀ ms' bs' κ' j', ms'.length ≤ ms.length + 2 → Kp κ' bs' ns W j' ms' → Box (N + 90) bs' → E.nx (rhoR ns j' (some (.d (.str z))) (some (.d (strsD s))) p6 p7 p8 p9) κ') :
    wb3 E (rhoR ns j (some (.d (.str z))) (some (.d (strsD s))) p6 p7 p8 p9) κ := by
  have hsz := sizeLine_eq
  obtain ⟨a, ha, e0⟩ := H.last
  have gt : Gv (wTup (wCons (wVar 4) (wCons (wVar 5) (wCons (wVar 4) wNil)))) (rhoR ns j (some (.d (.str z))) (some (.d (strsD s))) p6 p7 p8 p9) κ (.tuple [.str z, strsD s, .str z]) := gv_tup3 (gv_var (i := 4) rfl) (gv_var (i := 5) rfl) (gv_var (i := 4) rfl)
  have gu : Gv (wTup (wCons (wVar 4) (wCons (wVar 5) (wCons (wBin ixD (wVar 5) (wUn negD (wC (.int 1)))) wNil)))) (rhoR ns j (some (.d (.str z))) (some (.d (strsD s))) p6 p7 p8 p9) κ (.tuple [.str z, strsD s, .str a]) := gv_tup3 (gv_var (i := 4) rfl) (gv_var (i := 5) rfl) (gv_bin (gv_var (i := 5) rfl) gv_neg1 e0 rfl)
  unfold wb3
  rw [s_set, s_bin, s_var]
  simp only [List.getElem?_cons_succ, List.getElem?_cons_zero]
  rw [s_lst, s_cons]
  refine gt _ fun r hr => ?_
  rw [s_cons]
  refine box_call (ys := [.tuple [.str z, strsD s, .str a]]) rfl K.h0 (gc_cons gu gc_nil) (ph_bent3 (b := 2) (d := 2) (s := 100) hb (by omega) (fine3 hz (H.nm a ha) H.nm H.l5 true true) (noB_tri (z, s, a)) (by decide) (by decide) (by decide) (by decide) fun q y bs1 hq fy hb1 => ?_)
  rw [s_nil, hr, lab_st hq, dats_d, dats_d, dats_nil]
  dsimp only
  rw [Opt_some]
  dsimp only
  have K1 := K.box bs1
  refine ⟨by rw [hsz]; simp, ?_⟩
  rw [st_c, val_c K1.hj, Opt_some, st_f, val_d, Opt_some, addD_list (by rw [hsz]; simp; omega), Opt_some]
  show E.nx _ _
  rw [show (Out.n (ms ++ [PyData.tuple [.str z, strsD s, .str z], y])).r = .f (ms ++ [PyData.tuple [.str z, strsD s, .str z], y]) from rfl, sto_t]
  have l0 : j < (κ.set 0 (.l bs1)).length := (List.getElem?_eq_some_iff.mp K1.hj).1
  have j2 := K1.j2
  generalize κ.set 0 (.l bs1) = κ1 at K1 l0 ⊢
  refine k (ms ++ [PyData.tuple [.str z, strsD s, .str z], y]) bs1 _ _ (by simp) ⟨by rw [List.getElem?_append_left (by omega)]; exact K1.h0, by rw [List.getElem?_append_left (by omega)]; exact K1.h1, by rw [List.getElem?_append_right (Nat.le_refl _), Nat.sub_self]; rfl, by omega, fun u hu => ?_⟩ hb1
  rcases List.mem_append.mp hu with h | h
  · exact K.th u h
  · simp only [List.mem_cons, List.not_mem_nil, or_false] at h
    rcases h with rfl | rfl
    · exact th3 hz hz H.nm H.l5 true true
    · exact fy.mono (by decide) (by decide) (by decide)
theorem loop5 {ok : Kap → Prop} (hok : ∀ κ, ok κ) (hz : IsName z) : ∀ (hs : List (List Str)) (ms bs : List PyData) (κ : Kap) (j : Nat) (N : Int) (p5 : Option R), (∀ s ∈ hs, Hd ns s) → ms.length + 9 * hs.length ≤ 900 → Kp κ bs ns W j ms → Box N bs → N + 90 * (hs.length : Int) ≤ 2 ^ 36 →
    (∀ ms' bs' κ' j' p5, ms'.length ≤ ms.length + 9 * hs.length → Kp κ' bs' ns W j' ms' → Box (N + 90 * (hs.length : Int)) bs' → E.nx (rhoR ns j' (some (.d (.str z))) p5 p6 p7 p8 p9) κ') →
    forL ok (wName 5) (wSeq wb1 (wSeq wb2 wb3)) E (hs.map strsD) (rhoR ns j (some (.d (.str z))) p5 p6 p7 p8 p9) κ
  | [], ms, bs, κ, j, N, p5, _, _, K, hb, _, k => by
    rw [List.map_nil, forL_nil]
    exact k ms bs κ j p5 (by simp) K (by simpa using hb)
  | s :: hs, ms, bs, κ, j, N, p5, H, lm, K, hb, hN, k => by
    simp only [List.length_cons] at lm hN k
    have Hs := H s (List.mem_cons_self ..)
    rw [List.map_cons, forL_cons, s_name]
    simp only [List.set_cons_succ, List.set_cons_zero]
    rw [s_seq]
    refine step_b1 hz Hs K (by omega) fun ms1 l1 K1 => ?_
    dsimp only
    rw [s_seq]
    refine step_b2 hz Hs K1 (by omega) fun ms2 κ2 l2 K2 => ?_
    dsimp only
    refine step_b3 hz Hs K2 (by omega) hb (by omega) fun ms3 bs3 κ3 j3 l3 K3 hb3 => ⟨hok _, ?_⟩
    exact loop5 hok hz hs ms3 bs3 κ3 j3 (N + 90) _ (fun t ht => H t (List.mem_cons_of_mem _ ht)) (by omega) K3 hb3 (by omega) fun ms' bs' κ' j' p5 q1 q2 q3 => k ms' bs' κ' j' p5 (by omega) q2 (q3.mono (by omega))
theorem holds_of (F : Fit ns W) (hz : z ∈ ns) : ∀ s ∈ W z, Hd ns s := fun s hs => by
  obtain ⟨h1, _, h3⟩ := F.ok.sub z hz s hs
  have := h1.length_le
  exact ⟨fun y hy => F.hn.1 y (h1.subset hy), h3, by have := F.n5; omega⟩
theorem step4 (F : Fit ns W) (hz : z ∈ ns) (K : Kp κ bs ns W j ms) (lm : ms.length ≤ 800) (hb : Box N bs) (hN : N ≤ 2 ^ 35)
    (k : ∀ ms' bs' κ' j' p5, ms'.length ≤ ms.length + 90 → Kp κ' bs' ns W j' ms' → Box (N + 2000) bs' → E.nx (rhoR ns j' (some (.d (.str z))) p5 p6 p7 p8 p9) κ') :
    wFor (wSq wx5) (wName 5) (wSeq wb1 (wSeq wb2 wb3)) E (rhoR ns j (some (.d (.str z))) p5 p6 p7 p8 p9) κ := by
  have n5 := F.n5
  have n2 := F.n2
  have few := F.few z hz
  rw [s_for, s_sq]
  unfold wx5
  rw [s_bin]
  refine gv_wish (i := 2) (j := 4) (k := 1) rfl rfl K.h1 hz _ fun r hr => ?_
  rw [s_lst, s_cons, s_cb, s_cons]
  refine box_call (ys := [nmL ns, .int ((1 : Nat) : Int)]) rfl K.h0 (gc_cons (gv_var (i := 1) rfl) (gc_cons gv_c gc_nil)) ⟨N, ns, 1, hb, by omega, rfl, by omega, by omega, F.hn, fun s bs1 hs s1 s2 s3 hb1 => ?_⟩
  dsimp only
  rw [s_nil]
  show Opt (some [PyData.list (s.map .str)]) _
  rw [Opt_some, tupC_list, Opt_some, s_nil]
  show Opt (some ([PyData.tuple (s.map .str)], _)) _
  rw [Opt_some]
  dsimp only
  refine ⟨by rw [sizeLine_eq]; simp, ?_⟩
  have ea : addD (.list ((W z).map strsD)) (.list [.tuple (s.map .str)]) = some (.n ((W z ++ [s]).map strsD)) := by
    rw [List.map_append]
    exact addD_list (by rw [sizeLine_eq, List.length_map, List.length_singleton]; omega)
  rw [hr, val_d, Opt_some, st_f, val_d, Opt_some, ea, Opt_some]
  show Opt (some (PyData.list ((W z ++ [s]).map strsD))) _
  rw [Opt_some]
  dsimp only
  have Hs : Hd ns s := ⟨fun y hy => F.hn.1 y (s3 y hy), s1, by omega⟩
  have la : (W z ++ [s]).length ≤ 10 := by rw [List.length_append, List.length_singleton]; omega
  refine loop5 (fun κ => rfl) (F.hn.1 z hz) (W z ++ [s]) ms bs1 _ j (N + 1001) p5 (fun t ht => ?_) (by omega) (K.box bs1) hb1 (by omega) fun ms' bs' κ' j' p5 q1 q2 q3 => k ms' bs' κ' j' p5 (by omega) q2 (q3.mono (by omega))
  rcases List.mem_append.mp ht with h | h
  · exact holds_of F hz t h
  · rw [List.mem_singleton.mp h]
    exact Hs
theorem loop4 {ok : Kap → Prop} (hok : ∀ κ, ok κ) (F : Fit ns W) : ∀ (zs : List Str) (ms bs : List PyData) (κ : Kap) (j : Nat) (N : Int) (p4 p5 : Option R), (∀ z ∈ zs, z ∈ ns) → ms.length + 90 * zs.length ≤ 800 → Kp κ bs ns W j ms → Box N bs → N + 2000 * (zs.length : Int) ≤ 2 ^ 34 →
    (∀ ms' bs' κ' j' p4 p5, ms'.length ≤ 800 → Kp κ' bs' ns W j' ms' → Box (N + 2000 * (zs.length : Int)) bs' → E.nx (rhoR ns j' p4 p5 p6 p7 p8 p9) κ') →
    forL ok (wName 4) (wFor (wSq wx5) (wName 5) (wSeq wb1 (wSeq wb2 wb3))) E (zs.map .str) (rhoR ns j p4 p5 p6 p7 p8 p9) κ
  | [], ms, bs, κ, j, N, p4, p5, _, lm, K, hb, _, k => by
    rw [List.map_nil, forL_nil]
    exact k ms bs κ j p4 p5 (by simpa using lm) K (by simpa using hb)
  | z :: zs, ms, bs, κ, j, N, p4, p5, H, lm, K, hb, hN, k => by
    simp only [List.length_cons] at lm hN k
    rw [List.map_cons, forL_cons, s_name]
    simp only [List.set_cons_succ, List.set_cons_zero]
    refine step4 F (H z (List.mem_cons_self ..)) K (by omega) hb (by omega) fun ms1 bs1 κ1 j1 p5 l1 K1 hb1 => ⟨hok _, ?_⟩
    exact loop4 hok F zs ms1 bs1 κ1 j1 (N + 2000) _ _ (fun y hy => H y (List.mem_cons_of_mem _ hy)) (by omega) K1 hb1 (by omega) fun ms' bs' κ' j' p4 p5 q1 q2 q3 => k ms' bs' κ' j' p4 p5 q1 q2 (q3.mono (by omega))
theorem gv_callM {Φ : List MEnt → List R → (R → Prop) → Prop} {i k : Nat} {es : List MEnt} {y : PyData} (h1 : ρ[i]? = some (some (.c k))) (ha : Gv wa ρ κ x) (h2 : κ[k]? = some (.m (mOf es))) (hΦ : ∀ P : R → Prop, P (.d y) → Φ es [.d x] P) : Gv (wCallM Φ (wCons (wVar i) (wCons wa wNil))) ρ κ y := fun Q kk => by
  rw [s_callM, s_cons, s_var, h1]
  dsimp only
  rw [s_cons]
  refine ha _ fun r hr => ?_
  rw [s_nil, hr]
  show Opt (some ([R.d x], κ)) _
  rw [Opt_some]
  exact ⟨es, h2, hΦ _ (kk _ rfl)⟩
theorem body6 (F : Fit ns W) (t : Th x) (h1 : κ[(1 : Nat)]? = some (.m (mOf (wishE ns W)))) (k : ∀ p7, E.nx (rhoR ns j p4 p5 (some (.d x)) p7 p8 p9) κ) : (wSeq wb6a wb6b) E (rhoR ns j p4 p5 (some (.d x)) p7 p8 p9) κ := by
  have tl : TellOk x := t.tell (by decide) (by decide) (by decide)
  have n5 := F.n5
  have gr : ∀ p7, Gv (wReprA (wVar 6)) (rhoR ns j p4 p5 (some (.d x)) p7 p8 p9) κ (.str (tellS x)) := fun p7 => gv_reprA (gv_var (i := 6) rfl) tl
  rw [s_seq]
  unfold wb6a
  refine set_gv (gr _) ?_
  dsimp only
  unfold wb6b
  have g1 : Gv (wCallM Ph_shows_clash (wCons (wVar 2) (wCons (wVar 6) wNil))) (rhoR ns j p4 p5 (some (.d x)) (some (.d (.str (tellS x)))) p8 p9) κ (.bool (clashB ns W x)) := gv_callM (i := 2) (k := 1) rfl (gv_var (i := 6) rfl) h1 fun P kk => ⟨ns, W, x, rfl, rfl, F.hn, by omega, F.ok, t, kk⟩
  have g2 : Gv (wCallM Ph_law_is_clash (wCons (wVar 2) (wCons (wVar 6) wNil))) (rhoR ns j p4 p5 (some (.d x)) (some (.d (.str (tellS x)))) p8 p9) κ (.bool (clashB ns W x)) := gv_callM (i := 2) (k := 1) rfl (gv_var (i := 6) rfl) h1 fun P kk => ⟨ns, W, x, rfl, rfl, F.hn, by omega, F.ok, t, kk⟩
  have ee := eqD_ss true (tellS x) (tellS x)
  refine pass_gv ?_ (k _)
  exact tv_or (b := false) (c := false) (tv_same g1 g2 trivial) fun _ => tv_B (gv_bin (gr _) (gv_var (i := 7) rfl) ee (by simp))
theorem loop6 {ok : Kap → Prop} (hok : ok κ) (F : Fit ns W) (h1 : κ[(1 : Nat)]? = some (.m (mOf (wishE ns W)))) (k : ∀ p6 p7, E.nx (rhoR ns j p4 p5 p6 p7 p8 p9) κ) : ∀ (xs : List PyData) (p6 p7 : Option R), (∀ x ∈ xs, Th x) →
    forL ok (wName 6) (wSeq wb6a wb6b) E xs (rhoR ns j p4 p5 p6 p7 p8 p9) κ
  | [], p6, p7, _ => by
    rw [forL_nil]
    exact k p6 p7
  | x :: xs, p6, p7, h => by
    rw [forL_cons, s_name]
    simp only [List.set_cons_succ, List.set_cons_zero]
    exact body6 F (h x (List.mem_cons_self ..)) h1 fun p7 => ⟨hok, loop6 hok F h1 k xs _ p7 fun y hy => h y (List.mem_cons_of_mem _ hy)⟩
open Classical in
theorem ret7 (F : Fit ns W) (h1 : κ[(1 : Nat)]? = some (.m (mOf (wishE ns W)))) : Gv we7 (rhoR ns j p4 p5 p6 p7 p8 p9) κ (.bool true) := by
  have n5 := F.n5
  have lc := clashL_len (show ns.length ≤ 8 by omega) F.ok
  have g1 : Gv (wCallM Ph_law_clashes (wCons (wVar 2) wNil)) (rhoR ns j p4 p5 p6 p7 p8 p9) κ (.list ((clashL ns W).map triD)) := fun Q k => by
    rw [s_callM, s_cons, s_var]
    simp only [List.getElem?_cons_succ, List.getElem?_cons_zero]
    rw [s_nil]
    show Opt (some (([] : List R), κ)) _
    rw [Opt_some]
    exact ⟨wishE ns W, h1, ns, W, rfl, rfl, F.hn, by omega, F.ok, k _ rfl⟩
  have g2 : Gv (wLc (wSq (wCallM Ph_law_clashes (wCons (wVar 2) wNil))) (wName 9) wYes (wBin (isND false) (wCallKM Ph_shows_clash [1, 0] (wCons (wVar 9) (wCons (wVar 2) wNil))) (wC (.bool true))) [9]) (rhoR ns j p4 p5 p6 p7 p8 p9) κ (.list ((clashL ns W).map fun _ => .bool true)) := gv_lcm (f := triD) (e := fun _ => .bool true) g1 (by omega) fun t ht C hC => by
    rw [s_name]
    have tt : Th (triD t) := by
      obtain ⟨q1, q2, q3, _⟩ := clash_mem.mp ht
      have H := holds_of F q1 _ q2
      exact th3 (F.hn.1 _ q1) (H.nm _ q3) H.nm H.l5 true true
    have cb : clashB ns W (triD t) = true := by
      unfold clashB
      exact decide_eq_true ⟨t, ht, rfl⟩
    have g : Gv (wCallKM Ph_shows_clash [1, 0] (wCons (wVar 9) (wCons (wVar 2) wNil))) (rhoR ns j p4 p5 p6 p7 p8 (some (.d (triD t)))) κ (.bool true) := fun Q kk => by
      rw [s_callKM, s_cons, s_var]
      simp only [List.getElem?_cons_succ, List.getElem?_cons_zero]
      rw [s_cons, s_var]
      simp only [List.getElem?_cons_succ, List.getElem?_cons_zero]
      rw [s_nil]
      show Opt (some ([R.d (triD t)], κ)) _
      rw [Opt_some]
      exact ⟨wishE ns W, h1, ns, W, _, rfl, rfl, F.hn, by omega, F.ok, tt, by rw [cb]; exact kk _ rfl⟩
    exact ret_gvB (gv_isT g) hC
  have := gv_all (f := fun _ : Tri => true) (l := clashL ns W) g2
  rw [show (clashL ns W).all (fun _ => true) = true by simp] at this
  exact this
end
def Ph_law_right (bs : List PyData) (rs : List R) (P : R → List PyData → Prop) : Prop := ∃ N : Int, Box N bs ∧ N ≤ 2 ^ 30 ∧ rs = [] ∧ ∀ bs', Box (N + 30000) bs' → P (.d (.bool true)) bs'
theorem things_ok {a b : Str} (ha : IsName a) (hb : IsName b) : ∀ x ∈ [PyData.none, .tuple [], .list [], .str "a", .int 0, .tuple [.str a], .tuple [.str a, .tuple [], .str b], .tuple [.str a, .tuple [.str b], .str b]], Th x := fun x hx => by
  have small : ∀ y : PyData, oddB y = true → Th y := fun y hy => (odd_fine hy).mono (by decide) (by decide) (by decide)
  simp only [List.mem_cons, List.not_mem_nil, or_false] at hx
  rcases hx with rfl | rfl | rfl | rfl | rfl | rfl | rfl | rfl
  · exact small _ (by decide)
  · exact small _ (by decide)
  · exact small _ (by decide)
  · exact small _ (by decide +kernel)
  · exact small _ (by decide)
  · obtain ⟨c1, c2⟩ := strs_fine (ss := [a]) fun z hz => by rw [List.mem_singleton.mp hz]; exact ha
    exact Fine.mono (fine_tuple c1 c2) (by decide) (by decide) (by simp)
  · exact th3 ha hb (h := []) (fun _ h => nomatch h) (by decide) true true
  · exact th3 ha hb (h := [b]) (fun z hz => by rw [List.mem_singleton.mp hz]; exact hb) (by simp) true true
theorem wish_mH (ns : List Str) (W : Wish) : mH (wishH ns W) = mOf (wishE ns W) := by
  unfold mH mOf wishE
  rw [List.map_map, List.map_map]
  rfl
theorem step3 {ns : List Str} {W : Wish} {E : DEnds} {bs : List PyData} {p3 p4 p5 p6 p7 p8 p9 : Option R} (F : Fit ns W)
    (k : ∀ ms κ, ms.length ≤ 8 → Kp κ bs ns W 2 ms → E.nx (rhoR ns 2 p4 p5 p6 p7 p8 p9) κ) :
    wk3 E [some (.c 0), some (.d (nmL ns)), some (.c 1), p3, p4, p5, p6, p7, p8, p9] [.l bs, .m (mOf (wishE ns W))] := by
  have n2 := F.n2
  have hn := F.hn
  match ns, n2, hn, k with
  | a :: b :: r, _, hn, k =>
    have g0 : ∀ κ, Gv (wBin ixD (wVar 1) (wC (.int 0))) [some (.c 0), some (.d (nmL (a :: b :: r))), some (.c 1), p3, p4, p5, p6, p7, p8, p9] κ (.str a) := fun κ => gv_bin (gv_var (i := 1) rfl) gv_c (ixD_list (atI_nat (j := 0) rfl)) rfl
    have g1 : ∀ κ, Gv (wBin ixD (wVar 1) (wC (.int 1))) [some (.c 0), some (.d (nmL (a :: b :: r))), some (.c 1), p3, p4, p5, p6, p7, p8, p9] κ (.str b) := fun κ => gv_bin (gv_var (i := 1) rfl) gv_c (ixD_list (atI_nat (j := 1) rfl)) rfl
    have gT : ∀ {ρ : Rho} {κ : Kap}, Gv (wTup wNil) ρ κ (.tuple []) := gv_tup ga_nil (by decide)
    have th := things_ok (hn.1 a (by simp)) (hn.1 b (by simp))
    unfold wk3
    refine set_cell (xs := [PyData.none, .tuple [], .list [], .str "a", .int 0, .tuple [.str a], .tuple [.str a, .tuple [], .str b], .tuple [.str a, .tuple [.str b], .str b]]) (ga_cons gv_c (ga_cons gT (ga_cons gv_lst0 (ga_cons gv_c (ga_cons gv_c (ga_cons (gv_tup (ga_cons (g0 _) ga_nil) (by simp)) (ga_cons (gv_tup3 (g0 _) gT (g1 _)) (ga_cons (gv_tup3 (g0 _) (gv_tup (ga_cons (g1 _) ga_nil) (by simp)) (g1 _)) ga_nil)))))))) (by simp) ?_
    generalize hms : [PyData.none, .tuple [], .list [], .str "a", .int 0, .tuple [.str a], .tuple [.str a, .tuple [], .str b], .tuple [.str a, .tuple [.str b], .str b]] = ms at *
    exact k ms _ (by rw [← hms]; simp) ⟨rfl, rfl, rfl, by decide, th⟩
theorem r_law_right (bs : List PyData) (rs : List R) (Pd : R → List PyData → Prop) (h : Ph_law_right bs rs Pd) (hl : rs.length = 0) : w_law_right { nx := fun _ κ => endL κ (.d .none) Pd, rt := fun r κ => endL κ r Pd } (some (.c 0) :: (rs.map some ++ List.replicate 9 none)) [.l bs] := by
  obtain ⟨N, hb, hN, rfl, k⟩ := h
  clear hl
  simp only [List.map_nil, List.replicate_succ, List.replicate_zero, List.cons_append, List.nil_append]
  unfold w_law_right
  rw [s_seq, s_set]
  refine s_names (a := 2) (b := 4) rfl hb (by omega) (by decide) (by decide) fun ns bs1 n2 n6 hn hb1 => ?_
  simp only [s_callL, s_call, s_cons, s_consM, s_nil, s_c, s_var, s_bin, s_un, s_lst, s_tup, s_cb, s_B, s_tru, s_not, s_repr, List.getElem?_cons_succ, List.getElem?_cons_zero, List.set_cons_succ, List.set_cons_zero, st_d, st_f, st_c, val_d, val_f, dats_d, dats_nil, vals_cons, vals_nil, lend_c, args_d, DL.args_nil, Opt_some, out_v, out_n, out_t, lab_d, lab_f, sto_f, sto_d, List.length_cons, List.length_nil, lenD_list, lenD_tuple, listC_list, listC_tuple, tupC_list, tupC_tuple, istt, istf, Bool.not_true, Bool.not_false, Bool.false_eq_true, if_false, if_true]
  rw [s_seq]
  unfold wk2
  rw [s_set, s_callLN, s_cons, s_var]
  simp only [List.getElem?_cons_zero]
  rw [s_cons, s_var]
  simp only [List.getElem?_cons_succ, List.getElem?_cons_zero]
  rw [s_nil]
  show Opt (some (0, bs1, [R.d (nmL ns)], [Cell.l bs1])) _
  rw [Opt_some]
  refine ⟨N + 201, ns, hb1, by omega, rfl, hn, n2, by omega, fun W bs2 ok low few hb2 => ?_⟩
  have F : Fit ns W := ⟨hn, n2, by omega, ok, few⟩
  dsimp only
  rw [DL.sto_c, wish_mH]
  dsimp only
  rw [s_seq]
  refine step3 F fun ms κ lm K => ?_
  dsimp only
  rw [s_seq]
  refine for_sq (xs := ns.map .str) (gv_var (i := 1) rfl) fun o hok => ?_
  refine loop4 hok F ns ms bs2 κ 2 (N + 9201) none none (fun z hz => hz) (by omega) K (hb2.mono (by omega)) (by omega) fun ms' bs' κ' j' p4 p5 lm' K' hb' => ?_
  dsimp only
  rw [s_seq, s_for, s_sq, s_var]
  simp only [List.getElem?_cons_succ, List.getElem?_cons_zero]
  rw [st_c, val_c K'.hj, Opt_some]
  dsimp only
  refine loop6 (val_c K'.hj) F K'.h1 (fun p6 p7 => ?_) ms' none none K'.th
  dsimp only
  rw [s_ret]
  refine ret_gvB (ret7 F K'.h1) ?_
  exact endL_x K'.h0 (k bs' (hb'.mono (by omega)))
abbrev Ph_law := SH.Ph_law
/-- law -/
def w_law : DTS := (wSeq (wFor (wRng1 (wCons (wCB max2D (wCons (wC (.int 1)) (wCons (wCB min2D (wCons (wC (.int 3)) (wCons (wLenS (wVar 0)) wNil))) wNil))) wNil)) (wName 1) (wSeq (wSet true 2 (wCall Ph_law_box (wCons (wVar 0) (wCons (wVar 1) wNil))))
  (wIfS (wOr (wNot (wTru (wCallL Ph_law_right (wCons (wVar 2) wNil)))) (wNot (wTru (wCallL Ph_law_right (wCons (wVar 2) wNil))))) (wRet (wC (.bool false))) wNext)))
  (wRet (wC (.bool true))))
theorem r_law (rs : List R) (Pd : R → Prop) (h : Ph_law rs Pd) (hl : rs.length = 1) : w_law { nx := fun _ _ => Pd (.d .none), rt := fun r κ => Opt (outR κ 0 r) Pd } (rs.map some ++ List.replicate 2 none) [] :=
  r_max3 (M := 3) (by decide) (fun hi k => law_bodyD (c := 30000) (Ph := Ph_law_right) ⟨by decide, by decide, fun N bs Q hb h0 hN hQ => ⟨N, hb, hN, rfl, hQ⟩⟩ hi k) rs Pd h hl
end K46
namespace DL
open PySem PySem.Spec PyProof.Rows L2
/-- what is tracked of the script: nothing, or the script as it stands -/
theorem script_heap {P : Program} {w : World} {K : PySem.W.Frag} {s : Shared} {a : Addr} {vs : List Value} {ns : List Int} (KX : K.In s.heap) (ha : s.heap.get? a = some { cls := .type "list", data := .seq vs.toArray }) (hi : IntsAre vs ns) (hl : ns.length ≤ sizeLine) :
    ∃ H : Hp, Only H ∧ SqL K H a (ns.map V.int) ∧ HOk P w H s.heap ∧ ∀ b, H b ≠ none → b = a ∧ K.lookup b = none := by
  have rv := vals_ints hi
  cases q : K.lookup a with
  | none =>
    let o : Obj := { cls := .type "list", data := .seq vs.toArray }
    have at_a : upd (fun _ => none) a (HO.frz o (.lst (ns.map V.int))) a = some (.frz o (.lst (ns.map V.int))) := upd_same
    have off : ∀ b, b ≠ a → upd (fun _ => none) a (HO.frz o (.lst (ns.map V.int))) b = none := fun b h => by rw [upd_ne h]
    refine ⟨upd (fun _ => none) a (.frz o (.lst (ns.map V.int))), fun b => ?_, .inl (.inr ⟨o, at_a⟩), fun b u z => ?_, fun b z => ?_⟩
    · by_cases h : b = a
      · rw [h]; exact .inr ⟨o, _, at_a⟩
      · exact .inl (off b h)
    · by_cases h : b = a
      · subst h
        rw [at_a] at z
        cases z
        exact ⟨ha, by rw [List.length_map]; exact hl, vs, _, rv, ha⟩
      · rw [off b h] at z
        cases z
    · by_cases h : b = a
      · exact ⟨h, by rw [h]; exact q⟩
      · exact absurd (off b h) z
  | some o =>
    have e := KX a o q
    rw [ha] at e
    cases e
    refine ⟨fun _ => none, fun _ => .inl rfl, .inr ⟨_, vs.toArray, _, q, rfl, rfl, rfl, ?_, ?_⟩, (fun b u z => by
      have z' : (none : Option HO) = some u := z
      cases z'), fun b z => absurd rfl z⟩
    · rw [List.size_toArray, hi.length]; exact hl
    · simpa using rv
theorem law_goG {P : Program} {w : World} {K : PySem.W.Frag} {mg mb : Str → Option Value} {k : Nat} {fa a : Addr} {fd : FuncData} {x : Str} {sp : Sp} {s : Shared} {vs : List Value} {ns : List Int} (KX : K.In s.heap) (hns : s.heap.Ns mainGlobals mg) (hb : s.heap.Ns builtinsNs mb) (hbb : ∀ x : Str, x ≠ "__name__" → mb x = bootBuiltins x) (hlim : s.heap.NoLimit) (hg : s.gens = #[])
    (ha : s.heap.get? a = some { cls := .type "list", data := .seq vs.toArray }) (hi : IntsAre vs ns) (hl : ns.length ≤ sizeLine) (hr : RoomG k callerA) (F : ∀ base : Heap, K.In base → base.Ns mainGlobals mg → FnG P w K mg base CX0 k fa fd [x] sp) (bnd : ∀ (s : Shared) (u : Value), BindsTo s fd ⟨[u], []⟩ [(x, u)])
    (hsp : ∀ H : Hp, Only H → SqL K H a (ns.map V.int) → sp [.ref a] H (fun v _ => v = .bl true) fun _ _ _ => False) :
    codeAny (model P w) callerA (.call (.ref fa) ⟨[.ref a], []⟩) (fun r s' => r = .ok (.ret (.bool true)) ∧ OldK s.heap s'.heap ∧ s'.os = s.os ∧ AllBare s'.gens) s := by
  obtain ⟨H, only, sq, hok, few⟩ := script_heap (P := P) (w := w) KX ha hi hl
  have free : ∀ b, (b ≠ a ∨ K.lookup b ≠ none) → H b = none := fun b h => by
    cases q : H b with
    | none => rfl
    | some u =>
      obtain ⟨e1, e2⟩ := few b (by rw [q]; exact fun z => nomatch z)
      rcases h with h | h
      · exact absurd e1 h
      · exact absurd e2 h
  have inB : K.In (hidT s.heap H) := fun b o e => hidT_get (KX b o e) (free b (.inr (by rw [e]; exact fun z => nomatch z)))
  have dictB : ∀ {b : Addr} {o : Obj} {es : Array DictEntry} {ep : Nat}, s.heap.get? b = some o → o.data = .dict es ep → (hidT s.heap H).get? b = some o := fun {b o es ep} e d => hidT_get e (free b (.inl fun z => by
    subst z
    rw [ha] at e
    cases e
    cases d))
  have nsB : ∀ {b : Addr} {m : Str → Option Value}, s.heap.Ns b m → (hidT s.heap H).Ns b m := fun {b m} n => by
    obtain ⟨o, es, ep, e, d, r⟩ := n
    exact ⟨o, es, ep, dictB e d, d, r⟩
  obtain ⟨mc, l1, l2⟩ := hlim
  have e0 : Env0 P w K mg (hidT s.heap H) callerA [] s H := ⟨rfl, ⟨inB, nsB hns, ⟨mb, nsB hb, hbb⟩, ⟨mc, nsB l1, l2⟩⟩, fun b o e => of_hidT e, Nat.le_of_eq (hidT_size _ _), trivial, fun b z => absurd (show b ∈ ([] : List Addr) from z) (List.not_mem_nil), hok, .of_eq hg⟩
  apply codeAny_mono ((F _ inB (nsB hns)).go callerA [] s H ⟨[.ref a], []⟩ [.ref a] [.ref a] _ _ hr e0 (bnd s (.ref a)) (.cons rfl .nil) (hsp H only sq))
  intro r s' z
  cases r with
  | error e => exact z.elim
  | ok fl =>
    cases fl with
    | ret u =>
      obtain ⟨v, H', os, bare, un, hok', rv, rfl⟩ := z
      have eu : u = Value.bool true := rv
      subst eu
      refine ⟨rfl, OldK.of_keep fun b o e => ?_, os, bare⟩
      rcases only b with n | ⟨ob, xs, n⟩
      · exact un.keep b o e n (fun z => absurd (show b ∈ ([] : List Addr) from z) List.not_mem_nil) (by simp)
      · have q1 := (hok b _ n).1
        have q2 := (hok' b _ (un.frzs b ob _ n)).1
        rw [e] at q1
        cases q1
        exact q2
    | _ => exact z.elim
theorem walkG {l : PySem.W.OpenLaw} {n k : Nat} {q : Program} {loose : List Str} {XP : (Str → Option Value) → Heap → Prop} {YP : World → Heap → Prop} {d : DefRec} {K : Params → PySem.W.Frag} {x : Str} {Φ : List R → (R → Prop) → Prop}
    (hn : l.most = some n) (hn2 : n ≤ sizeLine) (hdf : d.params.defaults = []) (hr : Room k callerA) (hT : ∀ w : World, tabsOf (K w.params) = []) (hY : ∀ (w : World) (h : Heap), YP w h → (K w.params).In h)
    (F : ∀ (w : World) (mg : Str → Option Value) (fa : Addr) (h : Heap), (K w.params).In h → h.Ns mainGlobals mg → mg d.name = some (.ref fa) →
      ∃ fd : FuncData, (∀ (s : Shared) (u : Value), BindsTo s fd ⟨[u], []⟩ [(x, u)]) ∧ ∀ base : Heap, (K w.params).In base → base.Ns mainGlobals mg → FnG l.prog w (K w.params) mg base CX0 k fa fd [x] (spD (K w.params) 1 Φ))
    (hΦ : ∀ ns : List Int, ns.length ≤ n → Φ [.s ns] fun r => r = .d (.bool true)) :
    PySem.W.WalkO q loose XP YP l.row.toRowW d [] (fun f vs => PySem.call f vs) := by
  refine Att.attach_call hn hdf fun w s₀ s₁ mg mb fa o pm cd doc a vs ns G Y ho hd hcd hmg hobj hints hlen hg => ?_
  obtain ⟨fd, bnd, FF⟩ := F w mg fa _ (hY w _ Y) G.T.g hmg
  refine law_goG (hY w _ Y) G.T.g G.T.b G.T.builtins G.T.nolimit hg hobj hints (Nat.le_trans hlen hn2) (room_callerG hr) FF bnd fun H only hS => ?_
  refine ⟨rfl, H, [.s ns], fun r => r = .d (.bool true), ⟨Ex.refl H, fun P hP => by rw [hT w] at hP; cases hP⟩, .cons ⟨a, rfl, hS⟩ .nil, hΦ ns hlen, fun v r G' H' e _ _ rv => ?_⟩
  subst e
  have rv : Rp (K w.params) G' v (.bool true) := rv
  cases rv
  rfl
end DL
namespace DL
open PySem PySem.Spec PyProof.Rows L2
def wAugS (wo wi : DTE) (f : Int → Int → Int) (we : DTE) : DTS := fun E ρ κ => wo ρ κ fun ro κ1 => match ro with
  | .c k => wi ρ κ1 fun ri κ2 => match ri, κ2[k]? with
    | .d (.int i), some (.l xs) => 0 ≤ i ∧ match xs[i.toNat]? with
      | some (.int a) => we ρ κ2 fun rb κ3 => match rb, κ3[k]? with
        | .d (.int b), some (.l ys) => i.toNat < ys.length ∧ E.nx ρ (κ3.set k (.l (ys.set i.toNat (.int (f a b)))))
        | _, _ => False
      | _ => False
    | _, _ => False
  | _ => False
@[simp] theorem s_augS (wo wi : DTE) (f : Int → Int → Int) (we : DTE) (E : DEnds) (ρ : Rho) (κ : Kap) : wAugS wo wi f we E ρ κ = wo ρ κ fun ro κ1 => match ro with
  | .c k => wi ρ κ1 fun ri κ2 => match ri, κ2[k]? with
    | .d (.int i), some (.l xs) => 0 ≤ i ∧ match xs[i.toNat]? with
      | some (.int a) => we ρ κ2 fun rb κ3 => match rb, κ3[k]? with
        | .d (.int b), some (.l ys) => i.toNat < ys.length ∧ E.nx ρ (κ3.set k (.l (ys.set i.toNat (.int (f a b)))))
        | _, _ => False
      | _ => False
    | _, _ => False
  | _ => False := rfl
end DL
namespace DL
open PySem PySem.Spec PyProof.Rows L2
/-- nothing has changed but the table, and a new code object is known -/
def GrownT (H H' : Hp) (P : Addr) : Prop := H' = H ∨ ∃ ps ps' c, H P = some (.tbl ps) ∧ H c = none ∧ H' = upd (upd H P (.tbl ps')) c (LamX.CodeO c lamQ)
theorem GrownT.at_ {H H' : Hp} {P : Addr} (g : GrownT H H' P) {b : Addr} {o : HO} (nt : NT o) (h : H b = some o) : H' b = some o := by
  rcases g with rfl | ⟨ps, ps', c, hP, hc, rfl⟩
  · exact h
  · have n1 : b ≠ c := ne_of_none h hc
    have n2 : b ≠ P := fun e => nt ps (by rw [e, hP] at h; exact (Option.some.inj h).symm)
    rw [upd_ne n1, upd_ne n2]
    exact h
theorem GrownT.off {H H' : Hp} {P : Addr} (g : GrownT H H' P) {b : Addr} (h : H' b = none) : H b = none := by
  rcases g with rfl | ⟨ps, ps', c, hP, hc, rfl⟩
  · exact h
  · by_cases n1 : b = c
    · rw [n1]; exact hc
    · rw [upd_ne n1] at h
      by_cases n2 : b = P
      · rw [n2, upd_same] at h; cases h
      · rwa [upd_ne n2] at h
section
variable {K : PySem.W.Frag} {G H H' : Hp} {As : List Addr} {κ : Kap} {P : Addr}
end
section
variable {X : Cx} {pins : List (Addr × Obj)} {σ : L2.St} {H : Hp} {s : Shared}
/-- what stands behind the making: the function object, its code object -/
def LamAt (h : Heap) (params : Arguments) (body : Expr) (scope : Scope) (f : Addr) : Prop := ∃ (cl : List (Str × Addr)) (c : Addr) (pm ctv : Value), h.get? f = some (PySem.W.kla_obj "<lambda>" lamQ params body scope cl pm c ctv) ∧ h.CodeRec (.ref c) lamQ
theorem LamAt.keeps {h h' : Heap} {params : Arguments} {body : Expr} {scope : Scope} {f : Addr} (k : ∀ b o, h.get? b = some o → h'.get? b = some o) (x : LamAt h params body scope f) : LamAt h' params body scope f := by
  obtain ⟨cl, c, pm, ctv, h1, ⟨c2, oc, vs, t, e, h2, h3⟩⟩ := x
  exact ⟨cl, c, pm, ctv, k _ _ h1, ⟨c2, oc, vs, t, e, k _ _ h2, h3⟩⟩
end
section
variable {P : Program} {w : World} {B : Around} {E : Value → Shared → Prop} {s : Shared}
end
section
variable {X : Cx} {x : Str} {p pos lpos kpos : Pos} {e : Expr} {t : TA} {params : Arguments} {body : Expr} {scope : Scope} {c P : Addr} {k : Nat} {y : Str}
end
section
variable {X : Cx} {e : Expr} {we : DTE} {p pos lpos kpos : Pos} {params : Arguments} {body : Expr} {scope : Scope} {c P : Addr} {k : Nat} {y : Str}
end
section
variable {P : Program} {w : World} {K : PySem.W.Frag} {mg : Str → Option Value} {base : Heap} {x qual : Str} {st : Stmt} {f : Addr} {fd : FuncData} {N ps : List Str} {k : Nat} {sp : Sp}
end
end DL
namespace DL
open PySem PySem.Spec PyProof.Rows L2
end DL
namespace DL
open PySem PySem.Spec PyProof.Rows L2
section
variable {P : Program} {w : World} {A : Around} {E : Value → Shared → Prop}
/-- where a tuple's items lie -/
def TupsAt (h : Heap) (us : List Value) (ls : List (List Value)) : Prop := PySem.W.EachIs (fun (u : Value) (its : List Value) => ∃ b : Addr, u = .ref b ∧ IsTup h b its.toArray) us ls
theorem tup_keeps {h h' : Heap} (k : ∀ b o, h.get? b = some o → h'.get? b = some o) {b : Addr} {its : Array Value} (q : IsTup h b its) : IsTup h' b its := by
  obtain ⟨o, e, r⟩ := q
  exact ⟨o, k b o e, r⟩
theorem TupsAt.keeps {h h' : Heap} (k : ∀ b o, h.get? b = some o → h'.get? b = some o) : ∀ {us : List Value} {ls : List (List Value)}, TupsAt h us ls → TupsAt h' us ls
  | _, _, .nil => .nil
  | _, _, .cons r t => by
    obtain ⟨b, e, q⟩ := r
    exact .cons ⟨b, e, tup_keeps k q⟩ (TupsAt.keeps k t)
theorem TupsAt.get {h : Heap} : ∀ {us : List Value} {ls : List (List Value)} {i : Nat} {u : Value}, TupsAt h us ls → us[i]? = some u → ∃ its b, ls[i]? = some its ∧ u = .ref b ∧ IsTup h b its.toArray
  | _, _, _, _, .nil, e => by simp at e
  | _, _, 0, u, .cons r _, e => by
    obtain ⟨b, e1, q⟩ := r
    exact ⟨_, b, rfl, (Option.some.inj e).symm.trans e1, q⟩
  | _, _, i + 1, u, .cons _ t, e => TupsAt.get (i := i) t (by simpa using e)
end
section
variable {X : Cx} {pins : List (Addr × Obj)} {σ : L2.St} {H : Hp} {s : Shared}
end
section
variable {X : Cx} {e : Expr} {we : DTE} {p p2 pos cpos : Pos}
end
end DL
namespace DL
open PySem PySem.Spec PyProof.Rows L2
section
variable {X : Cx} {e : Expr} {we : DTE} {p p2 pos pos2 : Pos}
end
end DL
namespace SH
open PySem PySem.Spec PyProof.Rows L2 DL
theorem Core.mid {r l u : Row} (c : Core r l u) : Tight u := c.tight.mid
end SH
namespace K46
open PySem PySem.Spec PyProof.Rows L2 DL SH
def topS (i : Nat) : Stmt := PySem.Challenge.rw_drawnropes_k46_clashes_shown.prog.main.body.getD i (.Pass ⟨0, 0, 0, 0⟩)
structure Bn (mg : Str → Option Value) : Prop where
  all_ : mg "all" = none
  list_ : mg "list" = none
  sorted_ : mg "sorted" = none
  tuple_ : mg "tuple" = none
  any_ : mg "any" = none
  isinstance_ : mg "isinstance" = none
  len_ : mg "len" = none
  str_ : mg "str" = none
  abs_ : mg "abs" = none
  int_ : mg "int" = none
  zip_ : mg "zip" = none
  bool_ : mg "bool" = none
  range_ : mg "range" = none
  dict_ : mg "dict" = none
  repr_ : mg "repr" = none
  min_ : mg "min" = none
  max_ : mg "max" = none
section
variable {P : Program} {w : World} {K : PySem.W.Frag} {mg : Str → Option Value} {base : Heap}
abbrev s_is_within : Stmt := topS 1
theorem sc_is_within : FnScope ["one", "other", "rope"] ["one", "other"] (defScope s_is_within) := ⟨rfl, rfl, rfl, by decide +kernel, rfl, by decide +kernel, by decide +kernel⟩
theorem d_is_within {f : Addr} {cdv : Value} {A : Around} {outer : List Env} {s : Shared} {H : Hp} {E : XK} {k : Nat} (hr : RoomG k (A.deeper (envOfC "is_within" (defScope s_is_within) s.heap.objs.size f cdv))) (B : Bn mg) :
    DSs (cxOf CX0 P w K mg base ["one", "other", "rope"] "is_within" (defScope s_is_within) f cdv A outer s H E).nox (defBody s_is_within) w_is_within := by
  have nd : (["one", "other", "rope"] : List Str).Nodup := sc_is_within.nd
  exact (dss_one (ds_ret (de_callB (cr_all rfl) allC_ok B.all_ (da_cons (de_lc (own := [("rope", 2)]) rfl nd (di_seq (de_var 0)) (blkOk_by (by kernel_rfl)) (fun _ => (dg_name 2 nd)) (fun _ => dts_nil) (fun _ => (de_cmp (op_inA (room65 hr)) in_ok (de_var 2) (de_var 1) (by rfl)))) da_nil))))
abbrev s_with_rope : Stmt := topS 3
theorem sc_with_rope : FnScope ["hold", "rope"] ["hold", "rope"] (defScope s_with_rope) := ⟨rfl, rfl, rfl, by decide +kernel, rfl, by decide +kernel, by decide +kernel⟩
theorem d_with_rope {f : Addr} {cdv : Value} {A : Around} {outer : List Env} {s : Shared} {H : Hp} {E : XK} {k : Nat} (hr : RoomG k (A.deeper (envOfC "with_rope" (defScope s_with_rope) s.heap.objs.size f cdv))) (B : Bn mg) :
    DSs (cxOf CX0 P w K mg base ["hold", "rope"] "with_rope" (defScope s_with_rope) f cdv A outer s H E).nox (defBody s_with_rope) w_with_rope := by
  have nd : (["hold", "rope"] : List Str).Nodup := sc_with_rope.nd
  exact (dss_one (ds_ret (de_callTy call_tuple_of tupC_ok B.tuple_ (da_cons (de_callB (cr_sortD (room80 hr)) sortC_ok B.sorted_ (da_cons (de_op op_addD add_ok (de_callTy call_list_of listC_ok B.list_ (da_cons (de_var 0) da_nil)) (de_lst (da_cons (de_var 1) da_nil))) da_nil)) da_nil))))
abbrev s_is_wanting : Stmt := topS 4
theorem sc_is_wanting : FnScope ["wish", "rope", "hold", "other", "some"] ["wish", "rope", "hold", "other"] (defScope s_is_wanting) := ⟨rfl, rfl, rfl, by decide +kernel, rfl, by decide +kernel, by decide +kernel⟩
theorem d_is_wanting {f : Addr} {cdv : Value} {A : Around} {outer : List Env} {s : Shared} {H : Hp} {E : XK} {k : Nat} (hr : RoomG k (A.deeper (envOfC "is_wanting" (defScope s_is_wanting) s.heap.objs.size f cdv))) (B : Bn mg) (C_with_rope : Cal P w K mg base "with_rope" k ["hold", "rope"] (spD K 2 Ph_with_rope)) (C_is_within : Cal P w K mg base "is_within" k ["one", "other"] (spD K 2 Ph_is_within)) :
    DSs (cxOf CX0 P w K mg base ["wish", "rope", "hold", "other", "some"] "is_wanting" (defScope s_is_wanting) f cdv A outer s H E).nox (defBody s_is_wanting) w_is_wanting := by
  have nd : (["wish", "rope", "hold", "other", "some"] : List Str).Nodup := sc_is_wanting.nd
  exact (dss_one (ds_ret (de_not (de_callB (cr_any rfl) allC_ok B.any_ (da_cons (de_lc (own := [("some", 4)]) rfl nd (di_seq (de_getD (room65 hr) (de_var 0) (de_var 3))) (blkOk_by (by kernel_rfl)) (fun _ => (dg_name 4 nd)) (fun _ => dts_nil) (fun _ => (de_callC C_is_within hr rfl (da_cons (de_var 4) (da_cons (de_callC C_with_rope hr rfl (da_cons (de_var 2) (da_cons (de_var 1) da_nil))) da_nil))))) da_nil)))))
abbrev s_shows_clash : Stmt := topS 5
theorem sc_shows_clash : FnScope ["wish", "thing", "rope", "hold", "other"] ["wish", "thing"] (defScope s_shows_clash) := ⟨rfl, rfl, rfl, by decide +kernel, rfl, by decide +kernel, by decide +kernel⟩
theorem d_shows_clash {f : Addr} {cdv : Value} {A : Around} {outer : List Env} {s : Shared} {H : Hp} {E : XK} {k : Nat} (hr : RoomG k (A.deeper (envOfC "shows_clash" (defScope s_shows_clash) s.heap.objs.size f cdv))) (B : Bn mg) (C_is_wanting : Cal P w K mg base "is_wanting" k ["wish", "rope", "hold", "other"] (spM K 4 Ph_is_wanting)) :
    DSs (cxOf CX0 P w K mg base ["wish", "thing", "rope", "hold", "other"] "shows_clash" (defScope s_shows_clash) f cdv A outer s H E).nox (defBody s_shows_clash) w_shows_clash := by
  have nd : (["wish", "thing", "rope", "hold", "other"] : List Str).Nodup := sc_shows_clash.nd
  exact (dss_cons (ds_if (dw_pt (dw_or (dt_not (dt_tru (de_isi .tuple B.isinstance_ B.tuple_ (de_var 1)))) (dw_or1 (dt_cmp (op_neS hr.toRoom.units) ne_ok (de_callB call_len len_ok B.len_ (da_cons (de_var 1) da_nil)) de_int (nomark _))))) (dss_one (ds_ret de_bl)) dss_nil)
      (dss_cons (ds_asg (de_var 1) (dg_tup rfl (dgs_cons (dg_name 2 nd) (dgs_cons (dg_name 3 nd) (dgs_cons (dg_name 4 nd) dgs_nil)))))
      (dss_cons (ds_if (dw_pt (dw_or (dt_not (dt_tru (de_isi .str B.isinstance_ B.str_ (de_var 2)))) (dw_or (dt_notInG (room65 hr) (de_var 2) (de_var 0)) (dw_or (dt_not (dt_tru (de_isi .tuple B.isinstance_ B.tuple_ (de_var 3)))) (dw_or1 (dt_cmp (op_notInA (room65 hr)) in_ok (de_var 3) (de_getD (room65 hr) (de_var 0) (de_var 2)) (by rfl))))))) (dss_one (ds_ret de_bl)) dss_nil)
      (dss_one (ds_ret (de_and (de_cmp (op_inTD (room65 hr)) inTD_ok (de_var 4) (de_var 3) (by rfl)) (de_one (de_callC_M C_is_wanting hr rfl (da_cons (de_var 0) (da_cons (de_var 2) (da_cons (de_var 3) (da_cons (de_var 4) da_nil))))))))))))
abbrev s_law_box : Stmt := topS 7
theorem sc_law_box : FnScope ["_law_script", "_law_k", "_law_cell"] ["_law_script", "_law_k"] (defScope s_law_box) := ⟨rfl, rfl, rfl, by decide +kernel, rfl, by decide +kernel, by decide +kernel⟩
theorem d_law_box {f : Addr} {cdv : Value} {A : Around} {outer : List Env} {s : Shared} {H : Hp} {E : XK} {k : Nat} (hr : RoomG k (A.deeper (envOfC "_law_box" (defScope s_law_box) s.heap.objs.size f cdv))) (B : Bn mg) :
    DSs (cxOf CX0 P w K mg base ["_law_script", "_law_k", "_law_cell"] "_law_box" (defScope s_law_box) f cdv A outer s H E).nox (defBody s_law_box) w_law_box := by
  have nd : (["_law_script", "_law_k", "_law_cell"] : List Str).Nodup := sc_law_box.nd
  exact (dss_cons (ds_set false 2 nd de_int)
      (dss_cons (ds_if (dt_cmp op_ltD ord_ok (de_var 1) (de_lenS B.len_ (de_var 0)) (nomark _)) (dss_one (ds_set false 2 nd (de_scr (de_var 0) (de_var 1) (fun _ _ => rfl)))) dss_nil)
      (dss_one (ds_ret (de_lst (da_cons (de_op op_mulD mul_ok (de_callB call_abs abs_ok B.abs_ (da_cons (de_var 2) da_nil)) (de_callTy call_int1 intC_ok B.int_ (da_cons (de_cmp op_geI ci_ok (de_callB call_abs abs_ok B.abs_ (da_cons (de_var 2) da_nil)) (de_op op_pow pow_ok de_int de_int) (nomark _)) da_nil))) (da_cons (de_op op_addD add_ok (de_op op_addD add_ok (de_op op_mod mod_ok (de_var 2) de_int) (de_op op_mulD mul_ok de_int (de_var 1))) de_int) (da_cons de_int da_nil))))))))
abbrev s_law_take : Stmt := topS 8
theorem sc_law_take : FnScope ["_law_box_here", "_law_bound", "_law_found", "_law_once"] ["_law_box_here", "_law_bound"] (defScope s_law_take) := ⟨rfl, rfl, rfl, by decide +kernel, rfl, by decide +kernel, by decide +kernel⟩
theorem d_law_take {f : Addr} {cdv : Value} {A : Around} {outer : List Env} {s : Shared} {H : Hp} {E : XK} {k : Nat} (hr : RoomG k (A.deeper (envOfC "_law_take" (defScope s_law_take) s.heap.objs.size f cdv))) (B : Bn mg) :
    DSs (cxOf CX0 P w K mg base ["_law_box_here", "_law_bound", "_law_found", "_law_once"] "_law_take" (defScope s_law_take) f cdv A outer s H E).nox (defBody s_law_take) w_law_take := by
  have nd : (["_law_box_here", "_law_bound", "_law_found", "_law_once"] : List Str).Nodup := sc_law_take.nd
  exact (dss_cons (ds_if (dt_cmp op_gtI ci_ok (de_ix ix_seq ix_ok (de_var 0) de_int (fun _ _ => rfl)) de_int (nomark _)) (dss_cons (ds_set false 2 nd (de_op op_mod mod_ok (de_ix ix_seq ix_ok (de_var 0) de_int (fun _ _ => rfl)) (de_var 1)))
      (dss_cons (ds_asg (de_op op_fdiv fdiv_ok (de_ix ix_seq ix_ok (de_var 0) de_int (fun _ _ => rfl)) (de_var 1)) (dg_sub (de_var 0) de_int))
      (dss_one (ds_ret (de_var 2))))) dss_nil)
      (dss_cons (ds_asg (de_op op_addD add_ok (de_ix ix_seq ix_ok (de_var 0) de_int (fun _ _ => rfl)) de_int) (dg_sub (de_var 0) de_int))
      (dss_cons (ds_set false 3 nd (de_op op_mod mod_ok (de_op op_pow pow_ok (de_op op_addD add_ok (de_ix ix_seq ix_ok (de_var 0) de_int (fun _ _ => rfl)) (de_op op_mulD mul_ok de_int (de_ix ix_seq ix_ok (de_var 0) de_int (fun _ _ => rfl)))) de_int) de_int))
      (dss_one (ds_ret (de_op op_mod mod_ok (de_op op_fdiv fdiv_ok (de_op op_mod mod_ok (de_op op_addD add_ok (de_op op_mulD mul_ok (de_var 3) (de_op op_addD add_ok (de_op op_mod mod_ok (de_var 3) de_int) de_int)) (de_op op_mulD mul_ok (de_ix ix_seq ix_ok (de_var 0) de_int (fun _ _ => rfl)) de_int)) de_int) de_int) (de_var 1)))))))
abbrev s_law_pick : Stmt := topS 9
theorem sc_law_pick : FnScope ["_law_box_here", "_law_things"] ["_law_box_here", "_law_things"] (defScope s_law_pick) := ⟨rfl, rfl, rfl, by decide +kernel, rfl, by decide +kernel, by decide +kernel⟩
theorem d_law_pick {f : Addr} {cdv : Value} {A : Around} {outer : List Env} {s : Shared} {H : Hp} {E : XK} {k : Nat} (hr : RoomG k (A.deeper (envOfC "_law_pick" (defScope s_law_pick) s.heap.objs.size f cdv))) (B : Bn mg) (C_law_take : Cal P w K mg base "_law_take" k ["_law_box_here", "_law_bound"] (spL K 2 Ph_law_take)) :
    DSs (cxOf CX0 P w K mg base ["_law_box_here", "_law_things"] "_law_pick" (defScope s_law_pick) f cdv A outer s H E).nox (defBody s_law_pick) w_law_pick := by
  have nd : (["_law_box_here", "_law_things"] : List Str).Nodup := sc_law_pick.nd
  exact (dss_one (ds_ret (de_ix ix_seq ix_ok (de_var 1) (de_callC_L C_law_take hr rfl (da_cons (de_var 0) (da_cons (de_callB call_len len_ok B.len_ (da_cons (de_var 1) da_nil)) da_nil))) (fun _ _ => rfl))))
abbrev s_law_same : Stmt := topS 10
theorem sc_law_same : FnScope ["_law_found", "_law_due", "_law_one", "_law_two"] ["_law_found", "_law_due"] (defScope s_law_same) := ⟨rfl, rfl, rfl, by decide +kernel, rfl, by decide +kernel, by decide +kernel⟩
theorem d_law_same {f : Addr} {cdv : Value} {A : Around} {outer : List Env} {s : Shared} {H : Hp} {E : XK} {k : Nat} (hr : RoomG k (A.deeper (envOfC "_law_same" (defScope s_law_same) s.heap.objs.size f cdv))) (B : Bn mg) {Ph_law_same : List R → (R → Prop) → Prop} (C_law_same : Cal P w K mg base "_law_same" k ["_law_found", "_law_due"] (spD K 2 Ph_law_same)) :
    DSs (cxOf CX0 P w K mg base ["_law_found", "_law_due", "_law_one", "_law_two"] "_law_same" (defScope s_law_same) f cdv A outer s H E).nox (defBody s_law_same) (w_law_same Ph_law_same) := by
  have nd : (["_law_found", "_law_due", "_law_one", "_law_two"] : List Str).Nodup := sc_law_same.nd
  exact (dss_cons (ds_if (dt_tru (de_isi2 .list .tuple B.isinstance_ B.list_ B.tuple_ (de_var 1))) (dss_cons (ds_if (dw_pt (dw_or (dt_cmp (op_neS hr.toRoom.units) ne_ok (de_isi .list B.isinstance_ B.list_ (de_var 0)) (de_isi .list B.isinstance_ B.list_ (de_var 1)) (nomark _)) (dw_or1 (dt_cmp (op_neS hr.toRoom.units) ne_ok (de_isi .tuple B.isinstance_ B.tuple_ (de_var 0)) (de_isi .tuple B.isinstance_ B.tuple_ (de_var 1)) (nomark _))))) (dss_one (ds_ret de_bl)) dss_nil)
      (dss_one (ds_ret (de_and (de_cmp (op_eqS hr.toRoom.units) eq_ok (de_callB call_len len_ok B.len_ (da_cons (de_var 0) da_nil)) (de_callB call_len len_ok B.len_ (da_cons (de_var 1) da_nil)) (nomark _)) (de_one (de_callB (cr_all rfl) allC_ok B.all_ (da_cons (de_lc (own := [("_law_one", 2), ("_law_two", 3)]) rfl nd (di_zip B.zip_ (da_cons (de_var 0) (da_cons (de_var 1) da_nil))) (blkOk_by (by kernel_rfl)) (fun _ => (dg_tup rfl (dgs_cons (dg_name 2 nd) (dgs_cons (dg_name 3 nd) dgs_nil)))) (fun _ => dts_nil) (fun _ => (de_callC C_law_same hr rfl (da_cons (de_var 2) (da_cons (de_var 3) da_nil))))) da_nil))))))) dss_nil)
      (dss_cons (ds_if (dw_pt (dw_or (dt_cmp op_isND isN_ok (de_var 1) de_non (nomark _)) (dw_or1 (dt_tru (de_isi .str B.isinstance_ B.str_ (de_var 1)))))) (dss_one (ds_ret (de_and (de_cmp (op_eqS hr.toRoom.units) eq_ok (de_var 0) (de_var 1) (nomark _)) (de_one (de_cmp (op_eqS hr.toRoom.units) eq_ok (de_isi .str B.isinstance_ B.str_ (de_var 0)) (de_isi .str B.isinstance_ B.str_ (de_var 1)) (nomark _)))))) dss_nil)
      (dss_one (ds_ret (de_and (de_isi .int B.isinstance_ B.int_ (de_var 0)) (de_and (de_cmp (op_eqS hr.toRoom.units) eq_ok (de_isi .bool B.isinstance_ B.bool_ (de_var 0)) (de_isi .bool B.isinstance_ B.bool_ (de_var 1)) (nomark _)) (de_one (de_cmp (op_eqS hr.toRoom.units) eq_ok (de_var 0) (de_var 1) (nomark _)))))))))
abbrev s_law_names : Stmt := topS 11
theorem sc_law_names : FnScope ["_law_box_here", "_law_many", "_law_letters", "_law_found", "_law_k", "_law_name", "_law_j", "_law_one", "_law_sign"] ["_law_box_here", "_law_many"] (defScope s_law_names) := ⟨rfl, rfl, rfl, by decide +kernel, rfl, by decide +kernel, by decide +kernel⟩
theorem d_law_names {f : Addr} {cdv : Value} {A : Around} {outer : List Env} {s : Shared} {H : Hp} {E : XK} {k : Nat} (hr : RoomG k (A.deeper (envOfC "_law_names" (defScope s_law_names) s.heap.objs.size f cdv))) (B : Bn mg) (C_law_take : Cal P w K mg base "_law_take" k ["_law_box_here", "_law_bound"] (spL K 2 Ph_law_take)) :
    DSs (cxOf CX0 P w K mg base ["_law_box_here", "_law_many", "_law_letters", "_law_found", "_law_k", "_law_name", "_law_j", "_law_one", "_law_sign"] "_law_names" (defScope s_law_names) f cdv A outer s H E).nox (defBody s_law_names) w_law_names := by
  have nd : (["_law_box_here", "_law_many", "_law_letters", "_law_found", "_law_k", "_law_name", "_law_j", "_law_one", "_law_sign"] : List Str).Nodup := sc_law_names.nd
  exact (dss_cons (ds_tt 2 3 rfl nd (da_consM false de_str (da_consM true (de_lst da_nil) da_nil)))
      (dss_cons (ds_for PassesOwn.never rfl (di_range1 B.range_ (da_cons (de_var 1) da_nil)) (dg_name 4 nd) (dss_cons (ds_set false 5 nd (de_bm PySem.F.plainAttrs_str PySem.F.slot_str_join PySem.F.type_str_join mt_join joinC_ok de_str (da_cons (de_lc (own := [("_law_j", 6)]) rfl nd (di_range1 B.range_ (da_cons (de_ix ix_seq ix_ok (de_lst (da_cons de_int (da_cons de_int (da_cons de_int (da_cons de_int da_nil))))) (de_callC_L C_law_take hr rfl (da_cons (de_var 0) (da_cons de_int da_nil))) (fun _ _ => rfl)) da_nil)) (blkOk_by (by kernel_rfl)) (fun _ => (dg_name 6 nd)) (fun _ => dts_nil) (fun _ => (de_ix ix_seq ix_ok (de_var 2) (de_callC_L C_law_take hr rfl (da_cons (de_var 0) (da_cons de_int da_nil))) (fun _ _ => rfl)))) da_nil)))
      (dss_one (ds_expr (de_append (de_var 3) (de_ix ix_seq ix_ok (de_lc (own := [("_law_one", 7)]) rfl nd (di_seq (de_op op_addD add_ok (de_lst (da_cons (de_var 5) da_nil)) (de_lc (own := [("_law_sign", 8)]) rfl nd (di_seq (de_var 2)) (blkOk_by (by kernel_rfl)) (fun _ => (dg_name 8 nd)) (fun _ => dts_nil) (fun _ => (de_op op_addD add_ok (de_sl (de_var 5) do_none (do_some de_int)) (de_var 8)))))) (blkOk_by (by kernel_rfl)) (fun _ => (dg_name 7 nd)) (fun _ => (dts_one (dt_cmp (op_notInA (room65 hr)) in_ok (de_var 7) (de_var 3) (by rfl)))) (fun _ => (de_var 7))) de_int (fun _ _ => rfl)))))))
      (dss_one (ds_ret (de_callB (cr_sortD (room80 hr)) sortC_ok B.sorted_ (da_cons (de_var 3) da_nil))))))
abbrev s_law_some : Stmt := topS 12
theorem sc_law_some : FnScope ["_law_box_here", "_law_names_here", "_law_lowest", "_law_still", "_law_found", "_law_turn"] ["_law_box_here", "_law_names_here", "_law_lowest"] (defScope s_law_some) := ⟨rfl, rfl, rfl, by decide +kernel, rfl, by decide +kernel, by decide +kernel⟩
theorem d_law_some {f : Addr} {cdv : Value} {A : Around} {outer : List Env} {s : Shared} {H : Hp} {E : XK} {k : Nat} (hr : RoomG k (A.deeper (envOfC "_law_some" (defScope s_law_some) s.heap.objs.size f cdv))) (B : Bn mg) (C_law_take : Cal P w K mg base "_law_take" k ["_law_box_here", "_law_bound"] (spL K 2 Ph_law_take)) :
    DSs (cxOf CX0 P w K mg base ["_law_box_here", "_law_names_here", "_law_lowest", "_law_still", "_law_found", "_law_turn"] "_law_some" (defScope s_law_some) f cdv A outer s H E).nox (defBody s_law_some) w_law_some := by
  have nd : (["_law_box_here", "_law_names_here", "_law_lowest", "_law_still", "_law_found", "_law_turn"] : List Str).Nodup := sc_law_some.nd
  exact (dss_cons (ds_par 3 4 rfl nd (da_consM true (de_callTy call_list_of listC_ok B.list_ (da_cons (de_var 1) da_nil)) (da_consM true (de_lst da_nil) da_nil)))
      (dss_cons (ds_for PassesOwn.never rfl (di_range1 B.range_ (da_cons (de_op op_addD add_ok (de_var 2) (de_callC_L C_law_take hr rfl (da_cons (de_var 0) (da_cons (de_op op_addD add_ok (de_op op_sub sub_ok (de_callB call_len len_ok B.len_ (da_cons (de_var 1) da_nil)) (de_var 2)) de_int) da_nil)))) da_nil)) (dg_name 5 nd) (dss_one (ds_expr (de_append (de_var 4) (de_pop1 (de_var 3) (de_callC_L C_law_take hr rfl (da_cons (de_var 0) (da_cons (de_callB call_len len_ok B.len_ (da_cons (de_var 3) da_nil)) da_nil))))))))
      (dss_one (ds_ret (de_callB (cr_sortD (room80 hr)) sortC_ok B.sorted_ (da_cons (de_var 4) da_nil))))))
abbrev s_law_sets : Stmt := topS 13
theorem sc_law_sets : FnScope ["_law_names_here", "_law_lowest", "_law_found", "_law_name", "_law_some_here", "_law_pair"] ["_law_names_here", "_law_lowest"] (defScope s_law_sets) := ⟨rfl, rfl, rfl, by decide +kernel, rfl, by decide +kernel, by decide +kernel⟩
theorem d_law_sets {f : Addr} {cdv : Value} {A : Around} {outer : List Env} {s : Shared} {H : Hp} {E : XK} {k : Nat} (hr : RoomG k (A.deeper (envOfC "_law_sets" (defScope s_law_sets) s.heap.objs.size f cdv))) (B : Bn mg) :
    DSs (cxOf CX0 P w K mg base ["_law_names_here", "_law_lowest", "_law_found", "_law_name", "_law_some_here", "_law_pair"] "_law_sets" (defScope s_law_sets) f cdv A outer s H E).nox (defBody s_law_sets) w_law_sets := by
  have nd : (["_law_names_here", "_law_lowest", "_law_found", "_law_name", "_law_some_here", "_law_pair"] : List Str).Nodup := sc_law_sets.nd
  exact (dss_cons (ds_set false 2 nd (de_lst (da_cons (de_tup da_nil) da_nil)))
      (dss_cons (ds_for PassesOwn.never rfl (di_seq (de_var 0)) (dg_name 3 nd) (dss_one (ds_set false 2 nd (de_op op_addD add_ok (de_var 2) (de_lc (own := [("_law_some_here", 4)]) rfl nd (di_seq (de_var 2)) (blkOk_by (by kernel_rfl)) (fun _ => (dg_name 4 nd)) (fun _ => dts_nil) (fun _ => (de_op op_addD add_ok (de_var 4) (de_tup (da_cons (de_var 3) da_nil)))))))))
      (dss_one (ds_ret (de_lc (own := [("_law_pair", 5)]) rfl nd (di_seq (de_callB (cr_sortD (room80 hr)) sortC_ok B.sorted_ (da_cons (de_lc (own := [("_law_some_here", 4)]) rfl nd (di_seq (de_var 2)) (blkOk_by (by kernel_rfl)) (fun _ => (dg_name 4 nd)) (fun _ => dts_nil) (fun _ => (de_tup (da_cons (de_callB call_len len_ok B.len_ (da_cons (de_var 4) da_nil)) (da_cons (de_var 4) da_nil))))) da_nil))) (blkOk_by (by kernel_rfl)) (fun _ => (dg_name 5 nd)) (fun _ => (dts_one (dt_cmp op_geI ci_ok (de_ix ix_seq ix_ok (de_var 5) de_int (fun _ _ => rfl)) (de_var 1) (nomark _)))) (fun _ => (de_ix ix_seq ix_ok (de_var 5) de_int (fun _ _ => rfl))))))))
abbrev s_law_odd : Stmt := topS 14
theorem sc_law_odd : FnScope ["_law_box_here", "_law_matter", "_law_some_here"] ["_law_box_here", "_law_matter"] (defScope s_law_odd) := ⟨rfl, rfl, rfl, by decide +kernel, rfl, by decide +kernel, by decide +kernel⟩
theorem d_law_odd {f : Addr} {cdv : Value} {A : Around} {outer : List Env} {s : Shared} {H : Hp} {E : XK} {k : Nat} (hr : RoomG k (A.deeper (envOfC "_law_odd" (defScope s_law_odd) s.heap.objs.size f cdv))) (B : Bn mg) (C_law_pick : Cal P w K mg base "_law_pick" k ["_law_box_here", "_law_things"] (spL K 2 Ph_law_pick)) :
    DSs (cxOf CX0 P w K mg base ["_law_box_here", "_law_matter", "_law_some_here"] "_law_odd" (defScope s_law_odd) f cdv A outer s H E).nox (defBody s_law_odd) w_law_odd := by
  have nd : (["_law_box_here", "_law_matter", "_law_some_here"] : List Str).Nodup := sc_law_odd.nd
  exact (dss_cons (ds_set false 2 nd (de_lst (da_cons de_non (da_cons de_bl (da_cons de_bl (da_cons de_int (da_cons de_int (da_cons (de_un un_neg neg_ok de_int) (da_cons de_int (da_cons de_str (da_cons de_str (da_cons de_str (da_cons de_str (da_cons de_str (da_cons (de_tup da_nil) (da_cons (de_lst da_nil) (da_cons (de_tup (da_cons de_int da_nil)) (da_cons (de_tup (da_cons de_str (da_cons (de_tup da_nil) da_nil))) (da_cons (de_tup (da_cons de_str (da_cons de_str (da_cons de_int da_nil)))) da_nil)))))))))))))))))))
      (dss_cons (ds_if (dt_tru (de_isi .int B.isinstance_ B.int_ (de_var 1))) (dss_one (ds_set false 2 nd (de_op op_addD add_ok (de_var 2) (de_op op_mulD mul_ok (de_lst (da_cons (de_op op_addD add_ok (de_var 1) de_int) (da_cons (de_op op_sub sub_ok (de_var 1) de_int) (da_cons (de_op op_sub sub_ok de_int (de_var 1)) (da_cons (de_callTy call_str_int strIC_ok B.str_ (da_cons (de_var 1) da_nil)) (da_cons (de_cmp (op_eqS hr.toRoom.units) eq_ok (de_var 1) de_int (nomark _)) da_nil)))))) de_int)))) dss_nil)
      (dss_cons (ds_if (dt_tru (de_isi .str B.isinstance_ B.str_ (de_var 1))) (dss_one (ds_set false 2 nd (de_op op_addD add_ok (de_var 2) (de_lst (da_cons (de_op op_addD add_ok (de_var 1) de_str) (da_cons (de_sl (de_var 1) (do_some de_int) do_none) (da_cons (de_upper (de_var 1)) (da_cons (de_op op_addD add_ok (de_var 1) de_str) (da_cons (de_tup (da_cons (de_var 1) da_nil)) da_nil))))))))) dss_nil)
      (dss_cons (ds_if (dt_tru (de_isi2 .list .tuple B.isinstance_ B.list_ B.tuple_ (de_var 1))) (dss_one (ds_set false 2 nd (de_op op_addD add_ok (de_var 2) (de_op op_mulD mul_ok (de_lst (da_cons (de_callTy call_list_of listC_ok B.list_ (da_cons (de_var 1) da_nil)) (da_cons (de_callTy call_tuple_of tupC_ok B.tuple_ (da_cons (de_var 1) da_nil)) (da_cons (de_revX (de_var 1)) (da_cons (de_sl (de_var 1) (do_some de_int) do_none) (da_cons (de_sl (de_var 1) do_none (do_some (de_un un_neg neg_ok de_int))) (da_cons (de_op op_addD add_ok (de_var 1) (de_sl (de_var 1) do_none (do_some de_int))) da_nil))))))) de_int)))) dss_nil)
      (dss_one (ds_ret (de_callC_L C_law_pick hr rfl (da_cons (de_var 0) (da_cons (de_var 2) da_nil)))))))))
abbrev s_law_bent : Stmt := topS 15
theorem sc_law_bent : FnScope ["_law_box_here", "_law_matter", "_law_at", "_law_made", "_law_way"] ["_law_box_here", "_law_matter"] (defScope s_law_bent) := ⟨rfl, rfl, rfl, by decide +kernel, rfl, by decide +kernel, by decide +kernel⟩
theorem d_law_bent {f : Addr} {cdv : Value} {A : Around} {outer : List Env} {s : Shared} {H : Hp} {E : XK} {k : Nat} (hr : RoomG k (A.deeper (envOfC "_law_bent" (defScope s_law_bent) s.heap.objs.size f cdv))) (B : Bn mg) (C_law_take : Cal P w K mg base "_law_take" k ["_law_box_here", "_law_bound"] (spL K 2 Ph_law_take)) (C_law_odd : Cal P w K mg base "_law_odd" k ["_law_box_here", "_law_matter"] (spL K 2 Ph_law_odd)) {Ph_law_bent : List PyData → List R → (R → List PyData → Prop) → Prop} (C_law_bent : Cal P w K mg base "_law_bent" k ["_law_box_here", "_law_matter"] (spL K 2 Ph_law_bent)) :
    DSs (cxOf CX0 P w K mg base ["_law_box_here", "_law_matter", "_law_at", "_law_made", "_law_way"] "_law_bent" (defScope s_law_bent) f cdv A outer s H E).nox (defBody s_law_bent) (w_law_bent Ph_law_bent) := by
  have nd : (["_law_box_here", "_law_matter", "_law_at", "_law_made", "_law_way"] : List Str).Nodup := sc_law_bent.nd
  exact (dss_cons (ds_if (dw_pt (dw_or (dt_not (dt_tru (de_isi2 .list .tuple B.isinstance_ B.list_ B.tuple_ (de_var 1)))) (dw_or (dt_cmp (op_eqS hr.toRoom.units) eq_ok (de_callB call_len len_ok B.len_ (da_cons (de_var 1) da_nil)) de_int (nomark _)) (dw_or1 (dt_cmp (op_eqS hr.toRoom.units) eq_ok (de_callC_L C_law_take hr rfl (da_cons (de_var 0) (da_cons de_int da_nil))) de_int (nomark _)))))) (dss_one (ds_ret (de_callC_L C_law_odd hr rfl (da_cons (de_var 0) (da_cons (de_var 1) da_nil))))) dss_nil)
      (dss_cons (ds_set false 2 nd (de_ix ix_seq ix_ok (de_lst (da_cons (de_op op_sub sub_ok (de_callB call_len len_ok B.len_ (da_cons (de_var 1) da_nil)) de_int) (da_cons (de_callC_L C_law_take hr rfl (da_cons (de_var 0) (da_cons (de_callB call_len len_ok B.len_ (da_cons (de_var 1) da_nil)) da_nil))) da_nil))) (de_callC_L C_law_take hr rfl (da_cons (de_var 0) (da_cons de_int da_nil))) (fun _ _ => rfl)))
      (dss_cons (ds_par 3 4 rfl nd (da_consM true (de_callTy call_list_of listC_ok B.list_ (da_cons (de_var 1) da_nil)) (da_consM false (de_callC_L C_law_take hr rfl (da_cons (de_var 0) (da_cons de_int da_nil))) da_nil)))
      (dss_cons (ds_if (dt_cmp (op_eqS hr.toRoom.units) eq_ok (de_var 4) de_int (nomark _)) (dss_one (ds_expr (de_pop1 (de_var 3) (de_var 2)))) (dss_one (ds_if (dt_cmp (op_eqS hr.toRoom.units) eq_ok (de_var 4) de_int (nomark _)) (dss_one (ds_expr (de_insert (de_var 3) (de_var 2) (de_ix ix_seq ix_ok (de_var 3) (de_var 2) (fun _ _ => rfl))))) (dss_one (ds_if (dt_cmp (op_eqS hr.toRoom.units) eq_ok (de_var 4) de_int (nomark _)) (dss_one (ds_asg (de_revS (de_sl (de_var 3) (do_some (de_var 2)) (do_some (de_op op_addD add_ok (de_var 2) de_int)))) (dg_sl (de_var 3) (do_some (de_var 2)) (do_some (de_op op_addD add_ok (de_var 2) de_int))))) (dss_one (ds_asg (de_callC_L C_law_bent hr rfl (da_cons (de_var 0) (da_cons (de_ix ix_seq ix_ok (de_var 3) (de_var 2) (fun _ _ => rfl)) da_nil))) (dg_sub (de_var 3) (de_var 2)))))))))
      (dss_one (ds_ret (de_ifx (dt_tru (de_isi .list B.isinstance_ B.list_ (de_var 1))) (de_var 3) (de_callTy call_tuple_of tupC_ok B.tuple_ (da_cons (de_var 3) da_nil)))))))))
abbrev s_law_inside : Stmt := topS 16
theorem sc_law_inside : FnScope ["_law_some_here", "_law_found", "_law_one"] ["_law_some_here", "_law_found"] (defScope s_law_inside) := ⟨rfl, rfl, rfl, by decide +kernel, rfl, by decide +kernel, by decide +kernel⟩
theorem d_law_inside {f : Addr} {cdv : Value} {A : Around} {outer : List Env} {s : Shared} {H : Hp} {E : XK} {k : Nat} (hr : RoomG k (A.deeper (envOfC "_law_inside" (defScope s_law_inside) s.heap.objs.size f cdv))) (B : Bn mg) :
    DSs (cxOf CX0 P w K mg base ["_law_some_here", "_law_found", "_law_one"] "_law_inside" (defScope s_law_inside) f cdv A outer s H E).nox (defBody s_law_inside) w_law_inside := by
  have nd : (["_law_some_here", "_law_found", "_law_one"] : List Str).Nodup := sc_law_inside.nd
  exact (dss_one (ds_ret (de_callB (cr_all rfl) allC_ok B.all_ (da_cons (de_lc (own := [("_law_one", 2)]) rfl nd (di_seq (de_var 0)) (blkOk_by (by kernel_rfl)) (fun _ => (dg_name 2 nd)) (fun _ => dts_nil) (fun _ => (de_cmp (op_inA (room65 hr)) in_ok (de_var 2) (de_var 1) (by rfl)))) da_nil))))
abbrev s_law_family : Stmt := topS 17
theorem sc_law_family : FnScope ["_law_box_here", "_law_names_here", "_law_most", "_law_every", "_law_found", "_law_some_here"] ["_law_box_here", "_law_names_here", "_law_most"] (defScope s_law_family) := ⟨rfl, rfl, rfl, by decide +kernel, rfl, by decide +kernel, by decide +kernel⟩
theorem d_law_family {f : Addr} {cdv : Value} {A : Around} {outer : List Env} {s : Shared} {H : Hp} {E : XK} {k : Nat} (hr : RoomG k (A.deeper (envOfC "_law_family" (defScope s_law_family) s.heap.objs.size f cdv))) (B : Bn mg) (C_law_sets : Cal P w K mg base "_law_sets" k ["_law_names_here", "_law_lowest"] (spD K 2 Ph_law_sets)) (C_law_take : Cal P w K mg base "_law_take" k ["_law_box_here", "_law_bound"] (spL K 2 Ph_law_take)) :
    DSs (cxOf CX0 P w K mg base ["_law_box_here", "_law_names_here", "_law_most", "_law_every", "_law_found", "_law_some_here"] "_law_family" (defScope s_law_family) f cdv A outer s H E).nox (defBody s_law_family) w_law_family := by
  have nd : (["_law_box_here", "_law_names_here", "_law_most", "_law_every", "_law_found", "_law_some_here"] : List Str).Nodup := sc_law_family.nd
  exact (dss_cons (ds_set false 3 nd (de_callC C_law_sets hr rfl (da_cons (de_var 1) (da_cons de_int da_nil))))
      (dss_cons (ds_setLc (own := [("_law_some_here", 5)]) true 4 rfl nd (sw_true rfl rfl rfl (by decide +kernel)) (di_seq (de_var 3)) (blkOk_by (by kernel_rfl)) (fun _ => (dg_name 5 nd)) (fun _ => (dts_one (dt_cmp (op_eqS hr.toRoom.units) eq_ok (de_callC_L C_law_take hr rfl (da_cons (de_var 0) (da_cons de_int da_nil))) de_int (nomark _)))) (fun _ => (de_var 5)))
      (dss_cons (ds_while PassesOwn.never (dt_cmp op_gtI ci_ok (de_callB call_len len_ok B.len_ (da_cons (de_var 4) da_nil)) (de_var 2) (nomark _)) (dss_one (ds_expr (de_pop1 (de_var 4) (de_callC_L C_law_take hr rfl (da_cons (de_var 0) (da_cons (de_callB call_len len_ok B.len_ (da_cons (de_var 4) da_nil)) da_nil)))))))
      (dss_one (ds_ret (de_var 4))))))
abbrev s_law_tops : Stmt := topS 18
theorem sc_law_tops : FnScope ["_law_some_here", "_law_one", "_law_twin"] ["_law_some_here"] (defScope s_law_tops) := ⟨rfl, rfl, rfl, by decide +kernel, rfl, by decide +kernel, by decide +kernel⟩
theorem d_law_tops {f : Addr} {cdv : Value} {A : Around} {outer : List Env} {s : Shared} {H : Hp} {E : XK} {k : Nat} (hr : RoomG k (A.deeper (envOfC "_law_tops" (defScope s_law_tops) s.heap.objs.size f cdv))) (B : Bn mg) (C_law_inside : Cal P w K mg base "_law_inside" k ["_law_some_here", "_law_found"] (spD K 2 Ph_law_inside)) :
    DSs (cxOf CX0 P w K mg base ["_law_some_here", "_law_one", "_law_twin"] "_law_tops" (defScope s_law_tops) f cdv A outer s H E).nox (defBody s_law_tops) w_law_tops := by
  have nd : (["_law_some_here", "_law_one", "_law_twin"] : List Str).Nodup := sc_law_tops.nd
  exact (dss_one (ds_ret (de_lc (own := [("_law_one", 1)]) rfl nd (di_seq (de_var 0)) (blkOk_by (by kernel_rfl)) (fun _ => (dg_name 1 nd)) (fun _ => (dts_one (dt_not (dt_tru (de_callB (cr_any rfl) allC_ok B.any_ (da_cons (de_lc (own := [("_law_twin", 2)]) rfl nd (di_seq (de_var 0)) (blkOk_by (by kernel_rfl)) (fun _ => (dg_name 2 nd)) (fun _ => dts_nil) (fun _ => (de_and (de_cmp op_ltD ord_ok (de_callB call_len len_ok B.len_ (da_cons (de_var 2) da_nil)) (de_callB call_len len_ok B.len_ (da_cons (de_var 1) da_nil)) (nomark _)) (de_one (de_callC C_law_inside hr rfl (da_cons (de_var 2) (da_cons (de_var 1) da_nil))))))) da_nil)))))) (fun _ => (de_var 1)))))
abbrev s_law_holds_by : Stmt := topS 19
theorem sc_law_holds_by : FnScope ["_law_family_here", "_law_cord", "_law_some_here", "_law_lot", "_law_one", "_law_pair"] ["_law_family_here", "_law_cord"] (defScope s_law_holds_by) := ⟨rfl, rfl, rfl, by decide +kernel, rfl, by decide +kernel, by decide +kernel⟩
theorem d_law_holds_by {f : Addr} {cdv : Value} {A : Around} {outer : List Env} {s : Shared} {H : Hp} {E : XK} {k : Nat} (hr : RoomG k (A.deeper (envOfC "_law_holds_by" (defScope s_law_holds_by) s.heap.objs.size f cdv))) (B : Bn mg) (C_law_tops : Cal P w K mg base "_law_tops" k ["_law_some_here"] (spD K 1 Ph_law_tops)) :
    DSs (cxOf CX0 P w K mg base ["_law_family_here", "_law_cord", "_law_some_here", "_law_lot", "_law_one", "_law_pair"] "_law_holds_by" (defScope s_law_holds_by) f cdv A outer s H E).nox (defBody s_law_holds_by) w_law_holds_by := by
  have nd : (["_law_family_here", "_law_cord", "_law_some_here", "_law_lot", "_law_one", "_law_pair"] : List Str).Nodup := sc_law_holds_by.nd
  exact (dss_cons (ds_setLc (own := [("_law_lot", 3)]) false 2 rfl nd (sw_true rfl rfl rfl (by decide +kernel)) (di_seq (de_var 0)) (blkOk_by (by kernel_rfl)) (fun _ => (dg_name 3 nd)) (fun _ => (dts_one (dt_cmp (op_inA (room65 hr)) in_ok (de_var 1) (de_var 3) (by rfl)))) (fun _ => (de_callTy call_tuple_of tupC_ok B.tuple_ (da_cons (de_lc (own := [("_law_one", 4)]) rfl nd (di_seq (de_var 3)) (blkOk_by (by kernel_rfl)) (fun _ => (dg_name 4 nd)) (fun _ => (dts_one (dt_cmp (op_neS hr.toRoom.units) ne_ok (de_var 4) (de_var 1) (nomark _)))) (fun _ => (de_var 4))) da_nil))))
      (dss_one (ds_ret (de_callC C_law_tops hr rfl (da_cons (de_lc (own := [("_law_pair", 5)]) rfl nd (di_seq (de_callB (cr_sortD (room80 hr)) sortC_ok B.sorted_ (da_cons (de_lc (own := [("_law_one", 4)]) rfl nd (di_seq (de_var 2)) (blkOk_by (by kernel_rfl)) (fun _ => (dg_name 4 nd)) (fun _ => dts_nil) (fun _ => (de_tup (da_cons (de_callB call_len len_ok B.len_ (da_cons (de_var 4) da_nil)) (da_cons (de_var 4) da_nil))))) da_nil))) (blkOk_by (by kernel_rfl)) (fun _ => (dg_name 5 nd)) (fun _ => dts_nil) (fun _ => (de_ix ix_seq ix_ok (de_var 5) de_int (fun _ _ => rfl)))) da_nil)))))
abbrev s_law_wanting : Stmt := topS 20
theorem sc_law_wanting : FnScope ["_law_want_here", "_law_cord", "_law_hold", "_law_twin", "_law_some_here"] ["_law_want_here", "_law_cord", "_law_hold", "_law_twin"] (defScope s_law_wanting) := ⟨rfl, rfl, rfl, by decide +kernel, rfl, by decide +kernel, by decide +kernel⟩
theorem d_law_wanting {f : Addr} {cdv : Value} {A : Around} {outer : List Env} {s : Shared} {H : Hp} {E : XK} {k : Nat} (hr : RoomG k (A.deeper (envOfC "_law_wanting" (defScope s_law_wanting) s.heap.objs.size f cdv))) (B : Bn mg) (C_law_inside : Cal P w K mg base "_law_inside" k ["_law_some_here", "_law_found"] (spD K 2 Ph_law_inside)) :
    DSs (cxOf CX0 P w K mg base ["_law_want_here", "_law_cord", "_law_hold", "_law_twin", "_law_some_here"] "_law_wanting" (defScope s_law_wanting) f cdv A outer s H E).nox (defBody s_law_wanting) w_law_wanting := by
  have nd : (["_law_want_here", "_law_cord", "_law_hold", "_law_twin", "_law_some_here"] : List Str).Nodup := sc_law_wanting.nd
  exact (dss_one (ds_ret (de_not (de_callB (cr_any rfl) allC_ok B.any_ (da_cons (de_lc (own := [("_law_some_here", 4)]) rfl nd (di_seq (de_getD (room65 hr) (de_var 0) (de_var 3))) (blkOk_by (by kernel_rfl)) (fun _ => (dg_name 4 nd)) (fun _ => dts_nil) (fun _ => (de_callC C_law_inside hr rfl (da_cons (de_var 4) (da_cons (de_op op_addD add_ok (de_var 2) (de_tup (da_cons (de_var 1) da_nil))) da_nil))))) da_nil)))))
abbrev s_law_clashes : Stmt := topS 21
theorem sc_law_clashes : FnScope ["_law_want_here", "_law_found", "_law_cord", "_law_hold", "_law_twin"] ["_law_want_here"] (defScope s_law_clashes) := ⟨rfl, rfl, rfl, by decide +kernel, rfl, by decide +kernel, by decide +kernel⟩
theorem d_law_clashes {f : Addr} {cdv : Value} {A : Around} {outer : List Env} {s : Shared} {H : Hp} {E : XK} {k : Nat} (hr : RoomG k (A.deeper (envOfC "_law_clashes" (defScope s_law_clashes) s.heap.objs.size f cdv))) (B : Bn mg) (C_law_wanting : Cal P w K mg base "_law_wanting" k ["_law_want_here", "_law_cord", "_law_hold", "_law_twin"] (spM K 4 Ph_law_wanting)) :
    DSs (cxOf CX0 P w K mg base ["_law_want_here", "_law_found", "_law_cord", "_law_hold", "_law_twin"] "_law_clashes" (defScope s_law_clashes) f cdv A outer s H E).nox (defBody s_law_clashes) w_law_clashes := by
  have nd : (["_law_want_here", "_law_found", "_law_cord", "_law_hold", "_law_twin"] : List Str).Nodup := sc_law_clashes.nd
  exact (dss_cons (ds_set false 1 nd (de_lst da_nil))
      (dss_cons (ds_for PassesOwn.never rfl (di_seq (de_sortDS rfl (room80 hr) B.sorted_ (de_var 0))) (dg_name 2 nd) (dss_one (ds_for PassesOwn.never rfl (di_seq (de_getD (room65 hr) (de_var 0) (de_var 2))) (dg_name 3 nd) (dss_one (ds_set false 1 nd (de_op op_addD add_ok (de_var 1) (de_lc (own := [("_law_twin", 4)]) rfl nd (di_seq (de_var 3)) (blkOk_by (by kernel_rfl)) (fun _ => (dg_name 4 nd)) (fun _ => (dts_one (dt_tru (de_callC_M C_law_wanting hr rfl (da_cons (de_var 0) (da_cons (de_var 2) (da_cons (de_var 3) (da_cons (de_var 4) da_nil)))))))) (fun _ => (de_tup (da_cons (de_var 2) (da_cons (de_var 3) (da_cons (de_var 4) da_nil))))))))))))
      (dss_one (ds_ret (de_var 1)))))
abbrev s_law_want : Stmt := topS 22
theorem sc_law_want : FnScope ["_law_box_here", "_law_names_here", "_law_family_here", "_law_want_here", "_law_turn", "_law_cord", "_law_some_here", "_law_apart_ones", "_law_one", "_law_pair"] ["_law_box_here", "_law_names_here"] (defScope s_law_want) := ⟨rfl, rfl, rfl, by decide +kernel, rfl, by decide +kernel, by decide +kernel⟩
theorem d_law_want {f : Addr} {cdv : Value} {A : Around} {outer : List Env} {s : Shared} {H : Hp} {E : XK} {k : Nat} (hr : RoomG k (A.deeper (envOfC "_law_want" (defScope s_law_want) s.heap.objs.size f cdv))) (B : Bn mg) (C_law_family : Cal P w K mg base "_law_family" k ["_law_box_here", "_law_names_here", "_law_most"] (spL K 3 Ph_law_family)) (C_law_holds_by : Cal P w K mg base "_law_holds_by" k ["_law_family_here", "_law_cord"] (spD K 2 Ph_law_holds_by)) (C_law_take : Cal P w K mg base "_law_take" k ["_law_box_here", "_law_bound"] (spL K 2 Ph_law_take)) (C_law_pick : Cal P w K mg base "_law_pick" k ["_law_box_here", "_law_things"] (spL K 2 Ph_law_pick)) (C_law_some : Cal P w K mg base "_law_some" k ["_law_box_here", "_law_names_here", "_law_lowest"] (spL K 3 Ph_law_some)) (C_law_inside : Cal P w K mg base "_law_inside" k ["_law_some_here", "_law_found"] (spD K 2 Ph_law_inside)) (C_law_tops : Cal P w K mg base "_law_tops" k ["_law_some_here"] (spD K 1 Ph_law_tops)) :
    DSs (cxOf CX0 P w K mg base ["_law_box_here", "_law_names_here", "_law_family_here", "_law_want_here", "_law_turn", "_law_cord", "_law_some_here", "_law_apart_ones", "_law_one", "_law_pair"] "_law_want" (defScope s_law_want) f cdv A outer s H E).nox (defBody s_law_want) w_law_want := by
  have nd : (["_law_box_here", "_law_names_here", "_law_family_here", "_law_want_here", "_law_turn", "_law_cord", "_law_some_here", "_law_apart_ones", "_law_one", "_law_pair"] : List Str).Nodup := sc_law_want.nd
  exact (dss_cons (ds_set false 2 nd (de_callC_L C_law_family hr rfl (da_cons (de_var 0) (da_cons (de_var 1) (da_cons de_int da_nil)))))
      (dss_cons (ds_set true 3 nd (de_dictLB (own := [("_law_cord", 5)]) rfl B.dict_ nd (di_seq (de_var 1)) (blkOk_by (by kernel_rfl)) (fun _ => (dg_name 5 nd)) (fun _ => dts_nil) (fun _ => (dkv_tup (da_consM false (de_var 5) (da_consM true (de_callC C_law_holds_by hr rfl (da_cons (de_var 2) (da_cons (de_var 5) da_nil))) da_nil))))))
      (dss_cons (ds_for PassesOwn.never rfl (di_range1 B.range_ (da_cons (de_ix ix_seq ix_ok (de_lst (da_cons de_int (da_cons de_int (da_cons de_int (da_cons de_int da_nil))))) (de_callC_L C_law_take hr rfl (da_cons (de_var 0) (da_cons de_int da_nil))) (fun _ _ => rfl)) da_nil)) (dg_name 4 nd) (dss_cons (ds_set false 5 nd (de_callC_L C_law_pick hr rfl (da_cons (de_var 0) (da_cons (de_var 1) da_nil))))
      (dss_one (ds_if (dw_pt (dw_and (dt_cmp (op_neS hr.toRoom.units) ne_ok (de_getD (room65 hr) (de_var 3) (de_var 5)) (de_lst da_nil) (nomark _)) (dw_and1 (dt_cmp (op_eqS hr.toRoom.units) eq_ok (de_callC_L C_law_take hr rfl (da_cons (de_var 0) (da_cons de_int da_nil))) de_int (nomark _))))) (dss_one (ds_expr (de_pop1 (de_getD (room65 hr) (de_var 3) (de_var 5)) (de_callC_L C_law_take hr rfl (da_cons (de_var 0) (da_cons (de_callB call_len len_ok B.len_ (da_cons (de_getD (room65 hr) (de_var 3) (de_var 5)) da_nil)) da_nil)))))) (dss_cons (ds_set false 6 nd (de_callTy call_tuple_of tupC_ok B.tuple_ (da_cons (de_callC_L C_law_some hr rfl (da_cons (de_var 0) (da_cons (de_lc (own := [("_law_one", 8)]) rfl nd (di_seq (de_var 1)) (blkOk_by (by kernel_rfl)) (fun _ => (dg_name 8 nd)) (fun _ => (dts_one (dt_cmp (op_neS hr.toRoom.units) ne_ok (de_var 8) (de_var 5) (nomark _)))) (fun _ => (de_var 8))) (da_cons de_int da_nil)))) da_nil)))
      (dss_cons (ds_setLc (own := [("_law_one", 8)]) false 7 rfl nd (sw_true rfl rfl rfl (by decide +kernel)) (di_seq (de_getD (room65 hr) (de_var 3) (de_var 5))) (blkOk_by (by kernel_rfl)) (fun _ => (dg_name 8 nd)) (fun _ => (dts_one (dw_pt (dw_and (dt_not (dt_tru (de_callC C_law_inside hr rfl (da_cons (de_var 8) (da_cons (de_var 6) da_nil))))) (dw_and1 (dt_not (dt_tru (de_callC C_law_inside hr rfl (da_cons (de_var 6) (da_cons (de_var 8) da_nil)))))))))) (fun _ => (de_var 8)))
      (dss_one (ds_asgM (de_op op_addD add_ok (de_var 7) (de_lst (da_cons (de_var 6) da_nil))) (dg_subDR (room65 hr) (de_var 3) (de_var 5))))))))))
      (dss_cons (ds_for PassesOwn.never rfl (di_seq (de_var 1)) (dg_name 5 nd) (dss_one (ds_asgM (de_callC C_law_tops hr rfl (da_cons (de_lc (own := [("_law_pair", 9)]) rfl nd (di_seq (de_callB (cr_sortD (room80 hr)) sortC_ok B.sorted_ (da_cons (de_lc (own := [("_law_one", 8)]) rfl nd (di_seq (de_getD (room65 hr) (de_var 3) (de_var 5))) (blkOk_by (by kernel_rfl)) (fun _ => (dg_name 8 nd)) (fun _ => dts_nil) (fun _ => (de_tup (da_cons (de_callB call_len len_ok B.len_ (da_cons (de_var 8) da_nil)) (da_cons (de_var 8) da_nil))))) da_nil))) (blkOk_by (by kernel_rfl)) (fun _ => (dg_name 9 nd)) (fun _ => dts_nil) (fun _ => (de_ix ix_seq ix_ok (de_var 9) de_int (fun _ _ => rfl)))) da_nil)) (dg_subDR (room65 hr) (de_var 3) (de_var 5)))))
      (dss_one (ds_ret (de_var 3)))))))
abbrev s_law_is_clash : Stmt := topS 23
theorem sc_law_is_clash : FnScope ["_law_want_here", "_law_matter", "_law_cord", "_law_hold", "_law_twin"] ["_law_want_here", "_law_matter"] (defScope s_law_is_clash) := ⟨rfl, rfl, rfl, by decide +kernel, rfl, by decide +kernel, by decide +kernel⟩
theorem d_law_is_clash {f : Addr} {cdv : Value} {A : Around} {outer : List Env} {s : Shared} {H : Hp} {E : XK} {k : Nat} (hr : RoomG k (A.deeper (envOfC "_law_is_clash" (defScope s_law_is_clash) s.heap.objs.size f cdv))) (B : Bn mg) (C_law_wanting : Cal P w K mg base "_law_wanting" k ["_law_want_here", "_law_cord", "_law_hold", "_law_twin"] (spM K 4 Ph_law_wanting)) :
    DSs (cxOf CX0 P w K mg base ["_law_want_here", "_law_matter", "_law_cord", "_law_hold", "_law_twin"] "_law_is_clash" (defScope s_law_is_clash) f cdv A outer s H E).nox (defBody s_law_is_clash) w_law_is_clash := by
  have nd : (["_law_want_here", "_law_matter", "_law_cord", "_law_hold", "_law_twin"] : List Str).Nodup := sc_law_is_clash.nd
  exact (dss_cons (ds_if (dw_pt (dw_or (dt_not (dt_tru (de_isi .tuple B.isinstance_ B.tuple_ (de_var 1)))) (dw_or (dt_cmp (op_neS hr.toRoom.units) ne_ok (de_callB call_len len_ok B.len_ (da_cons (de_var 1) da_nil)) de_int (nomark _)) (dw_or (dt_not (dt_tru (de_isi .str B.isinstance_ B.str_ (de_ix ix_seq ix_ok (de_var 1) de_int (fun _ _ => rfl))))) (dw_or1 (dt_notInG (room65 hr) (de_ix ix_seq ix_ok (de_var 1) de_int (fun _ _ => rfl)) (de_var 0))))))) (dss_one (ds_ret de_bl)) dss_nil)
      (dss_cons (ds_asg (de_var 1) (dg_tup rfl (dgs_cons (dg_name 2 nd) (dgs_cons (dg_name 3 nd) (dgs_cons (dg_name 4 nd) dgs_nil)))))
      (dss_cons (ds_if (dw_pt (dw_or (dt_not (dt_tru (de_isi .tuple B.isinstance_ B.tuple_ (de_var 3)))) (dw_or (dt_cmp (op_notInA (room65 hr)) in_ok (de_var 3) (de_getD (room65 hr) (de_var 0) (de_var 2)) (by rfl)) (dw_or (dt_not (dt_tru (de_isi .str B.isinstance_ B.str_ (de_var 4)))) (dw_or1 (dt_cmp (op_notInA (room65 hr)) in_ok (de_var 4) (de_var 3) (by rfl))))))) (dss_one (ds_ret de_bl)) dss_nil)
      (dss_one (ds_ret (de_callC_M C_law_wanting hr rfl (da_cons (de_var 0) (da_cons (de_var 2) (da_cons (de_var 3) (da_cons (de_var 4) da_nil))))))))))
abbrev s_law_right : Stmt := topS 24
theorem sc_law_right : FnScope ["_law_box_here", "_law_names_here", "_law_want_here", "_law_matters", "_law_cord", "_law_hold", "_law_matter", "_law_stays", "_law_twin", "_law_one"] ["_law_box_here"] (defScope s_law_right) := ⟨rfl, rfl, rfl, by decide +kernel, rfl, by decide +kernel, by decide +kernel⟩
theorem d_law_right {f : Addr} {cdv : Value} {A : Around} {outer : List Env} {s : Shared} {H : Hp} {E : XK} {k : Nat} (hr : RoomG k (A.deeper (envOfC "_law_right" (defScope s_law_right) s.heap.objs.size f cdv))) (B : Bn mg) (C_law_take : Cal P w K mg base "_law_take" k ["_law_box_here", "_law_bound"] (spL K 2 Ph_law_take)) (C_law_names : Cal P w K mg base "_law_names" k ["_law_box_here", "_law_many"] (spL K 2 Ph_law_names)) (C_law_want : Cal P w K mg base "_law_want" k ["_law_box_here", "_law_names_here"] (spLN K 2 Ph_law_want)) (C_law_some : Cal P w K mg base "_law_some" k ["_law_box_here", "_law_names_here", "_law_lowest"] (spL K 3 Ph_law_some)) (C_law_bent : Cal P w K mg base "_law_bent" k ["_law_box_here", "_law_matter"] (spL K 2 Ph_law_bent)) (C_law_is_clash : Cal P w K mg base "_law_is_clash" k ["_law_want_here", "_law_matter"] (spM K 2 Ph_law_is_clash)) (C_shows_clash : Cal P w K mg base "shows_clash" k ["wish", "thing"] (spM K 2 Ph_shows_clash)) (C_law_same : Cal P w K mg base "_law_same" k ["_law_found", "_law_due"] (spD K 2 Ph_law_same)) (C_law_clashes : Cal P w K mg base "_law_clashes" k ["_law_want_here"] (spM K 1 Ph_law_clashes)) (K_shows_clash_0_thing_wish : CalK P w K mg base "shows_clash" k ["wish", "thing"] 0 ["thing", "wish"] [1, 0] (spM K 2 Ph_shows_clash)) :
    DSs (cxOf CX0 P w K mg base ["_law_box_here", "_law_names_here", "_law_want_here", "_law_matters", "_law_cord", "_law_hold", "_law_matter", "_law_stays", "_law_twin", "_law_one"] "_law_right" (defScope s_law_right) f cdv A outer s H E).nox (defBody s_law_right) w_law_right := by
  have nd : (["_law_box_here", "_law_names_here", "_law_want_here", "_law_matters", "_law_cord", "_law_hold", "_law_matter", "_law_stays", "_law_twin", "_law_one"] : List Str).Nodup := sc_law_right.nd
  exact (dss_cons (ds_set false 1 nd (de_callC_L C_law_names hr rfl (da_cons (de_var 0) (da_cons (de_op op_addD add_ok de_int (de_callC_L C_law_take hr rfl (da_cons (de_var 0) (da_cons de_int da_nil)))) da_nil))))
      (dss_cons (ds_set false 2 nd (de_callC_LN C_law_want hr rfl (da_cons (de_var 0) (da_cons (de_var 1) da_nil))))
      (dss_cons (ds_set true 3 nd (de_lst (da_cons de_non (da_cons (de_tup da_nil) (da_cons (de_lst da_nil) (da_cons de_str (da_cons de_int (da_cons (de_tup (da_cons (de_ix ix_seq ix_ok (de_var 1) de_int (fun _ _ => rfl)) da_nil)) (da_cons (de_tup (da_cons (de_ix ix_seq ix_ok (de_var 1) de_int (fun _ _ => rfl)) (da_cons (de_tup da_nil) (da_cons (de_ix ix_seq ix_ok (de_var 1) de_int (fun _ _ => rfl)) da_nil)))) (da_cons (de_tup (da_cons (de_ix ix_seq ix_ok (de_var 1) de_int (fun _ _ => rfl)) (da_cons (de_tup (da_cons (de_ix ix_seq ix_ok (de_var 1) de_int (fun _ _ => rfl)) da_nil)) (da_cons (de_ix ix_seq ix_ok (de_var 1) de_int (fun _ _ => rfl)) da_nil)))) da_nil))))))))))
      (dss_cons (ds_for PassesOwn.never rfl (di_seq (de_var 1)) (dg_name 4 nd) (dss_one (ds_for PassesOwn.never rfl (di_seq (de_op op_addD add_ok (de_getD (room65 hr) (de_var 2) (de_var 4)) (de_lst (da_cons (de_callTy call_tuple_of tupC_ok B.tuple_ (da_cons (de_callC_L C_law_some hr rfl (da_cons (de_var 0) (da_cons (de_var 1) (da_cons de_int da_nil)))) da_nil)) da_nil)))) (dg_name 5 nd) (dss_cons (ds_set true 3 nd (de_op op_addD add_ok (de_op op_addD add_ok (de_var 3) (de_lc (own := [("_law_twin", 8)]) rfl nd (di_seq (de_var 5)) (blkOk_by (by kernel_rfl)) (fun _ => (dg_name 8 nd)) (fun _ => dts_nil) (fun _ => (de_tup (da_cons (de_var 4) (da_cons (de_var 5) (da_cons (de_var 8) da_nil))))))) (de_lst (da_cons (de_lst (da_cons (de_var 4) (da_cons (de_var 5) (da_cons (de_ix ix_seq ix_ok (de_var 5) de_int (fun _ _ => rfl)) da_nil)))) da_nil))))
      (dss_cons (ds_expr (de_append (de_var 3) (de_tup (da_cons (de_var 4) (da_cons (de_callTy call_list_of listC_ok B.list_ (da_cons (de_var 5) da_nil)) (da_cons (de_ix ix_seq ix_ok (de_var 5) de_int (fun _ _ => rfl)) da_nil))))))
      (dss_one (ds_set true 3 nd (de_op op_addD add_ok (de_var 3) (de_lst (da_cons (de_tup (da_cons (de_var 4) (da_cons (de_var 5) (da_cons (de_var 4) da_nil)))) (da_cons (de_callC_L C_law_bent hr rfl (da_cons (de_var 0) (da_cons (de_tup (da_cons (de_var 4) (da_cons (de_var 5) (da_cons (de_ix ix_seq ix_ok (de_var 5) (de_un un_neg neg_ok de_int) (fun _ _ => rfl)) da_nil)))) da_nil))) da_nil)))))))))))
      (dss_cons (ds_for PassesOwn.never rfl (di_seq (de_var 3)) (dg_name 6 nd) (dss_cons (ds_set false 7 nd (de_reprA hr.gu (room150 hr) B.repr_ (de_var 6)))
      (dss_one (ds_if (dw_pt (dw_or (dt_not (dt_tru (de_callC C_law_same hr rfl (da_cons (de_callC_M C_shows_clash hr rfl (da_cons (de_var 2) (da_cons (de_var 6) da_nil))) (da_cons (de_callC_M C_law_is_clash hr rfl (da_cons (de_var 2) (da_cons (de_var 6) da_nil))) da_nil))))) (dw_or1 (dt_cmp (op_neS hr.toRoom.units) ne_ok (de_reprA hr.gu (room150 hr) B.repr_ (de_var 6)) (de_var 7) (nomark _))))) (dss_one (ds_ret de_bl)) dss_nil))))
      (dss_one (ds_ret (de_callB (cr_all rfl) allC_ok B.all_ (da_cons (de_lc (own := [("_law_one", 9)]) rfl nd (di_seq (de_callC_M C_law_clashes hr rfl (da_cons (de_var 2) da_nil))) (blkOk_by (by kernel_rfl)) (fun _ => (dg_name 9 nd)) (fun _ => dts_nil) (fun _ => (de_cmp op_isND isN_ok (de_callK0_M K_shows_clash_0_thing_wish hr rfl (dk_cons (de_var 9) (dk_cons (de_var 2) dk_nil)) (fun xs hx => match xs, hx with | [_, _], _ => rfl)) de_bl (nomark _)))) da_nil)))))))))
abbrev s_law : Stmt := topS 25
theorem sc_law : FnScope ["_law_script", "_law_k", "_law_box_here"] ["_law_script"] (defScope s_law) := ⟨rfl, rfl, rfl, by decide +kernel, rfl, by decide +kernel, by decide +kernel⟩
theorem d_law {f : Addr} {cdv : Value} {A : Around} {outer : List Env} {s : Shared} {H : Hp} {E : XK} {k : Nat} (hr : RoomG k (A.deeper (envOfC "law" (defScope s_law) s.heap.objs.size f cdv))) (B : Bn mg) (C_law_box : Cal P w K mg base "_law_box" k ["_law_script", "_law_k"] (spD K 2 Ph_law_box)) (C_law_right : Cal P w K mg base "_law_right" k ["_law_box_here"] (spL K 1 Ph_law_right)) :
    DSs (cxOf CX0 P w K mg base ["_law_script", "_law_k", "_law_box_here"] "law" (defScope s_law) f cdv A outer s H E).nox (defBody s_law) w_law := by
  have nd : (["_law_script", "_law_k", "_law_box_here"] : List Str).Nodup := sc_law.nd
  exact (dss_cons (ds_for PassesOwn.never rfl (di_range1 B.range_ (da_cons (de_callB (cr_max2 rfl) max2_ok B.max_ (da_cons de_int (da_cons (de_callB (cr_min2 rfl) min2_ok B.min_ (da_cons de_int (da_cons (de_lenS B.len_ (de_var 0)) da_nil))) da_nil))) da_nil)) (dg_name 1 nd) (dss_cons (ds_set true 2 nd (de_callC C_law_box hr rfl (da_cons (de_var 0) (da_cons (de_var 1) da_nil))))
      (dss_one (ds_if (dw_pt (dw_or (dt_not (dt_tru (de_callC_L C_law_right hr rfl (da_cons (de_var 2) da_nil)))) (dw_or1 (dt_not (dt_tru (de_callC_L C_law_right hr rfl (da_cons (de_var 2) da_nil))))))) (dss_one (ds_ret de_bl)) dss_nil))))
      (dss_one (ds_ret de_bl)))
theorem ok_is_within {f : Addr} {fd : FuncData} {k : Nat} (F : Fun K "is_within" "is_within" s_is_within f fd) (B : Bn mg) : FnG P w K mg base CX0 (k + 1) f fd ["one", "other"] (spD K 2 Ph_is_within) :=
  dfn F sc_is_within fun cdv A outer s H E hr => ⟨_, d_is_within hr B, r_is_within⟩
theorem ok_with_rope {f : Addr} {fd : FuncData} {k : Nat} (F : Fun K "with_rope" "with_rope" s_with_rope f fd) (B : Bn mg) : FnG P w K mg base CX0 (k + 1) f fd ["hold", "rope"] (spD K 2 Ph_with_rope) :=
  dfn F sc_with_rope fun cdv A outer s H E hr => ⟨_, d_with_rope hr B, r_with_rope⟩
theorem ok_is_wanting {f : Addr} {fd : FuncData} {k : Nat} (F : Fun K "is_wanting" "is_wanting" s_is_wanting f fd) (B : Bn mg) (C_with_rope : Cal P w K mg base "with_rope" k ["hold", "rope"] (spD K 2 Ph_with_rope)) (C_is_within : Cal P w K mg base "is_within" k ["one", "other"] (spD K 2 Ph_is_within)) : FnG P w K mg base CX0 (k + 1) f fd ["wish", "rope", "hold", "other"] (spM K 4 Ph_is_wanting) :=
  dfnM F sc_is_wanting rfl fun cdv A outer s H E hr => ⟨_, d_is_wanting hr B C_with_rope C_is_within, r_is_wanting⟩
theorem ok_shows_clash {f : Addr} {fd : FuncData} {k : Nat} (F : Fun K "shows_clash" "shows_clash" s_shows_clash f fd) (B : Bn mg) (C_is_wanting : Cal P w K mg base "is_wanting" k ["wish", "rope", "hold", "other"] (spM K 4 Ph_is_wanting)) : FnG P w K mg base CX0 (k + 1) f fd ["wish", "thing"] (spM K 2 Ph_shows_clash) :=
  dfnM F sc_shows_clash rfl fun cdv A outer s H E hr => ⟨_, d_shows_clash hr B C_is_wanting, r_shows_clash⟩
theorem ok_law_box {f : Addr} {fd : FuncData} {k : Nat} (F : Fun K "_law_box" "_law_box" s_law_box f fd) (B : Bn mg) : FnG P w K mg base CX0 (k + 1) f fd ["_law_script", "_law_k"] (spD K 2 Ph_law_box) :=
  dfn F sc_law_box fun cdv A outer s H E hr => ⟨_, d_law_box hr B, r_law_box⟩
theorem ok_law_take {f : Addr} {fd : FuncData} {k : Nat} (F : Fun K "_law_take" "_law_take" s_law_take f fd) (B : Bn mg) : FnG P w K mg base CX0 (k + 1) f fd ["_law_box_here", "_law_bound"] (spL K 2 Ph_law_take) :=
  dfnL F sc_law_take rfl fun cdv A outer s H E hr => ⟨_, d_law_take hr B, r_law_take⟩
theorem ok_law_pick {f : Addr} {fd : FuncData} {k : Nat} (F : Fun K "_law_pick" "_law_pick" s_law_pick f fd) (B : Bn mg) (C_law_take : Cal P w K mg base "_law_take" k ["_law_box_here", "_law_bound"] (spL K 2 Ph_law_take)) : FnG P w K mg base CX0 (k + 1) f fd ["_law_box_here", "_law_things"] (spL K 2 Ph_law_pick) :=
  dfnL F sc_law_pick rfl fun cdv A outer s H E hr => ⟨_, d_law_pick hr B C_law_take, r_law_pick⟩
theorem no_law_same {vs : List V} {H : Hp} {Q : VK} {E : XK} (h : spD K 2 (Ph_law_sameN 0) vs H Q E) : False := by
  obtain ⟨_, G, rs, P, _, _, h, _⟩ := h
  exact n_law_same h
theorem ok_law_same {f : Addr} {fd : FuncData} {k : Nat} (F : Fun K "_law_same" "_law_same" s_law_same f fd) (B : Bn mg) (hm : mg "_law_same" = some (.ref f)) (hk : PySem.W.keepIn K (.ref f) = true) (hb : Binds K fd ["_law_found", "_law_due"] []) : ∀ n : Nat, FnG P w K mg base CX0 (k + n) f fd ["_law_found", "_law_due"] (spD K 2 (Ph_law_sameN n))
  | 0 => ⟨fun vs H Q E h => h.1, fun A outer s H as us vs Q E hr he hb hv hs => (no_law_same hs).elim⟩
  | n + 1 => dfn F sc_law_same fun cdv A outer s H E hr => ⟨_, d_law_same hr B ⟨_, _, ok_law_same F B hm hk hb n, hm, hk, hb⟩, r_law_same n⟩
theorem ok_law_names {f : Addr} {fd : FuncData} {k : Nat} (F : Fun K "_law_names" "_law_names" s_law_names f fd) (B : Bn mg) (C_law_take : Cal P w K mg base "_law_take" k ["_law_box_here", "_law_bound"] (spL K 2 Ph_law_take)) : FnG P w K mg base CX0 (k + 1) f fd ["_law_box_here", "_law_many"] (spL K 2 Ph_law_names) :=
  dfnL F sc_law_names rfl fun cdv A outer s H E hr => ⟨_, d_law_names hr B C_law_take, r_law_names⟩
theorem ok_law_some {f : Addr} {fd : FuncData} {k : Nat} (F : Fun K "_law_some" "_law_some" s_law_some f fd) (B : Bn mg) (C_law_take : Cal P w K mg base "_law_take" k ["_law_box_here", "_law_bound"] (spL K 2 Ph_law_take)) : FnG P w K mg base CX0 (k + 1) f fd ["_law_box_here", "_law_names_here", "_law_lowest"] (spL K 3 Ph_law_some) :=
  dfnL F sc_law_some rfl fun cdv A outer s H E hr => ⟨_, d_law_some hr B C_law_take, r_law_some⟩
theorem ok_law_sets {f : Addr} {fd : FuncData} {k : Nat} (F : Fun K "_law_sets" "_law_sets" s_law_sets f fd) (B : Bn mg) : FnG P w K mg base CX0 (k + 1) f fd ["_law_names_here", "_law_lowest"] (spD K 2 Ph_law_sets) :=
  dfn F sc_law_sets fun cdv A outer s H E hr => ⟨_, d_law_sets hr B, r_law_sets⟩
theorem ok_law_odd {f : Addr} {fd : FuncData} {k : Nat} (F : Fun K "_law_odd" "_law_odd" s_law_odd f fd) (B : Bn mg) (C_law_pick : Cal P w K mg base "_law_pick" k ["_law_box_here", "_law_things"] (spL K 2 Ph_law_pick)) : FnG P w K mg base CX0 (k + 1) f fd ["_law_box_here", "_law_matter"] (spL K 2 Ph_law_odd) :=
  dfnL F sc_law_odd rfl fun cdv A outer s H E hr => ⟨_, d_law_odd hr B C_law_pick, r_law_odd⟩
theorem no_law_bent {vs : List V} {H : Hp} {Q : VK} {E : XK} (h : spL K 2 (Ph_law_bentN 0) vs H Q E) : False := by
  obtain ⟨_, _, _, _, _, _, _, _, _, _, h, _⟩ := h
  exact n_law_bent h
theorem ok_law_bent {f : Addr} {fd : FuncData} {k : Nat} (F : Fun K "_law_bent" "_law_bent" s_law_bent f fd) (B : Bn mg) (hm : mg "_law_bent" = some (.ref f)) (hk : PySem.W.keepIn K (.ref f) = true) (hb : Binds K fd ["_law_box_here", "_law_matter"] []) (C_law_take : Cal P w K mg base "_law_take" k ["_law_box_here", "_law_bound"] (spL K 2 Ph_law_take)) (C_law_odd : Cal P w K mg base "_law_odd" k ["_law_box_here", "_law_matter"] (spL K 2 Ph_law_odd)) : ∀ n : Nat, FnG P w K mg base CX0 (k + n) f fd ["_law_box_here", "_law_matter"] (spL K 2 (Ph_law_bentN n))
  | 0 => ⟨fun vs H Q E h => h.1, fun A outer s H as us vs Q E hr he hb hv hs => (no_law_bent hs).elim⟩
  | n + 1 => dfnL F sc_law_bent rfl fun cdv A outer s H E hr => ⟨_, d_law_bent hr B (C_law_take.mono (Nat.le_add_right _ _)) (C_law_odd.mono (Nat.le_add_right _ _)) ⟨_, _, ok_law_bent F B hm hk hb C_law_take C_law_odd n, hm, hk, hb⟩, r_law_bent n⟩
theorem ok_law_inside {f : Addr} {fd : FuncData} {k : Nat} (F : Fun K "_law_inside" "_law_inside" s_law_inside f fd) (B : Bn mg) : FnG P w K mg base CX0 (k + 1) f fd ["_law_some_here", "_law_found"] (spD K 2 Ph_law_inside) :=
  dfn F sc_law_inside fun cdv A outer s H E hr => ⟨_, d_law_inside hr B, r_law_inside⟩
theorem ok_law_family {f : Addr} {fd : FuncData} {k : Nat} (F : Fun K "_law_family" "_law_family" s_law_family f fd) (B : Bn mg) (C_law_sets : Cal P w K mg base "_law_sets" k ["_law_names_here", "_law_lowest"] (spD K 2 Ph_law_sets)) (C_law_take : Cal P w K mg base "_law_take" k ["_law_box_here", "_law_bound"] (spL K 2 Ph_law_take)) : FnG P w K mg base CX0 (k + 1) f fd ["_law_box_here", "_law_names_here", "_law_most"] (spL K 3 Ph_law_family) :=
  dfnL F sc_law_family rfl fun cdv A outer s H E hr => ⟨_, d_law_family hr B C_law_sets C_law_take, r_law_family⟩
theorem ok_law_tops {f : Addr} {fd : FuncData} {k : Nat} (F : Fun K "_law_tops" "_law_tops" s_law_tops f fd) (B : Bn mg) (C_law_inside : Cal P w K mg base "_law_inside" k ["_law_some_here", "_law_found"] (spD K 2 Ph_law_inside)) : FnG P w K mg base CX0 (k + 1) f fd ["_law_some_here"] (spD K 1 Ph_law_tops) :=
  dfn F sc_law_tops fun cdv A outer s H E hr => ⟨_, d_law_tops hr B C_law_inside, r_law_tops⟩
theorem ok_law_holds_by {f : Addr} {fd : FuncData} {k : Nat} (F : Fun K "_law_holds_by" "_law_holds_by" s_law_holds_by f fd) (B : Bn mg) (C_law_tops : Cal P w K mg base "_law_tops" k ["_law_some_here"] (spD K 1 Ph_law_tops)) : FnG P w K mg base CX0 (k + 1) f fd ["_law_family_here", "_law_cord"] (spD K 2 Ph_law_holds_by) :=
  dfn F sc_law_holds_by fun cdv A outer s H E hr => ⟨_, d_law_holds_by hr B C_law_tops, r_law_holds_by⟩
theorem ok_law_wanting {f : Addr} {fd : FuncData} {k : Nat} (F : Fun K "_law_wanting" "_law_wanting" s_law_wanting f fd) (B : Bn mg) (C_law_inside : Cal P w K mg base "_law_inside" k ["_law_some_here", "_law_found"] (spD K 2 Ph_law_inside)) : FnG P w K mg base CX0 (k + 1) f fd ["_law_want_here", "_law_cord", "_law_hold", "_law_twin"] (spM K 4 Ph_law_wanting) :=
  dfnM F sc_law_wanting rfl fun cdv A outer s H E hr => ⟨_, d_law_wanting hr B C_law_inside, r_law_wanting⟩
theorem ok_law_clashes {f : Addr} {fd : FuncData} {k : Nat} (F : Fun K "_law_clashes" "_law_clashes" s_law_clashes f fd) (B : Bn mg) (C_law_wanting : Cal P w K mg base "_law_wanting" k ["_law_want_here", "_law_cord", "_law_hold", "_law_twin"] (spM K 4 Ph_law_wanting)) : FnG P w K mg base CX0 (k + 1) f fd ["_law_want_here"] (spM K 1 Ph_law_clashes) :=
  dfnM F sc_law_clashes rfl fun cdv A outer s H E hr => ⟨_, d_law_clashes hr B C_law_wanting, r_law_clashes⟩
theorem ok_law_want {f : Addr} {fd : FuncData} {k : Nat} (F : Fun K "_law_want" "_law_want" s_law_want f fd) (B : Bn mg) (C_law_family : Cal P w K mg base "_law_family" k ["_law_box_here", "_law_names_here", "_law_most"] (spL K 3 Ph_law_family)) (C_law_holds_by : Cal P w K mg base "_law_holds_by" k ["_law_family_here", "_law_cord"] (spD K 2 Ph_law_holds_by)) (C_law_take : Cal P w K mg base "_law_take" k ["_law_box_here", "_law_bound"] (spL K 2 Ph_law_take)) (C_law_pick : Cal P w K mg base "_law_pick" k ["_law_box_here", "_law_things"] (spL K 2 Ph_law_pick)) (C_law_some : Cal P w K mg base "_law_some" k ["_law_box_here", "_law_names_here", "_law_lowest"] (spL K 3 Ph_law_some)) (C_law_inside : Cal P w K mg base "_law_inside" k ["_law_some_here", "_law_found"] (spD K 2 Ph_law_inside)) (C_law_tops : Cal P w K mg base "_law_tops" k ["_law_some_here"] (spD K 1 Ph_law_tops)) : FnG P w K mg base CX0 (k + 1) f fd ["_law_box_here", "_law_names_here"] (spLN K 2 Ph_law_want) :=
  dfnLN F sc_law_want rfl fun cdv A outer s H E hr => ⟨_, d_law_want hr B C_law_family C_law_holds_by C_law_take C_law_pick C_law_some C_law_inside C_law_tops, r_law_want⟩
theorem ok_law_is_clash {f : Addr} {fd : FuncData} {k : Nat} (F : Fun K "_law_is_clash" "_law_is_clash" s_law_is_clash f fd) (B : Bn mg) (C_law_wanting : Cal P w K mg base "_law_wanting" k ["_law_want_here", "_law_cord", "_law_hold", "_law_twin"] (spM K 4 Ph_law_wanting)) : FnG P w K mg base CX0 (k + 1) f fd ["_law_want_here", "_law_matter"] (spM K 2 Ph_law_is_clash) :=
  dfnM F sc_law_is_clash rfl fun cdv A outer s H E hr => ⟨_, d_law_is_clash hr B C_law_wanting, r_law_is_clash⟩
theorem ok_law_right {f : Addr} {fd : FuncData} {k : Nat} (F : Fun K "_law_right" "_law_right" s_law_right f fd) (B : Bn mg) (C_law_take : Cal P w K mg base "_law_take" k ["_law_box_here", "_law_bound"] (spL K 2 Ph_law_take)) (C_law_names : Cal P w K mg base "_law_names" k ["_law_box_here", "_law_many"] (spL K 2 Ph_law_names)) (C_law_want : Cal P w K mg base "_law_want" k ["_law_box_here", "_law_names_here"] (spLN K 2 Ph_law_want)) (C_law_some : Cal P w K mg base "_law_some" k ["_law_box_here", "_law_names_here", "_law_lowest"] (spL K 3 Ph_law_some)) (C_law_bent : Cal P w K mg base "_law_bent" k ["_law_box_here", "_law_matter"] (spL K 2 Ph_law_bent)) (C_law_is_clash : Cal P w K mg base "_law_is_clash" k ["_law_want_here", "_law_matter"] (spM K 2 Ph_law_is_clash)) (C_shows_clash : Cal P w K mg base "shows_clash" k ["wish", "thing"] (spM K 2 Ph_shows_clash)) (C_law_same : Cal P w K mg base "_law_same" k ["_law_found", "_law_due"] (spD K 2 Ph_law_same)) (C_law_clashes : Cal P w K mg base "_law_clashes" k ["_law_want_here"] (spM K 1 Ph_law_clashes)) (K_shows_clash_0_thing_wish : CalK P w K mg base "shows_clash" k ["wish", "thing"] 0 ["thing", "wish"] [1, 0] (spM K 2 Ph_shows_clash)) : FnG P w K mg base CX0 (k + 1) f fd ["_law_box_here"] (spL K 1 Ph_law_right) :=
  dfnL F sc_law_right rfl fun cdv A outer s H E hr => ⟨_, d_law_right hr B C_law_take C_law_names C_law_want C_law_some C_law_bent C_law_is_clash C_shows_clash C_law_same C_law_clashes K_shows_clash_0_thing_wish, r_law_right⟩
theorem ok_law {f : Addr} {fd : FuncData} {k : Nat} (F : Fun K "law" "law" s_law f fd) (B : Bn mg) (C_law_box : Cal P w K mg base "_law_box" k ["_law_script", "_law_k"] (spD K 2 Ph_law_box)) (C_law_right : Cal P w K mg base "_law_right" k ["_law_box_here"] (spL K 1 Ph_law_right)) : FnG P w K mg base CX0 (k + 1) f fd ["_law_script"] (spD K 1 Ph_law) :=
  dfn F sc_law fun cdv A outer s H E hr => ⟨_, d_law hr B C_law_box C_law_right, r_law⟩
end
theorem all_mk {l : PySem.W.OpenLaw} {w : World} {K : PySem.W.Frag} {h : Heap} {mg : Str → Option Value} {fa f1 f2 f3 f4 f5 f6 f7 f8 f9 f10 f11 f12 f13 f14 f15 f16 f17 f18 f19 f20 f21 f22 f23 : Addr} (X : K.In h) (G : h.Ns mainGlobals mg) (hfa : mg "law" = some (.ref fa))
    {od1 an1 od2 an2 od3 an3 od4 an4 od5 an5 od6 an6 od7 an7 od8 an8 od9 an9 od10 an10 od11 an11 od12 an12 od13 an13 od14 an14 od15 an15 od16 an16 od17 an17 od18 an18 od19 an19 od20 an20 od21 an21 od22 an22 od23 an23 : Option Addr} {sl1 sl2 sl3 sl4 sl5 sl6 sl7 sl8 sl9 sl10 sl11 sl12 sl13 sl14 sl15 sl16 sl17 sl18 sl19 sl20 sl21 sl22 sl23 : Array (Option Value)} {oc1 kV1 dc1 pm1 cd1 ct1 oc2 kV2 dc2 pm2 cd2 ct2 oc3 kV3 dc3 pm3 cd3 ct3 oc4 kV4 dc4 pm4 cd4 ct4 oc5 kV5 dc5 pm5 cd5 ct5 oc6 kV6 dc6 pm6 cd6 ct6 oc7 kV7 dc7 pm7 cd7 ct7 oc8 kV8 dc8 pm8 cd8 ct8 oc9 kV9 dc9 pm9 cd9 ct9 oc10 kV10 dc10 pm10 cd10 ct10 oc11 kV11 dc11 pm11 cd11 ct11 oc12 kV12 dc12 pm12 cd12 ct12 oc13 kV13 dc13 pm13 cd13 ct13 oc14 kV14 dc14 pm14 cd14 ct14 oc15 kV15 dc15 pm15 cd15 ct15 oc16 kV16 dc16 pm16 cd16 ct16 oc17 kV17 dc17 pm17 cd17 ct17 oc18 kV18 dc18 pm18 cd18 ct18 oc19 kV19 dc19 pm19 cd19 ct19 oc20 kV20 dc20 pm20 cd20 ct20 oc21 kV21 dc21 pm21 cd21 ct21 oc22 kV22 dc22 pm22 cd22 ct22 oc23 kV23 dc23 pm23 cd23 ct23 : Value}
    (a1 : PySem.W.nsIn K mainGlobals "is_within" = some (some (.ref f1))) (l1 : K.lookup f1 = some ⟨oc1, od1, .func (PySem.W.fnOf "is_within" "is_within" (defArgs s_is_within) (defBody s_is_within) (defScope s_is_within) .none kV1 dc1 pm1 an1 cd1 ct1), sl1⟩) (c1 : PySem.W.codeIn K cd1 "is_within" = true) (k1 : PySem.W.keepIn K (.ref f1) = true)
    (a2 : PySem.W.nsIn K mainGlobals "with_rope" = some (some (.ref f2))) (l2 : K.lookup f2 = some ⟨oc2, od2, .func (PySem.W.fnOf "with_rope" "with_rope" (defArgs s_with_rope) (defBody s_with_rope) (defScope s_with_rope) .none kV2 dc2 pm2 an2 cd2 ct2), sl2⟩) (c2 : PySem.W.codeIn K cd2 "with_rope" = true) (k2 : PySem.W.keepIn K (.ref f2) = true)
    (a3 : PySem.W.nsIn K mainGlobals "is_wanting" = some (some (.ref f3))) (l3 : K.lookup f3 = some ⟨oc3, od3, .func (PySem.W.fnOf "is_wanting" "is_wanting" (defArgs s_is_wanting) (defBody s_is_wanting) (defScope s_is_wanting) .none kV3 dc3 pm3 an3 cd3 ct3), sl3⟩) (c3 : PySem.W.codeIn K cd3 "is_wanting" = true) (k3 : PySem.W.keepIn K (.ref f3) = true)
    (a4 : PySem.W.nsIn K mainGlobals "shows_clash" = some (some (.ref f4))) (l4 : K.lookup f4 = some ⟨oc4, od4, .func (PySem.W.fnOf "shows_clash" "shows_clash" (defArgs s_shows_clash) (defBody s_shows_clash) (defScope s_shows_clash) .none kV4 dc4 pm4 an4 cd4 ct4), sl4⟩) (c4 : PySem.W.codeIn K cd4 "shows_clash" = true) (k4 : PySem.W.keepIn K (.ref f4) = true)
    (a5 : PySem.W.nsIn K mainGlobals "_law_box" = some (some (.ref f5))) (l5 : K.lookup f5 = some ⟨oc5, od5, .func (PySem.W.fnOf "_law_box" "_law_box" (defArgs s_law_box) (defBody s_law_box) (defScope s_law_box) .none kV5 dc5 pm5 an5 cd5 ct5), sl5⟩) (c5 : PySem.W.codeIn K cd5 "_law_box" = true) (k5 : PySem.W.keepIn K (.ref f5) = true)
    (a6 : PySem.W.nsIn K mainGlobals "_law_take" = some (some (.ref f6))) (l6 : K.lookup f6 = some ⟨oc6, od6, .func (PySem.W.fnOf "_law_take" "_law_take" (defArgs s_law_take) (defBody s_law_take) (defScope s_law_take) .none kV6 dc6 pm6 an6 cd6 ct6), sl6⟩) (c6 : PySem.W.codeIn K cd6 "_law_take" = true) (k6 : PySem.W.keepIn K (.ref f6) = true)
    (a7 : PySem.W.nsIn K mainGlobals "_law_pick" = some (some (.ref f7))) (l7 : K.lookup f7 = some ⟨oc7, od7, .func (PySem.W.fnOf "_law_pick" "_law_pick" (defArgs s_law_pick) (defBody s_law_pick) (defScope s_law_pick) .none kV7 dc7 pm7 an7 cd7 ct7), sl7⟩) (c7 : PySem.W.codeIn K cd7 "_law_pick" = true) (k7 : PySem.W.keepIn K (.ref f7) = true)
    (a8 : PySem.W.nsIn K mainGlobals "_law_same" = some (some (.ref f8))) (l8 : K.lookup f8 = some ⟨oc8, od8, .func (PySem.W.fnOf "_law_same" "_law_same" (defArgs s_law_same) (defBody s_law_same) (defScope s_law_same) .none kV8 dc8 pm8 an8 cd8 ct8), sl8⟩) (c8 : PySem.W.codeIn K cd8 "_law_same" = true) (k8 : PySem.W.keepIn K (.ref f8) = true)
    (a9 : PySem.W.nsIn K mainGlobals "_law_names" = some (some (.ref f9))) (l9 : K.lookup f9 = some ⟨oc9, od9, .func (PySem.W.fnOf "_law_names" "_law_names" (defArgs s_law_names) (defBody s_law_names) (defScope s_law_names) .none kV9 dc9 pm9 an9 cd9 ct9), sl9⟩) (c9 : PySem.W.codeIn K cd9 "_law_names" = true) (k9 : PySem.W.keepIn K (.ref f9) = true)
    (a10 : PySem.W.nsIn K mainGlobals "_law_some" = some (some (.ref f10))) (l10 : K.lookup f10 = some ⟨oc10, od10, .func (PySem.W.fnOf "_law_some" "_law_some" (defArgs s_law_some) (defBody s_law_some) (defScope s_law_some) .none kV10 dc10 pm10 an10 cd10 ct10), sl10⟩) (c10 : PySem.W.codeIn K cd10 "_law_some" = true) (k10 : PySem.W.keepIn K (.ref f10) = true)
    (a11 : PySem.W.nsIn K mainGlobals "_law_sets" = some (some (.ref f11))) (l11 : K.lookup f11 = some ⟨oc11, od11, .func (PySem.W.fnOf "_law_sets" "_law_sets" (defArgs s_law_sets) (defBody s_law_sets) (defScope s_law_sets) .none kV11 dc11 pm11 an11 cd11 ct11), sl11⟩) (c11 : PySem.W.codeIn K cd11 "_law_sets" = true) (k11 : PySem.W.keepIn K (.ref f11) = true)
    (a12 : PySem.W.nsIn K mainGlobals "_law_odd" = some (some (.ref f12))) (l12 : K.lookup f12 = some ⟨oc12, od12, .func (PySem.W.fnOf "_law_odd" "_law_odd" (defArgs s_law_odd) (defBody s_law_odd) (defScope s_law_odd) .none kV12 dc12 pm12 an12 cd12 ct12), sl12⟩) (c12 : PySem.W.codeIn K cd12 "_law_odd" = true) (k12 : PySem.W.keepIn K (.ref f12) = true)
    (a13 : PySem.W.nsIn K mainGlobals "_law_bent" = some (some (.ref f13))) (l13 : K.lookup f13 = some ⟨oc13, od13, .func (PySem.W.fnOf "_law_bent" "_law_bent" (defArgs s_law_bent) (defBody s_law_bent) (defScope s_law_bent) .none kV13 dc13 pm13 an13 cd13 ct13), sl13⟩) (c13 : PySem.W.codeIn K cd13 "_law_bent" = true) (k13 : PySem.W.keepIn K (.ref f13) = true)
    (a14 : PySem.W.nsIn K mainGlobals "_law_inside" = some (some (.ref f14))) (l14 : K.lookup f14 = some ⟨oc14, od14, .func (PySem.W.fnOf "_law_inside" "_law_inside" (defArgs s_law_inside) (defBody s_law_inside) (defScope s_law_inside) .none kV14 dc14 pm14 an14 cd14 ct14), sl14⟩) (c14 : PySem.W.codeIn K cd14 "_law_inside" = true) (k14 : PySem.W.keepIn K (.ref f14) = true)
    (a15 : PySem.W.nsIn K mainGlobals "_law_family" = some (some (.ref f15))) (l15 : K.lookup f15 = some ⟨oc15, od15, .func (PySem.W.fnOf "_law_family" "_law_family" (defArgs s_law_family) (defBody s_law_family) (defScope s_law_family) .none kV15 dc15 pm15 an15 cd15 ct15), sl15⟩) (c15 : PySem.W.codeIn K cd15 "_law_family" = true) (k15 : PySem.W.keepIn K (.ref f15) = true)
    (a16 : PySem.W.nsIn K mainGlobals "_law_tops" = some (some (.ref f16))) (l16 : K.lookup f16 = some ⟨oc16, od16, .func (PySem.W.fnOf "_law_tops" "_law_tops" (defArgs s_law_tops) (defBody s_law_tops) (defScope s_law_tops) .none kV16 dc16 pm16 an16 cd16 ct16), sl16⟩) (c16 : PySem.W.codeIn K cd16 "_law_tops" = true) (k16 : PySem.W.keepIn K (.ref f16) = true)
    (a17 : PySem.W.nsIn K mainGlobals "_law_holds_by" = some (some (.ref f17))) (l17 : K.lookup f17 = some ⟨oc17, od17, .func (PySem.W.fnOf "_law_holds_by" "_law_holds_by" (defArgs s_law_holds_by) (defBody s_law_holds_by) (defScope s_law_holds_by) .none kV17 dc17 pm17 an17 cd17 ct17), sl17⟩) (c17 : PySem.W.codeIn K cd17 "_law_holds_by" = true) (k17 : PySem.W.keepIn K (.ref f17) = true)
    (a18 : PySem.W.nsIn K mainGlobals "_law_wanting" = some (some (.ref f18))) (l18 : K.lookup f18 = some ⟨oc18, od18, .func (PySem.W.fnOf "_law_wanting" "_law_wanting" (defArgs s_law_wanting) (defBody s_law_wanting) (defScope s_law_wanting) .none kV18 dc18 pm18 an18 cd18 ct18), sl18⟩) (c18 : PySem.W.codeIn K cd18 "_law_wanting" = true) (k18 : PySem.W.keepIn K (.ref f18) = true)
    (a19 : PySem.W.nsIn K mainGlobals "_law_clashes" = some (some (.ref f19))) (l19 : K.lookup f19 = some ⟨oc19, od19, .func (PySem.W.fnOf "_law_clashes" "_law_clashes" (defArgs s_law_clashes) (defBody s_law_clashes) (defScope s_law_clashes) .none kV19 dc19 pm19 an19 cd19 ct19), sl19⟩) (c19 : PySem.W.codeIn K cd19 "_law_clashes" = true) (k19 : PySem.W.keepIn K (.ref f19) = true)
    (a20 : PySem.W.nsIn K mainGlobals "_law_want" = some (some (.ref f20))) (l20 : K.lookup f20 = some ⟨oc20, od20, .func (PySem.W.fnOf "_law_want" "_law_want" (defArgs s_law_want) (defBody s_law_want) (defScope s_law_want) .none kV20 dc20 pm20 an20 cd20 ct20), sl20⟩) (c20 : PySem.W.codeIn K cd20 "_law_want" = true) (k20 : PySem.W.keepIn K (.ref f20) = true)
    (a21 : PySem.W.nsIn K mainGlobals "_law_is_clash" = some (some (.ref f21))) (l21 : K.lookup f21 = some ⟨oc21, od21, .func (PySem.W.fnOf "_law_is_clash" "_law_is_clash" (defArgs s_law_is_clash) (defBody s_law_is_clash) (defScope s_law_is_clash) .none kV21 dc21 pm21 an21 cd21 ct21), sl21⟩) (c21 : PySem.W.codeIn K cd21 "_law_is_clash" = true) (k21 : PySem.W.keepIn K (.ref f21) = true)
    (a22 : PySem.W.nsIn K mainGlobals "_law_right" = some (some (.ref f22))) (l22 : K.lookup f22 = some ⟨oc22, od22, .func (PySem.W.fnOf "_law_right" "_law_right" (defArgs s_law_right) (defBody s_law_right) (defScope s_law_right) .none kV22 dc22 pm22 an22 cd22 ct22), sl22⟩) (c22 : PySem.W.codeIn K cd22 "_law_right" = true) (k22 : PySem.W.keepIn K (.ref f22) = true)
    (a23 : PySem.W.nsIn K mainGlobals "law" = some (some (.ref f23))) (l23 : K.lookup f23 = some ⟨oc23, od23, .func (PySem.W.fnOf "law" "law" (defArgs s_law) (defBody s_law) (defScope s_law) .none kV23 dc23 pm23 an23 cd23 ct23), sl23⟩) (c23 : PySem.W.codeIn K cd23 "law" = true) (k23 : PySem.W.keepIn K (.ref f23) = true)
    (z1 : PySem.W.nsIn K mainGlobals "all" = some none) (z2 : PySem.W.nsIn K mainGlobals "list" = some none) (z3 : PySem.W.nsIn K mainGlobals "sorted" = some none) (z4 : PySem.W.nsIn K mainGlobals "tuple" = some none) (z5 : PySem.W.nsIn K mainGlobals "any" = some none) (z6 : PySem.W.nsIn K mainGlobals "isinstance" = some none) (z7 : PySem.W.nsIn K mainGlobals "len" = some none) (z8 : PySem.W.nsIn K mainGlobals "str" = some none) (z9 : PySem.W.nsIn K mainGlobals "abs" = some none) (z10 : PySem.W.nsIn K mainGlobals "int" = some none) (z11 : PySem.W.nsIn K mainGlobals "zip" = some none) (z12 : PySem.W.nsIn K mainGlobals "bool" = some none) (z13 : PySem.W.nsIn K mainGlobals "range" = some none) (z14 : PySem.W.nsIn K mainGlobals "dict" = some none) (z15 : PySem.W.nsIn K mainGlobals "repr" = some none) (z16 : PySem.W.nsIn K mainGlobals "min" = some none) (z17 : PySem.W.nsIn K mainGlobals "max" = some none) :
    ∃ fd : FuncData, (∀ (s : Shared) (v : Value), BindsTo s fd ⟨[v], []⟩ [("_law_script", v)]) ∧ ∀ base : Heap, K.In base → base.Ns mainGlobals mg → FnG l.prog w K mg base CX0 14 fa fd ["_law_script"] (spD K 1 Ph_law) := by
  have e := hfa.symm.trans (PySem.W.mg_of X G a23)
  cases e
  have F1 := fun_mk (st := s_is_within) l1 c1 k1
  have b1 := F1.binds (ps := ["one", "other"]) fun _ _ _ _ _ _ us hl => match us, hl with | [_, _], _ => rfl
  have m1 := PySem.W.mg_of X G a1
  have F2 := fun_mk (st := s_with_rope) l2 c2 k2
  have b2 := F2.binds (ps := ["hold", "rope"]) fun _ _ _ _ _ _ us hl => match us, hl with | [_, _], _ => rfl
  have m2 := PySem.W.mg_of X G a2
  have F3 := fun_mk (st := s_is_wanting) l3 c3 k3
  have b3 := F3.binds (ps := ["wish", "rope", "hold", "other"]) fun _ _ _ _ _ _ us hl => match us, hl with | [_, _, _, _], _ => rfl
  have m3 := PySem.W.mg_of X G a3
  have F4 := fun_mk (st := s_shows_clash) l4 c4 k4
  have b4 := F4.binds (ps := ["wish", "thing"]) fun _ _ _ _ _ _ us hl => match us, hl with | [_, _], _ => rfl
  have m4 := PySem.W.mg_of X G a4
  have F5 := fun_mk (st := s_law_box) l5 c5 k5
  have b5 := F5.binds (ps := ["_law_script", "_law_k"]) fun _ _ _ _ _ _ us hl => match us, hl with | [_, _], _ => rfl
  have m5 := PySem.W.mg_of X G a5
  have F6 := fun_mk (st := s_law_take) l6 c6 k6
  have b6 := F6.binds (ps := ["_law_box_here", "_law_bound"]) fun _ _ _ _ _ _ us hl => match us, hl with | [_, _], _ => rfl
  have m6 := PySem.W.mg_of X G a6
  have F7 := fun_mk (st := s_law_pick) l7 c7 k7
  have b7 := F7.binds (ps := ["_law_box_here", "_law_things"]) fun _ _ _ _ _ _ us hl => match us, hl with | [_, _], _ => rfl
  have m7 := PySem.W.mg_of X G a7
  have F8 := fun_mk (st := s_law_same) l8 c8 k8
  have b8 := F8.binds (ps := ["_law_found", "_law_due"]) fun _ _ _ _ _ _ us hl => match us, hl with | [_, _], _ => rfl
  have m8 := PySem.W.mg_of X G a8
  have F9 := fun_mk (st := s_law_names) l9 c9 k9
  have b9 := F9.binds (ps := ["_law_box_here", "_law_many"]) fun _ _ _ _ _ _ us hl => match us, hl with | [_, _], _ => rfl
  have m9 := PySem.W.mg_of X G a9
  have F10 := fun_mk (st := s_law_some) l10 c10 k10
  have b10 := F10.binds (ps := ["_law_box_here", "_law_names_here", "_law_lowest"]) fun _ _ _ _ _ _ us hl => match us, hl with | [_, _, _], _ => rfl
  have m10 := PySem.W.mg_of X G a10
  have F11 := fun_mk (st := s_law_sets) l11 c11 k11
  have b11 := F11.binds (ps := ["_law_names_here", "_law_lowest"]) fun _ _ _ _ _ _ us hl => match us, hl with | [_, _], _ => rfl
  have m11 := PySem.W.mg_of X G a11
  have F12 := fun_mk (st := s_law_odd) l12 c12 k12
  have b12 := F12.binds (ps := ["_law_box_here", "_law_matter"]) fun _ _ _ _ _ _ us hl => match us, hl with | [_, _], _ => rfl
  have m12 := PySem.W.mg_of X G a12
  have F13 := fun_mk (st := s_law_bent) l13 c13 k13
  have b13 := F13.binds (ps := ["_law_box_here", "_law_matter"]) fun _ _ _ _ _ _ us hl => match us, hl with | [_, _], _ => rfl
  have m13 := PySem.W.mg_of X G a13
  have F14 := fun_mk (st := s_law_inside) l14 c14 k14
  have b14 := F14.binds (ps := ["_law_some_here", "_law_found"]) fun _ _ _ _ _ _ us hl => match us, hl with | [_, _], _ => rfl
  have m14 := PySem.W.mg_of X G a14
  have F15 := fun_mk (st := s_law_family) l15 c15 k15
  have b15 := F15.binds (ps := ["_law_box_here", "_law_names_here", "_law_most"]) fun _ _ _ _ _ _ us hl => match us, hl with | [_, _, _], _ => rfl
  have m15 := PySem.W.mg_of X G a15
  have F16 := fun_mk (st := s_law_tops) l16 c16 k16
  have b16 := F16.binds (ps := ["_law_some_here"]) fun _ _ _ _ _ _ us hl => match us, hl with | [_], _ => rfl
  have m16 := PySem.W.mg_of X G a16
  have F17 := fun_mk (st := s_law_holds_by) l17 c17 k17
  have b17 := F17.binds (ps := ["_law_family_here", "_law_cord"]) fun _ _ _ _ _ _ us hl => match us, hl with | [_, _], _ => rfl
  have m17 := PySem.W.mg_of X G a17
  have F18 := fun_mk (st := s_law_wanting) l18 c18 k18
  have b18 := F18.binds (ps := ["_law_want_here", "_law_cord", "_law_hold", "_law_twin"]) fun _ _ _ _ _ _ us hl => match us, hl with | [_, _, _, _], _ => rfl
  have m18 := PySem.W.mg_of X G a18
  have F19 := fun_mk (st := s_law_clashes) l19 c19 k19
  have b19 := F19.binds (ps := ["_law_want_here"]) fun _ _ _ _ _ _ us hl => match us, hl with | [_], _ => rfl
  have m19 := PySem.W.mg_of X G a19
  have F20 := fun_mk (st := s_law_want) l20 c20 k20
  have b20 := F20.binds (ps := ["_law_box_here", "_law_names_here"]) fun _ _ _ _ _ _ us hl => match us, hl with | [_, _], _ => rfl
  have m20 := PySem.W.mg_of X G a20
  have F21 := fun_mk (st := s_law_is_clash) l21 c21 k21
  have b21 := F21.binds (ps := ["_law_want_here", "_law_matter"]) fun _ _ _ _ _ _ us hl => match us, hl with | [_, _], _ => rfl
  have m21 := PySem.W.mg_of X G a21
  have F22 := fun_mk (st := s_law_right) l22 c22 k22
  have b22 := F22.binds (ps := ["_law_box_here"]) fun _ _ _ _ _ _ us hl => match us, hl with | [_], _ => rfl
  have m22 := PySem.W.mg_of X G a22
  have F23 := fun_mk (st := s_law) l23 c23 k23
  have b23 := F23.binds (ps := ["_law_script"]) fun _ _ _ _ _ _ us hl => match us, hl with | [_], _ => rfl
  have m23 := PySem.W.mg_of X G a23
  have B : Bn mg := ⟨PySem.W.mg_none_of X G z1, PySem.W.mg_none_of X G z2, PySem.W.mg_none_of X G z3, PySem.W.mg_none_of X G z4, PySem.W.mg_none_of X G z5, PySem.W.mg_none_of X G z6, PySem.W.mg_none_of X G z7, PySem.W.mg_none_of X G z8, PySem.W.mg_none_of X G z9, PySem.W.mg_none_of X G z10, PySem.W.mg_none_of X G z11, PySem.W.mg_none_of X G z12, PySem.W.mg_none_of X G z13, PySem.W.mg_none_of X G z14, PySem.W.mg_none_of X G z15, PySem.W.mg_none_of X G z16, PySem.W.mg_none_of X G z17⟩
  refine ⟨PySem.W.fnOf "law" "law" (defArgs s_law) (defBody s_law) (defScope s_law) .none kV23 dc23 pm23 an23 cd23 ct23, fun s v => .of_eq rfl, fun base _ _ => ?_⟩
  have O1 := ok_is_within (P := l.prog) (w := w) (base := base) (k := 0) F1 B 
  have C_is_within : Cal l.prog w K mg base "is_within" 1 ["one", "other"] (spD K 2 Ph_is_within) := ⟨_, _, O1, m1, k1, b1⟩
  have O2 := ok_with_rope (P := l.prog) (w := w) (base := base) (k := 0) F2 B 
  have C_with_rope : Cal l.prog w K mg base "with_rope" 1 ["hold", "rope"] (spD K 2 Ph_with_rope) := ⟨_, _, O2, m2, k2, b2⟩
  have O3 := ok_is_wanting (P := l.prog) (w := w) (base := base) (k := 1) F3 B (C_with_rope.mono (by decide)) (C_is_within.mono (by decide))
  have C_is_wanting : Cal l.prog w K mg base "is_wanting" 2 ["wish", "rope", "hold", "other"] (spM K 4 Ph_is_wanting) := ⟨_, _, O3, m3, k3, b3⟩
  have O4 := ok_shows_clash (P := l.prog) (w := w) (base := base) (k := 2) F4 B (C_is_wanting.mono (by decide))
  have C_shows_clash : Cal l.prog w K mg base "shows_clash" 3 ["wish", "thing"] (spM K 2 Ph_shows_clash) := ⟨_, _, O4, m4, k4, b4⟩
  have K_shows_clash_0_thing_wish : CalK l.prog w K mg base "shows_clash" 3 ["wish", "thing"] 0 ["thing", "wish"] [1, 0] (spM K 2 Ph_shows_clash) := ⟨_, _, O4, m4, k4, DL.Fun.kbn F4 0 ["thing", "wish"] [1, 0] (fun _ _ _ _ _ _ us ws h1 h2 => match us, ws, h1, h2 with | [], [_, _], _, _ => rfl)⟩
  have O5 := ok_law_box (P := l.prog) (w := w) (base := base) (k := 0) F5 B 
  have C_law_box : Cal l.prog w K mg base "_law_box" 1 ["_law_script", "_law_k"] (spD K 2 Ph_law_box) := ⟨_, _, O5, m5, k5, b5⟩
  have O6 := ok_law_take (P := l.prog) (w := w) (base := base) (k := 0) F6 B 
  have C_law_take : Cal l.prog w K mg base "_law_take" 1 ["_law_box_here", "_law_bound"] (spL K 2 Ph_law_take) := ⟨_, _, O6, m6, k6, b6⟩
  have O7 := ok_law_pick (P := l.prog) (w := w) (base := base) (k := 1) F7 B (C_law_take.mono (by decide))
  have C_law_pick : Cal l.prog w K mg base "_law_pick" 2 ["_law_box_here", "_law_things"] (spL K 2 Ph_law_pick) := ⟨_, _, O7, m7, k7, b7⟩
  have R8 := ok_law_same (P := l.prog) (w := w) (base := base) (k := 0) F8 B m8 k8 b8
  have C_law_same : Cal l.prog w K mg base "_law_same" 8 ["_law_found", "_law_due"] (spD K 2 Ph_law_same) := ⟨_, _, (R8 8).mono (by decide), m8, k8, b8⟩
  have O9 := ok_law_names (P := l.prog) (w := w) (base := base) (k := 1) F9 B (C_law_take.mono (by decide))
  have C_law_names : Cal l.prog w K mg base "_law_names" 2 ["_law_box_here", "_law_many"] (spL K 2 Ph_law_names) := ⟨_, _, O9, m9, k9, b9⟩
  have O10 := ok_law_some (P := l.prog) (w := w) (base := base) (k := 1) F10 B (C_law_take.mono (by decide))
  have C_law_some : Cal l.prog w K mg base "_law_some" 2 ["_law_box_here", "_law_names_here", "_law_lowest"] (spL K 3 Ph_law_some) := ⟨_, _, O10, m10, k10, b10⟩
  have O11 := ok_law_sets (P := l.prog) (w := w) (base := base) (k := 0) F11 B 
  have C_law_sets : Cal l.prog w K mg base "_law_sets" 1 ["_law_names_here", "_law_lowest"] (spD K 2 Ph_law_sets) := ⟨_, _, O11, m11, k11, b11⟩
  have O12 := ok_law_odd (P := l.prog) (w := w) (base := base) (k := 2) F12 B (C_law_pick.mono (by decide))
  have C_law_odd : Cal l.prog w K mg base "_law_odd" 3 ["_law_box_here", "_law_matter"] (spL K 2 Ph_law_odd) := ⟨_, _, O12, m12, k12, b12⟩
  have R13 := ok_law_bent (P := l.prog) (w := w) (base := base) (k := 3) F13 B m13 k13 b13 (C_law_take.mono (by decide)) (C_law_odd.mono (by decide))
  have C_law_bent : Cal l.prog w K mg base "_law_bent" 12 ["_law_box_here", "_law_matter"] (spL K 2 Ph_law_bent) := ⟨_, _, (R13 9).mono (by decide), m13, k13, b13⟩
  have O14 := ok_law_inside (P := l.prog) (w := w) (base := base) (k := 0) F14 B 
  have C_law_inside : Cal l.prog w K mg base "_law_inside" 1 ["_law_some_here", "_law_found"] (spD K 2 Ph_law_inside) := ⟨_, _, O14, m14, k14, b14⟩
  have O15 := ok_law_family (P := l.prog) (w := w) (base := base) (k := 1) F15 B (C_law_sets.mono (by decide)) (C_law_take.mono (by decide))
  have C_law_family : Cal l.prog w K mg base "_law_family" 2 ["_law_box_here", "_law_names_here", "_law_most"] (spL K 3 Ph_law_family) := ⟨_, _, O15, m15, k15, b15⟩
  have O16 := ok_law_tops (P := l.prog) (w := w) (base := base) (k := 1) F16 B (C_law_inside.mono (by decide))
  have C_law_tops : Cal l.prog w K mg base "_law_tops" 2 ["_law_some_here"] (spD K 1 Ph_law_tops) := ⟨_, _, O16, m16, k16, b16⟩
  have O17 := ok_law_holds_by (P := l.prog) (w := w) (base := base) (k := 2) F17 B (C_law_tops.mono (by decide))
  have C_law_holds_by : Cal l.prog w K mg base "_law_holds_by" 3 ["_law_family_here", "_law_cord"] (spD K 2 Ph_law_holds_by) := ⟨_, _, O17, m17, k17, b17⟩
  have O18 := ok_law_wanting (P := l.prog) (w := w) (base := base) (k := 1) F18 B (C_law_inside.mono (by decide))
  have C_law_wanting : Cal l.prog w K mg base "_law_wanting" 2 ["_law_want_here", "_law_cord", "_law_hold", "_law_twin"] (spM K 4 Ph_law_wanting) := ⟨_, _, O18, m18, k18, b18⟩
  have O19 := ok_law_clashes (P := l.prog) (w := w) (base := base) (k := 2) F19 B (C_law_wanting.mono (by decide))
  have C_law_clashes : Cal l.prog w K mg base "_law_clashes" 3 ["_law_want_here"] (spM K 1 Ph_law_clashes) := ⟨_, _, O19, m19, k19, b19⟩
  have O20 := ok_law_want (P := l.prog) (w := w) (base := base) (k := 3) F20 B (C_law_family.mono (by decide)) (C_law_holds_by.mono (by decide)) (C_law_take.mono (by decide)) (C_law_pick.mono (by decide)) (C_law_some.mono (by decide)) (C_law_inside.mono (by decide)) (C_law_tops.mono (by decide))
  have C_law_want : Cal l.prog w K mg base "_law_want" 4 ["_law_box_here", "_law_names_here"] (spLN K 2 Ph_law_want) := ⟨_, _, O20, m20, k20, b20⟩
  have O21 := ok_law_is_clash (P := l.prog) (w := w) (base := base) (k := 2) F21 B (C_law_wanting.mono (by decide))
  have C_law_is_clash : Cal l.prog w K mg base "_law_is_clash" 3 ["_law_want_here", "_law_matter"] (spM K 2 Ph_law_is_clash) := ⟨_, _, O21, m21, k21, b21⟩
  have O22 := ok_law_right (P := l.prog) (w := w) (base := base) (k := 12) F22 B (C_law_take.mono (by decide)) (C_law_names.mono (by decide)) (C_law_want.mono (by decide)) (C_law_some.mono (by decide)) (C_law_bent.mono (by decide)) (C_law_is_clash.mono (by decide)) (C_shows_clash.mono (by decide)) (C_law_same.mono (by decide)) (C_law_clashes.mono (by decide)) (K_shows_clash_0_thing_wish.mono (by decide))
  have C_law_right : Cal l.prog w K mg base "_law_right" 13 ["_law_box_here"] (spL K 1 Ph_law_right) := ⟨_, _, O22, m22, k22, b22⟩
  exact ok_law (k := 13) F23 B (C_law_box.mono (by decide)) (C_law_right.mono (by decide))
end K46
open PySem PySem.W PyProof.Rows
set_option maxRecDepth 100000 in
set_option maxHeartbeats 0 in
theorem PySem.Challenge.cw_drawnropes_k46_clashes_shown_holds : PySem.Challenge.rw_drawnropes_k46_clashes_shown.Holds := by
  w_on; o_law; k_head; (case hw => w_witness2)
  k_fill
  refine DL.walkG (l := PySem.Challenge.rw_drawnropes_k46_clashes_shown) (n := 63) (k := 14) (x := "_law_script") (Φ := K46.Ph_law) rfl (by decide) rfl ⟨rfl, by decide, by decide⟩ (fun w => by kernel_rfl) (fun w h Y => PySem.W.kIn_of Y) ?F (fun ns hl => ⟨ns, rfl, rfl⟩)
  case F =>
    intro w mg fa h KX G hmg
    refine' K46.all_mk KX G hmg ?a1 ?l1 ?c1 ?k1 ?a2 ?l2 ?c2 ?k2 ?a3 ?l3 ?c3 ?k3 ?a4 ?l4 ?c4 ?k4 ?a5 ?l5 ?c5 ?k5 ?a6 ?l6 ?c6 ?k6 ?a7 ?l7 ?c7 ?k7 ?a8 ?l8 ?c8 ?k8 ?a9 ?l9 ?c9 ?k9 ?a10 ?l10 ?c10 ?k10 ?a11 ?l11 ?c11 ?k11 ?a12 ?l12 ?c12 ?k12 ?a13 ?l13 ?c13 ?k13 ?a14 ?l14 ?c14 ?k14 ?a15 ?l15 ?c15 ?k15 ?a16 ?l16 ?c16 ?k16 ?a17 ?l17 ?c17 ?k17 ?a18 ?l18 ?c18 ?k18 ?a19 ?l19 ?c19 ?k19 ?a20 ?l20 ?c20 ?k20 ?a21 ?l21 ?c21 ?k21 ?a22 ?l22 ?c22 ?k22 ?a23 ?l23 ?c23 ?k23 ?z1 ?z2 ?z3 ?z4 ?z5 ?z6 ?z7 ?z8 ?z9 ?z10 ?z11 ?z12 ?z13 ?z14 ?z15 ?z16 ?z17
    (case a1 => k_is); (case l1 => k_is); (case c1 => k_is); (case k1 => k_is); (case a2 => k_is); (case l2 => k_is); (case c2 => k_is); (case k2 => k_is)
    (case a3 => k_is); (case l3 => k_is); (case c3 => k_is); (case k3 => k_is); (case a4 => k_is); (case l4 => k_is); (case c4 => k_is); (case k4 => k_is)
    (case a5 => k_is); (case l5 => k_is); (case c5 => k_is); (case k5 => k_is); (case a6 => k_is); (case l6 => k_is); (case c6 => k_is); (case k6 => k_is)
    (case a7 => k_is); (case l7 => k_is); (case c7 => k_is); (case k7 => k_is); (case a8 => k_is); (case l8 => k_is); (case c8 => k_is); (case k8 => k_is)
    (case a9 => k_is); (case l9 => k_is); (case c9 => k_is); (case k9 => k_is); (case a10 => k_is); (case l10 => k_is); (case c10 => k_is); (case k10 => k_is)
    (case a11 => k_is); (case l11 => k_is); (case c11 => k_is); (case k11 => k_is); (case a12 => k_is); (case l12 => k_is); (case c12 => k_is); (case k12 => k_is)
    (case a13 => k_is); (case l13 => k_is); (case c13 => k_is); (case k13 => k_is); (case a14 => k_is); (case l14 => k_is); (case c14 => k_is); (case k14 => k_is)
    (case a15 => k_is); (case l15 => k_is); (case c15 => k_is); (case k15 => k_is); (case a16 => k_is); (case l16 => k_is); (case c16 => k_is); (case k16 => k_is)
    (case a17 => k_is); (case l17 => k_is); (case c17 => k_is); (case k17 => k_is); (case a18 => k_is); (case l18 => k_is); (case c18 => k_is); (case k18 => k_is)
    (case a19 => k_is); (case l19 => k_is); (case c19 => k_is); (case k19 => k_is); (case a20 => k_is); (case l20 => k_is); (case c20 => k_is); (case k20 => k_is)
    (case a21 => k_is); (case l21 => k_is); (case c21 => k_is); (case k21 => k_is); (case a22 => k_is); (case l22 => k_is); (case c22 => k_is); (case k22 => k_is)
    (case a23 => k_is); (case l23 => k_is); (case c23 => k_is); (case k23 => k_is); (case z1 => k_is); (case z2 => k_is); (case z3 => k_is); (case z4 => k_is)
    (case z5 => k_is); (case z6 => k_is); (case z7 => k_is); (case z8 => k_is); (case z9 => k_is); (case z10 => k_is); (case z11 => k_is); (case z12 => k_is)
    (case z13 => k_is); (case z14 => k_is); (case z15 => k_is); (case z16 => k_is); (case z17 => k_is)
