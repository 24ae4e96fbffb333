import PyProof.Rows.All
import Wide.All
import OpenK.AllK
import Wide.FinOn
import HandS.ForMost
import HandS.Lambda
import KE.KDictKeyed
import HandS.Style
import HandS.Defaults
import HandS.Exc
import HandS.ExcInit
import HandS.ExcField
import HandS.CallSlots
import HandS.WordsExc
import KE.KIsAll
import KE.KExcIs
import HandS.NoneIn
import HandS.Zip
import HandS.TupLe
import HandS.TupAny
import HandS.Deep
import HandS.IsInst
import KE.SortData
import HandS.Iter
import KE.GoesMore
import KE.GoesEnum
import KE.KUnpackStar
import HandS.Words
import HandS.ExcIs
import HandS.FStr
import HandS.SetKeys
import HandS.Small
import HandS.DictComp
import PyProof.DictValues
import PyProof.DictIter
import KE.KDictList
import HandS.Dict
import HandS.List
import HandS.SetFor
import KE.DataMinMax
import HandS.Set
import HandS.Comp
import HandS.SetBool
import HandS.Strs
import HandS.More
import HandS.SortKw
import KE.SortKeyHeap
import KE.KSortKey
import PyProof.ReprRoads
import PyProof.ReprLen
import HandS.Conv
import PyProof.StrLawsIn
import HandS.DictEq
import PyProof.SliceList
import PyProof.SeqIndex
import KE.GoesEnumKw
import PyProof.RowDictHeap
import HandS.WordsDict
import PyProof.Rows.IntBool
import PyProof.CallStr
import KE.KDictWalk
import KE.KDictCopyH
import PyProof.DictMoreH
import KE.KDictDisplayH
import PyProof.DictTable
import HandS.TupSets
import KE.KLam
import HandS.EndTab
import KE.DataAny
import PyProof.DictWalks
import PySem.Challenge.RW_drawnropes_k03_texts_of_rows_spoilt
set_option Elab.async false
set_option linter.all false
set_option maxRecDepth 100000
set_option maxHeartbeats 4000000
namespace DL
open PySem PySem.Spec PyProof.Rows L2
def Ex (H H' : Hp) : Prop := ∀ a o, H a = some o → H' a = some o
theorem Ex.refl (H : Hp) : Ex H H := fun _ _ h => h
theorem Ex.trans {H H1 H2 : Hp} (a : Ex H H1) (b : Ex H1 H2) : Ex H H2 := fun x o h => b x o (a x o h)
theorem Ex.new {H : Hp} {p : Addr} {o : HO} (h : H p = none) : Ex H (upd H p o) := fun a u e => by
  rw [upd_ne (ne_of_none e h)]; exact e
theorem Ex.free {H H' : Hp} {p : Addr} (e : Ex H H') (h : H' p = none) : H p = none := by
  cases q : H p with
  | none => rfl
  | some o => rw [e p o q] at h; cases h
/-- both sides get the same new object -/
theorem Ex.upd2 {H H' : Hp} {p : Addr} {o : HO} (e : Ex H H') : Ex (upd H p o) (upd H' p o) := fun a u h => by
  by_cases q : a = p
  · subst q; rw [upd_same] at h ⊢; exact h
  · rw [upd_ne q] at h ⊢; exact e a u h
/-- what the lesser heap does not know may change -/
theorem Ex.mut {H H' : Hp} {p : Addr} {o : HO} (e : Ex H H') (h : H p = none) : Ex H (upd H' p o) := fun a u ha => by
  rw [upd_ne (ne_of_none ha h)]; exact e a u ha
/-- the lesser heap learns what stands in the greater one -/
theorem Ex.learn {H H' : Hp} {p : Addr} {o : HO} (e : Ex H H') (h : H' p = some o) : Ex (upd H p o) H' := fun a u ha => by
  by_cases q : a = p
  · subst q; rw [upd_same] at ha; rw [h]; exact ha
  · rw [upd_ne q] at ha; exact e a u ha
theorem ex_sl {K : PySem.W.Frag} {H H' : Hp} {a : Addr} {xs : List V} (e : Ex H H') (h : SqL K H a xs) : SqL K H' a xs := by
  rcases h with (h | ⟨o, h⟩) | h
  · exact .inl (.inl (e _ _ h))
  · exact .inl (.inr ⟨o, e _ _ h⟩)
  · exact .inr h
theorem sql_of {K : PySem.W.Frag} {H : Hp} {a : Addr} {xs : List V} (h : H a = some (.lst xs)) : SqL K H a xs := .inl (.inl h)
theorem sqt_of {K : PySem.W.Frag} {H : Hp} {a : Addr} {xs : List V} (h : H a = some (.tup xs)) : SqT K H a xs := .inl (.inl h)
mutual
inductive Rp (K : PySem.W.Frag) (H : Hp) : V → PyData → Prop
  | non : Rp K H .non .none
  | bl (b : Bool) : Rp K H (.bl b) (.bool b)
  | int (i : Int) : Rp K H (.int i) (.int i)
  | str (x : Str) : Rp K H (.str x) (.str x)
  | lst {a : Addr} {xs : List V} {ds : List PyData} : H a = some (.lst xs) → RpA K H xs ds → Rp K H (.ref a) (.list ds)
  | tup {a : Addr} {xs : List V} {ds : List PyData} : H a = some (.tup xs) → RpA K H xs ds → Rp K H (.ref a) (.tuple ds)
inductive RpA (K : PySem.W.Frag) (H : Hp) : List V → List PyData → Prop
  | nil : RpA K H [] []
  | cons {v : V} {vs : List V} {d : PyData} {ds : List PyData} : Rp K H v d → RpA K H vs ds → RpA K H (v :: vs) (d :: ds)
end
section
variable {K : PySem.W.Frag} {H H' : Hp}
mutual
theorem Rp.mono (e : Ex H H') : ∀ (d : PyData) (v : V), Rp K H v d → Rp K H' v d
  | .none, _, h => by cases h; exact .non
  | .bool b, _, h => by cases h; exact .bl b
  | .int i, _, h => by cases h; exact .int i
  | .str x, _, h => by cases h; exact .str x
  | .list ds, _, h => by
    cases h with
    | lst h1 h2 => exact .lst (e _ _ h1) (RpA.mono e ds _ h2)
  | .tuple ds, _, h => by
    cases h with
    | tup h1 h2 => exact .tup (e _ _ h1) (RpA.mono e ds _ h2)
  | .dict _, _, h => by cases h
theorem RpA.mono (e : Ex H H') : ∀ (ds : List PyData) (vs : List V), RpA K H vs ds → RpA K H' vs ds
  | [], _, h => by cases h; exact .nil
  | d :: ds, _, h => by
    cases h with
    | cons h1 h2 => exact .cons (Rp.mono e d _ h1) (RpA.mono e ds _ h2)
end
mutual
theorem Rp.dp : ∀ (d : PyData) (v : V), Rp K H v d → Dp K H v d
  | .none, _, h => by cases h; exact .non
  | .bool b, _, h => by cases h; exact .bl b
  | .int i, _, h => by cases h; exact .int i
  | .str x, _, h => by cases h; exact .str x
  | .list ds, _, h => by
    cases h with
    | lst h1 h2 => exact .lst (sql_of h1) (RpA.dp ds _ h2)
  | .tuple ds, _, h => by
    cases h with
    | tup h1 h2 => exact .tup (sqt_of h1) (RpA.dp ds _ h2)
  | .dict _, _, h => by cases h
theorem RpA.dp : ∀ (ds : List PyData) (vs : List V), RpA K H vs ds → DpAll K H vs ds
  | [], _, h => by cases h; exact .nil
  | d :: ds, _, h => by
    cases h with
    | cons h1 h2 => exact .cons (Rp.dp d _ h1) (RpA.dp ds _ h2)
end
theorem RpA.len : ∀ {vs : List V} {ds : List PyData}, RpA K H vs ds → vs.length = ds.length
  | _, _, .nil => rfl
  | _, _, .cons _ t => congrArg (· + 1) (RpA.len t)
theorem RpA.app : ∀ {vs ws : List V} {ds es : List PyData}, RpA K H vs ds → RpA K H ws es → RpA K H (vs ++ ws) (ds ++ es)
  | _, _, _, _, .nil, q => q
  | _, _, _, _, .cons r t, q => .cons r (RpA.app t q)
theorem RpA.take : ∀ (n : Nat) {vs : List V} {ds : List PyData}, RpA K H vs ds → RpA K H (vs.take n) (ds.take n)
  | 0, _, _, _ => .nil
  | _ + 1, _, _, .nil => .nil
  | n + 1, _, _, .cons r t => .cons r (RpA.take n t)
theorem RpA.drop : ∀ (n : Nat) {vs : List V} {ds : List PyData}, RpA K H vs ds → RpA K H (vs.drop n) (ds.drop n)
  | 0, _, _, r => r
  | _ + 1, _, _, .nil => .nil
  | n + 1, _, _, .cons _ t => RpA.drop n t
theorem RpA.get : ∀ {vs : List V} {ds : List PyData} {i : Nat} {d : PyData}, RpA K H vs ds → ds[i]? = some d → ∃ v, vs[i]? = some v ∧ Rp K H v d
  | _, _, _, _, .nil, e => by simp at e
  | _, _, 0, _, .cons r _, e => by simp at e; subst e; exact ⟨_, rfl, r⟩
  | _, _, i + 1, d, .cons _ t, e => by
    obtain ⟨v, h1, h2⟩ := RpA.get (i := i) (d := d) t (by simpa using e)
    exact ⟨v, by simpa using h1, h2⟩
theorem RpA.getV : ∀ {vs : List V} {ds : List PyData} {i : Nat} {v : V}, RpA K H vs ds → vs[i]? = some v → ∃ d, ds[i]? = some d ∧ Rp K H v d
  | _, _, _, _, .nil, e => by simp at e
  | _, _, 0, _, .cons r _, e => by simp at e; subst e; exact ⟨_, rfl, r⟩
  | _, _, i + 1, v, .cons _ t, e => by
    obtain ⟨d, h1, h2⟩ := RpA.getV (i := i) (v := v) t (by simpa using e)
    exact ⟨d, by simpa using h1, h2⟩
theorem RpA.set {v : V} {d : PyData} (r : Rp K H v d) : ∀ (i : Nat) {vs : List V} {ds : List PyData}, RpA K H vs ds → RpA K H (vs.set i v) (ds.set i d)
  | _, _, _, .nil => .nil
  | 0, _, _, .cons _ t => .cons r t
  | i + 1, _, _, .cons q t => .cons q (RpA.set r i t)
theorem RpA.rev : ∀ {vs : List V} {ds : List PyData}, RpA K H vs ds → RpA K H vs.reverse ds.reverse
  | _, _, .nil => .nil
  | _, _, .cons r t => by
    rw [List.reverse_cons, List.reverse_cons]
    exact (RpA.rev t).app (.cons r .nil)
end
def NT (o : HO) : Prop := ∀ ps, o ≠ .tbl ps
/-- neither a table nor a code object -/
def WO (o : HO) : Prop := NT o ∧ (∀ c q, o ≠ LamX.CodeO c q) ∧ ∀ xs, o ≠ .tup xs
def lamQ : Str := "all_sets.<locals>.<lambda>"
/-- the table of that code object, if it is the one of the def with the lambda -/
def tabOf (e : Addr × Obj) : Option Addr := match e.2.data with
  | .fields vs => match vs[1]?, vs[11]? with
    | some (Value.str n _), some (Value.ref P) => if n == ("all_sets" : Str) then some P else none
    | _, _ => none
  | _ => none
def tabsOf (K : PySem.W.Frag) : List Addr := K.filterMap tabOf
abbrev TabS := LamX.TabS
theorem tab_put {H : Hp} {a P : Addr} {o : HO} {q : Str} (hw : ∀ u, H a = some u → WO u) (t : TabS H P q) : TabS (upd H a o) P q := by
  obtain ⟨ps, h1, h2, h3⟩ := t
  have ne : P ≠ a := fun e => (hw _ (by rw [← e]; exact h1)).1 ps rfl
  refine ⟨ps, by rw [upd_ne ne]; exact h1, h2, fun pos cv hc => ?_⟩
  obtain ⟨c, e1, e2⟩ := h3 pos cv hc
  have nc : c ≠ a := fun e => (hw _ (by rw [← e]; exact e2)).2.1 _ _ rfl
  exact ⟨c, e1, by rw [upd_ne nc]; exact e2⟩
theorem wo_new {H : Hp} {a : Addr} (h : H a = none) : ∀ u, H a = some u → WO u := fun u e => by rw [h] at e; cases e
theorem wo_at {H : Hp} {a : Addr} {u : HO} (h : H a = some u) (w : WO u) : ∀ u, H a = some u → WO u := fun v e => by rw [h] at e; cases e; exact w
theorem wo_lst (xs : List V) : WO (.lst xs) := ⟨(fun _ z => nomatch z), (fun _ _ z => by unfold LamX.CodeO at z; cases z), fun _ z => nomatch z⟩
theorem wo_dK (kvs : List (Key × V)) : WO (.dK kvs) := ⟨(fun _ z => nomatch z), (fun _ _ z => by unfold LamX.CodeO at z; cases z), fun _ z => nomatch z⟩
theorem wo_frz (o : Obj) (u : HO) : WO (.frz o u) := ⟨(fun _ z => nomatch z), (fun _ _ z => by unfold LamX.CodeO at z; cases z), fun _ z => nomatch z⟩
def Tb (K : PySem.W.Frag) (G H : Hp) : Prop := ∀ P ∈ tabsOf K, G P = none ∧ TabS H P lamQ
theorem TabS.some {H : Hp} {P : Addr} {q : Str} (t : TabS H P q) : ∃ ps, H P = some (.tbl ps) := by
  obtain ⟨ps, h, _⟩ := t
  exact ⟨ps, h⟩
theorem Tb.laid {K : PySem.W.Frag} {G H : Hp} {p : Addr} {o : HO} (t : Tb K G H) (hp : H p = none) : Tb K (upd G p o) (upd H p o) := fun P hP => by
  obtain ⟨g, t1⟩ := t P hP
  obtain ⟨ps, e⟩ := TabS.some t1
  exact ⟨by rw [upd_ne (ne_of_none e hp)]; exact g, tab_put (wo_new hp) t1⟩
theorem Tb.put {K : PySem.W.Frag} {G H : Hp} {a : Addr} {o : HO} (t : Tb K G H) (hw : ∀ u, H a = some u → WO u) : Tb K G (upd H a o) := fun P hP => ⟨(t P hP).1, tab_put hw (t P hP).2⟩
theorem Tb.over {K : PySem.W.Frag} {G H : Hp} {a : Addr} {o u : HO} (t : Tb K G H) (hq : H a = some u) (w : WO u) : Tb K (upd G a o) (upd H a o) := fun P hP => by
  obtain ⟨g, t1⟩ := t P hP
  obtain ⟨ps, e⟩ := TabS.some t1
  exact ⟨by rw [upd_ne (fun z => w.1 ps (by rw [← z, e] at hq; exact (Option.some.inj hq).symm))]; exact g, tab_put (wo_at hq w) t1⟩
theorem Tb.learn {K : PySem.W.Frag} {G H : Hp} {q : Addr} {o : HO} (t : Tb K G H) (hq : H q = some o) (nt : NT o) : Tb K (upd G q o) H := fun P hP => by
  obtain ⟨g, t1⟩ := t P hP
  obtain ⟨ps, e⟩ := TabS.some t1
  exact ⟨by rw [upd_ne (fun z => nt ps (by rw [← z, e] at hq; exact (Option.some.inj hq).symm))]; exact g, t1⟩
inductive R where
  | d (x : PyData)
  | c (k : Nat)
  | f (xs : List PyData)
  | s (ns : List Int)
  | b (ks : List Nat)
  | p (ks : List Nat)
  | h (es : List (Key × PyData))
  | g (es : List (List Str × PyData))
  | q (ess : List (List (List Str × PyData)))
  | o (u : HO)
  | t (x : PyData) (k : Nat)
  | xe (cn : Str) (fs : List (Str × PyData))
abbrev RwK := List (Str × Str × Int)
def rwD (r : RwK) : PyData := .tuple (r.map fun h => .tuple [.str h.1, .str h.2.1, .int h.2.2])
def rwN (r : RwK) : NestedKey := .tup (r.map fun h => .tup [.text h.1, .text h.2.1, .num h.2.2])
def entN (w : World) (p : (RwK × Addr × V) × Value) : DictEntry := ⟨(rwN p.1.1).hash w, .ref p.1.2.1, p.2⟩
def HN (w : World) (a : Addr) (xs : List (RwK × Addr × V)) : HO := .ext fun h => (a == sysModules) = false ∧ ∃ us : List Value, Vals (xs.map (·.2.2)) us ∧ ∃ o es ep, h.get? a = some o ∧ o.ExactDict ∧ o.data = .dict es ep ∧ es.toList = (xs.zip us).map (entN w) ∧ (xs.map (·.1)).Nodup
theorem all_oneN {oc : Obj} {vs : Array Value} (hd : oc.data = .fields vs) (n : Nat) {b : Addr} {o : Obj} (h : ({ objs := Array.replicate n oc } : Heap).get? b = some o) : o = oc := by
  unfold Heap.get? at h
  simp only at h
  cases q : (Array.replicate n oc)[b]? with
  | none => rw [q] at h; cases h
  | some x =>
    have e : x = oc := by
      rw [Array.getElem?_replicate] at q
      split at q
      · exact (Option.some.inj q).symm
      · cases q
    rw [q, e] at h
    revert h
    split
    · intro h; cases h
    · intro h; exact (Option.some.inj h).symm
theorem wo_HN0 {w : World} {a : Addr} {xs : List (RwK × Addr × V)} : ∀ c q, HN w a xs ≠ LamX.CodeO c q := fun c q z => by
  unfold HN LamX.CodeO at z
  have e := HO.ext.inj z
  have h1 : ({ objs := Array.replicate (c + 1) { cls := .none, data := .fields #[.none, .str q 0] } } : Heap).get? c = some { cls := .none, data := .fields #[.none, .str q 0] } := by
    unfold Heap.get?
    simp only
    rw [Array.getElem?_replicate, if_pos (Nat.lt_succ_self c)]
  obtain ⟨_, us, _, o, es, ep, ho, _, hd, _⟩ := (congrFun e ({ objs := Array.replicate (c + 1) { cls := .none, data := .fields #[.none, .str q 0] } } : Heap)).mpr ⟨_, _, 0, h1, rfl, rfl⟩
  rw [all_oneN rfl _ ho] at hd
  cases hd
theorem wo_HN {w : World} {a : Addr} {xs : List (RwK × Addr × V)} : WO (HN w a xs) := ⟨(fun _ z => by unfold HN at z; cases z), wo_HN0, fun _ z => by unfold HN at z; cases z⟩
inductive Cell where
  | l (xs : List PyData)
  | z (x : PyData)
  | m (es : List (Key × R))
  | k (es : List (Key × PyData))
  | x (u : HO)
  | n (w : World) (es : List (RwK × R))
  | e (ks : List Nat)
abbrev Rho := List (Option R)
abbrev Kap := List Cell
/-- a fresh list that is let go is plain data -/
def R.st : R → R
  | .f xs => .d (.list xs)
  | r => r
/-- what is read there now -/
def val (κ : Kap) : R → Option PyData
  | .d x => some x
  | .f xs => some (.list xs)
  | .c k => match κ[k]? with
    | some (.l xs) => some (.list xs)
    | some (.z x) => some x
    | some (.m _) => none
    | some (.k _) => none
    | some (.x _) => none
    | some (.n _ _) => none
    | some (.e _) => none
    | none => none
  | .s _ => none
  | .b _ => none
  | .p _ => none
  | .h _ => none
  | .g _ => none
  | .q _ => none
  | .o _ => none
  | .t _ _ => none
  | .xe _ _ => none
/-- a key as a thing -/
def keyP : Key → PyData
  | .inl i => .int i
  | .inr z => .str z
/-- a dict that is known for good: nobody changes it -/
def ItH (K : PySem.W.Frag) (G : Hp) (v : V) (es : List (Key × PyData)) : Prop := ∃ a o kvs, v = .ref a ∧ G a = some (.frz o (.dK kvs)) ∧ Paired (fun (kv : Key × V) (e : Key × PyData) => kv.1 = e.1 ∧ Rp K G kv.2 e.2) kvs es
theorem ItH.mono {K : PySem.W.Frag} {G G' : Hp} {v : V} {es : List (Key × PyData)} (e : Ex G G') (h : ItH K G v es) : ItH K G' v es := by
  obtain ⟨a, o, kvs, h1, h2, h3⟩ := h
  exact ⟨a, o, kvs, h1, e _ _ h2, Paired.mapP h3 fun _ _ z => ⟨z.1, Rp.mono e _ _ z.2⟩⟩
/-- the same, its keys tuples of texts -/
def ItG (K : PySem.W.Frag) (G : Hp) (v : V) (es : List (List Str × PyData)) : Prop := ∃ a o kvs, v = .ref a ∧ G a = some (.frz o (.dT kvs)) ∧ Paired (fun (kv : List Key × V) (e : List Str × PyData) => kv.1 = e.1.map Sum.inr ∧ Rp K G kv.2 e.2) kvs es
theorem ItG.mono {K : PySem.W.Frag} {G G' : Hp} {v : V} {es : List (List Str × PyData)} (e : Ex G G') (h : ItG K G v es) : ItG K G' v es := by
  obtain ⟨a, o, kvs, h1, h2, h3⟩ := h
  exact ⟨a, o, kvs, h1, e _ _ h2, Paired.mapP h3 fun _ _ z => ⟨z.1, Rp.mono e _ _ z.2⟩⟩
/-- an object as it stands, for good -/
def atO (a : Addr) (o : Obj) : HO := .ext fun h => h.get? a = some o
/-- the class of that name -/
def clsA (K : PySem.W.Frag) (cn : Str) (C : Addr) : Prop := PySem.W.nsIn K mainGlobals cn = some (some (.ref C))
/-- what an error bears -/
def FldX (K : PySem.W.Frag) (G : Hp) (d : Option Addr) (fs : List (Str × PyData)) : Prop := (d = none ∧ fs = []) ∨ ∃ dd kvs, d = some dd ∧ G dd = some (.xd kvs) ∧ Paired (fun (kv : Str × V) (f : Str × PyData) => kv.1 = f.1 ∧ Rp K G kv.2 f.2) kvs fs
/-- an error that was caught -/
def ItX (K : PySem.W.Frag) (G : Hp) (v : V) (cn : Str) (fs : List (Str × PyData)) : Prop := ∃ a oe C, v = .ref a ∧ G a = some (atO a oe) ∧ clsA K cn C ∧ oe.cls = .ref C ∧ (∃ vs, oe.data = .fields vs) ∧ FldX K G oe.dict fs
theorem FldX.mono {K : PySem.W.Frag} {G G' : Hp} {d : Option Addr} {fs : List (Str × PyData)} (e : Ex G G') (h : FldX K G d fs) : FldX K G' d fs := by
  rcases h with h | ⟨dd, kvs, h1, h2, h3⟩
  · exact .inl h
  · exact .inr ⟨dd, kvs, h1, e _ _ h2, Paired.mapP h3 fun _ _ z => ⟨z.1, Rp.mono e _ _ z.2⟩⟩
theorem ItX.mono {K : PySem.W.Frag} {G G' : Hp} {v : V} {cn : Str} {fs : List (Str × PyData)} (e : Ex G G') (h : ItX K G v cn fs) : ItX K G' v cn fs := by
  obtain ⟨a, oe, C, h1, h2, h3, h4, h5, h6⟩ := h
  exact ⟨a, oe, C, h1, e _ _ h2, h3, h4, h5, h6.mono e⟩
def It (K : PySem.W.Frag) (G : Hp) (As : List Addr) (v : V) : R → Prop
  | .d x => Rp K G v x
  | .c k => ∃ a, As[k]? = some a ∧ v = .ref a
  | .f _ => False
  | .s ns => ∃ a, v = .ref a ∧ SqL K G a (ns.map V.int)
  | .b ks => ∃ a vs, v = .ref a ∧ G a = some (.lst vs) ∧ vs.length = ks.length ∧ ∀ (i k : Nat), ks[i]? = some k → ∃ c, As[k]? = some c ∧ vs[i]? = some (V.ref c)
  | .p ks => ∃ a vs, v = .ref a ∧ G a = some (.tup vs) ∧ vs.length = ks.length ∧ ∀ (i k : Nat), ks[i]? = some k → ∃ c, As[k]? = some c ∧ vs[i]? = some (V.ref c)
  | .h es => ItH K G v es
  | .g es => ItG K G v es
  | .q ess => ∃ a vs, v = .ref a ∧ G a = some (.lst vs) ∧ Paired (ItG K G) vs ess
  | .o u => ∃ a, v = .ref a ∧ G a = some u
  | .t x k => ∃ a w c, v = .ref a ∧ G a = some (.tup [w, .ref c]) ∧ Rp K G w x ∧ As[k]? = some c
  | .xe cn fs => ItX K G v cn fs
/-- a dict's entries -/
def Mp (K : PySem.W.Frag) (G : Hp) (As : List Addr) (kvs : List (Key × V)) (es : List (Key × R)) : Prop := Paired (fun kv e => kv.1 = e.1 ∧ It K G As kv.2 e.2) kvs es
def Np (K : PySem.W.Frag) (G : Hp) (As : List Addr) (xs : List (RwK × Addr × V)) (es : List (RwK × R)) : Prop := Paired (fun x e => x.1 = e.1 ∧ Rp K G (.ref x.2.1) (rwD x.1) ∧ It K G As x.2.2 e.2) xs es
/-- a list of cells -/
def El (K : PySem.W.Frag) (G : Hp) (As : List Addr) (vs : List V) (ks : List Nat) : Prop := vs.length = ks.length ∧ ∀ (i k : Nat), ks[i]? = some k → ∃ c, As[k]? = some c ∧ vs[i]? = some (V.ref c)
theorem El.mono {K : PySem.W.Frag} {G G' : Hp} {As As' : List Addr} {vs : List V} {ks : List Nat} (e : Ex G G') (p : ∃ bs, As' = As ++ bs) (h : El K G As vs ks) : El K G' As' vs ks := ⟨h.1, fun i k hk => by
  obtain ⟨c, e1, e2⟩ := h.2 i k hk
  obtain ⟨bs, rfl⟩ := p
  exact ⟨c, by rw [List.getElem?_append_left (List.getElem?_eq_some_iff.mp e1).1]; exact e1, e2⟩⟩
def CellOk (K : PySem.W.Frag) (G H : Hp) (As : List Addr) (a : Addr) : Cell → Prop
  | .l ds => G a = none ∧ ∃ vs, H a = some (.lst vs) ∧ RpA K G vs ds
  | .z x => Rp K G (.ref a) x
  | .m es => G a = none ∧ ∃ kvs, H a = some (.dK kvs) ∧ Mp K G As kvs es
  | .k es => ItH K G (.ref a) es
  | .x u => G a = none ∧ H a = some u ∧ WO u
  | .n w es => G a = none ∧ ∃ xs, H a = some (HN w a xs) ∧ Np K G As xs es
  | .e ks => G a = none ∧ ∃ vs, H a = some (.lst vs) ∧ El K G As vs ks
/-- what stands: G what is known for good, the cells at As -/
structure Cells (K : PySem.W.Frag) (G H : Hp) (As : List Addr) (κ : Kap) : Prop where
  ext : Ex G H
  len : As.length = κ.length
  nd : As.Nodup
  al : ∀ a, a ∈ As → ∃ o, H a = some o
  ok : ∀ (k : Nat) (c : Cell) (a : Addr), κ[k]? = some c → As[k]? = some a → CellOk K G H As a c
  tab : Tb K G H
structure Places (K : PySem.W.Frag) (G : Hp) (As : List Addr) (σ : L2.St) (ρ : Rho) : Prop where
  len : σ.length = ρ.length
  ok : ∀ (i : Nat) (r : R), ρ[i]? = some (some r) → ∃ v, σ[i]? = some (some v) ∧ It K G As v r
structure Step (G H : Hp) (As : List Addr) (G' H' : Hp) (As' : List Addr) : Prop where
  ex : Ex G G'
  pre : ∃ bs, As' = As ++ bs
  new : ∀ a, a ∈ As' → a ∈ As ∨ H a = none
  fr : ∀ b o, b ∉ As → NT o → H b = some o → H' b = some o
  dom : ∀ b, H' b = none → H b = none
  gn : ∀ b, G b = none → G' b = none ∨ H b = none ∨ b ∈ As ∨ ∃ xs, H' b = some (.tup xs)
def Rv (K : PySem.W.Frag) (H0 G H : Hp) (As : List Addr) (v : V) : R → Prop
  | .f xs => ∃ p vs, v = .ref p ∧ H0 p = none ∧ G p = none ∧ p ∉ As ∧ H p = some (.lst vs) ∧ RpA K G vs xs
  | r => It K G As v r
section
variable {K : PySem.W.Frag} {G H G' H' G1 H1 H0 : Hp} {As As' As1 : List Addr} {σ : L2.St} {ρ : Rho} {κ κ' : Kap} {v : V} {r : R}
theorem Step.refl : Step G H As G H As := ⟨Ex.refl G, ⟨[], by simp⟩, fun _ h => .inl h, fun _ _ _ _ h => h, fun _ h => h, fun _ h => .inl h⟩
theorem Step.trans (a : Step G H As G1 H1 As1) (b : Step G1 H1 As1 G' H' As') : Step G H As G' H' As' where
  ex := a.ex.trans b.ex
  pre := by
    obtain ⟨x, ex⟩ := a.pre
    obtain ⟨y, ey⟩ := b.pre
    exact ⟨x ++ y, by rw [ey, ex, List.append_assoc]⟩
  new := fun c h => by
    rcases b.new c h with h | h
    · exact a.new c h
    · exact .inr (a.dom c h)
  fr := fun c o hc nt h => by
    refine b.fr c o (fun hm => ?_) nt (a.fr c o hc nt h)
    rcases a.new c hm with q | q
    · exact hc q
    · rw [h] at q; cases q
  dom := fun c h => a.dom c (b.dom c h)
  gn := fun c h => by
    rcases a.gn c h with q | q | q | ⟨ys, q⟩
    · rcases b.gn c q with z | z | z | z
      · exact .inl z
      · exact .inr (.inl (a.dom c z))
      · rcases a.new c z with y | y
        · exact .inr (.inr (.inl y))
        · exact .inr (.inl y)
      · exact .inr (.inr (.inr z))
    · exact .inr (.inl q)
    · exact .inr (.inr (.inl q))
    · by_cases m : c ∈ As1
      · rcases a.new c m with y | y
        · exact .inr (.inr (.inl y))
        · exact .inr (.inl y)
      · exact .inr (.inr (.inr ⟨ys, b.fr c _ m (fun _ z => nomatch z) q⟩))
theorem Step.gnU (s : Step G H As G' H' As') {D : Addr} {o u : HO} (h0 : H' D = some u) (hu : WO u) : ∀ b, G b = none → G' b = none ∨ H b = none ∨ b ∈ As ∨ ∃ xs, upd H' D o b = some (.tup xs) := fun b h => by
  rcases s.gn b h with z | z | z | ⟨ys, z⟩
  · exact .inl z
  · exact .inr (.inl z)
  · exact .inr (.inr (.inl z))
  · refine .inr (.inr (.inr ⟨ys, ?_⟩))
    rw [upd_ne (fun e => ?_)]
    · exact z
    · subst e
      rw [h0] at z
      exact hu.2.2 ys (Option.some.inj z)
theorem It.mono (e : Ex G G') (p : ∃ bs, As' = As ++ bs) (h : It K G As v r) : It K G' As' v r := by
  cases r with
  | d x => exact Rp.mono e x v h
  | c k =>
    obtain ⟨a, h1, h2⟩ := h
    obtain ⟨bs, rfl⟩ := p
    refine ⟨a, ?_, h2⟩
    rw [List.getElem?_append_left (List.getElem?_eq_some_iff.mp h1).1]
    exact h1
  | f xs => exact h
  | s ns =>
    obtain ⟨a, h1, h2⟩ := h
    exact ⟨a, h1, ex_sl e h2⟩
  | b ks =>
    obtain ⟨a, vs, h1, h2, h3, h4⟩ := h
    refine ⟨a, vs, h1, e _ _ h2, h3, fun i k hk => ?_⟩
    obtain ⟨c, e1, e2⟩ := h4 i k hk
    obtain ⟨bs, rfl⟩ := p
    exact ⟨c, by rw [List.getElem?_append_left (List.getElem?_eq_some_iff.mp e1).1]; exact e1, e2⟩
  | p ks =>
    obtain ⟨a, vs, h1, h2, h3, h4⟩ := h
    refine ⟨a, vs, h1, e _ _ h2, h3, fun i k hk => ?_⟩
    obtain ⟨c, e1, e2⟩ := h4 i k hk
    obtain ⟨bs, rfl⟩ := p
    exact ⟨c, by rw [List.getElem?_append_left (List.getElem?_eq_some_iff.mp e1).1]; exact e1, e2⟩
  | h es => exact ItH.mono e h
  | g es => exact ItG.mono e h
  | q ess =>
    obtain ⟨a, vs, h1, h2, h3⟩ := h
    exact ⟨a, vs, h1, e _ _ h2, Paired.mapP h3 fun _ _ z => ItG.mono e z⟩
  | o u =>
    obtain ⟨a, h1, h2⟩ := h
    exact ⟨a, h1, e _ _ h2⟩
  | t x k =>
    obtain ⟨a, w, c, h1, h2, h3, h4⟩ := h
    obtain ⟨bs, rfl⟩ := p
    exact ⟨a, w, c, h1, e _ _ h2, Rp.mono e _ _ h3, by rw [List.getElem?_append_left (List.getElem?_eq_some_iff.mp h4).1]; exact h4⟩
  | xe cn fs => exact ItX.mono e h
theorem Np.mono {xs : List (RwK × Addr × V)} {es : List (RwK × R)} (e : Ex G G') (p : ∃ bs, As' = As ++ bs) (h : Np K G As xs es) : Np K G' As' xs es := by
  unfold Np at h ⊢
  induction h with
  | nil => exact .nil
  | cons r _ ih => exact .cons ⟨r.1, Rp.mono e _ _ r.2.1, r.2.2.mono e p⟩ ih
theorem Mp.mono {kvs : List (Key × V)} {es : List (Key × R)} (e : Ex G G') (p : ∃ bs, As' = As ++ bs) (h : Mp K G As kvs es) : Mp K G' As' kvs es := by
  unfold Mp at h ⊢
  induction h with
  | nil => exact .nil
  | cons r _ ih => exact .cons ⟨r.1, r.2.mono e p⟩ ih
theorem Step.it (s : Step G H As G' H' As') (h : It K G As v r) : It K G' As' v r := h.mono s.ex s.pre
theorem Places.step (p : Places K G As σ ρ) (s : Step G H As G' H' As') : Places K G' As' σ ρ :=
  ⟨p.len, fun i r h => by
    obtain ⟨v, h1, h2⟩ := p.ok i r h
    exact ⟨v, h1, s.it h2⟩⟩
/-- the heap of what is known grows by a new object -/
theorem Cells.laid (c : Cells K G H As κ) {p : Addr} {o : HO} (hp : H p = none) : Cells K (upd G p o) (upd H p o) As κ where
  ext := c.ext.upd2
  len := c.len
  nd := c.nd
  tab := c.tab.laid hp
  al := fun a h => by
    obtain ⟨u, e⟩ := c.al a h
    exact ⟨u, by rw [upd_ne (ne_of_none e hp)]; exact e⟩
  ok := fun k x a h1 h2 => by
    have q := c.ok k x a h1 h2
    have eG : Ex G (upd G p o) := Ex.new (c.ext.free hp)
    cases x with
    | l ds =>
      obtain ⟨q1, vs, q2, q3⟩ := q
      have ne : a ≠ p := ne_of_none q2 hp
      exact ⟨by rw [upd_ne ne]; exact q1, vs, by rw [upd_ne ne]; exact q2, RpA.mono eG _ _ q3⟩
    | z x => exact Rp.mono eG _ _ q
    | k es => exact ItH.mono eG q
    | n nw es =>
      obtain ⟨q1, vs, q2, q3⟩ := q
      have ne : a ≠ p := ne_of_none q2 hp
      exact ⟨by rw [upd_ne ne]; exact q1, vs, by rw [upd_ne ne]; exact q2, q3.mono eG ⟨[], by simp⟩⟩
    | e ks =>
      obtain ⟨q1, vs, q2, q3⟩ := q
      have ne : a ≠ p := ne_of_none q2 hp
      exact ⟨by rw [upd_ne ne]; exact q1, vs, by rw [upd_ne ne]; exact q2, q3.mono eG ⟨[], by simp⟩⟩
    | x u =>
      obtain ⟨q1, q2, q3⟩ := q
      have ne : a ≠ p := ne_of_none q2 hp
      exact ⟨by rw [upd_ne ne]; exact q1, by rw [upd_ne ne]; exact q2, q3⟩
    | m es =>
      obtain ⟨q1, vs, q2, q3⟩ := q
      have ne : a ≠ p := ne_of_none q2 hp
      exact ⟨by rw [upd_ne ne]; exact q1, vs, by rw [upd_ne ne]; exact q2, q3.mono eG ⟨[], by simp⟩⟩
/-- a new object that is not known for good -/
theorem Cells.fresh (c : Cells K G H As κ) {p : Addr} {o : HO} (hp : H p = none) : Cells K G (upd H p o) As κ where
  ext := c.ext.trans (Ex.new hp)
  len := c.len
  nd := c.nd
  tab := c.tab.put (wo_new hp)
  al := fun a h => by
    obtain ⟨u, e⟩ := c.al a h
    exact ⟨u, by rw [upd_ne (ne_of_none e hp)]; exact e⟩
  ok := fun k x a h1 h2 => by
    have q := c.ok k x a h1 h2
    cases x with
    | l ds =>
      obtain ⟨q1, vs, q2, q3⟩ := q
      have ne : a ≠ p := ne_of_none q2 hp
      exact ⟨q1, vs, by rw [upd_ne ne]; exact q2, q3⟩
    | z x => exact q
    | k es => exact q
    | n nw es =>
      obtain ⟨q1, vs, q2, q3⟩ := q
      have ne : a ≠ p := ne_of_none q2 hp
      exact ⟨q1, vs, by rw [upd_ne ne]; exact q2, q3⟩
    | e ks =>
      obtain ⟨q1, vs, q2, q3⟩ := q
      have ne : a ≠ p := ne_of_none q2 hp
      exact ⟨q1, vs, by rw [upd_ne ne]; exact q2, q3⟩
    | x u =>
      obtain ⟨q1, q2, q3⟩ := q
      have ne : a ≠ p := ne_of_none q2 hp
      exact ⟨q1, by rw [upd_ne ne]; exact q2, q3⟩
    | m es =>
      obtain ⟨q1, vs, q2, q3⟩ := q
      have ne : a ≠ p := ne_of_none q2 hp
      exact ⟨q1, vs, by rw [upd_ne ne]; exact q2, q3⟩
theorem Cells.notin (c : Cells K G H As κ) {p : Addr} (hp : H p = none) : p ∉ As := fun hm => by
  obtain ⟨o, e⟩ := c.al p hm
  rw [hp] at e; cases e
theorem Step.laid (ext : Ex G H) {p : Addr} {o : HO} (hp : H p = none) : Step G H As (upd G p o) (upd H p o) As :=
  ⟨Ex.new (ext.free hp), ⟨[], by simp⟩, fun _ h => .inl h, fun b u _ _ e => by rw [upd_ne (ne_of_none e hp)]; exact e, fun b e => by
    by_cases q : b = p
    · subst q; exact hp
    · rw [upd_ne q] at e; exact e, fun b e => by
    by_cases q : b = p
    · subst q; exact .inr (.inl hp)
    · exact .inl (by rw [upd_ne q]; exact e)⟩
theorem Step.fresh {p : Addr} {o : HO} (hp : H p = none) : Step G H As G (upd H p o) As :=
  ⟨Ex.refl G, ⟨[], by simp⟩, fun _ h => .inl h, fun b u _ _ e => by rw [upd_ne (ne_of_none e hp)]; exact e, fun b e => by
    by_cases q : b = p
    · subst q; exact hp
    · rw [upd_ne q] at e; exact e, fun _ e => .inl e⟩
/-- what is known for good grows by an object that stands -/
theorem Cells.learn (c : Cells K G H As κ) {q : Addr} {o : HO} (g0 : G q = none) (nin : q ∉ As) (hq : H q = some o) (nt : NT o := by exact fun _ z => nomatch z) : Cells K (upd G q o) H As κ :=
  ⟨c.ext.learn hq, c.len, c.nd, c.al, fun k x a h1 h2 => by
    have w := c.ok k x a h1 h2
    have eG : Ex G (upd G q o) := Ex.new g0
    cases x with
    | l ds =>
      obtain ⟨w1, ws, w2, w3⟩ := w
      have ne : a ≠ q := fun e => nin (by rw [← e]; exact List.mem_of_getElem? h2)
      exact ⟨by rw [upd_ne ne]; exact w1, ws, w2, RpA.mono eG _ _ w3⟩
    | m es =>
      obtain ⟨w1, ws, w2, w3⟩ := w
      have ne : a ≠ q := fun e => nin (by rw [← e]; exact List.mem_of_getElem? h2)
      exact ⟨by rw [upd_ne ne]; exact w1, ws, w2, w3.mono eG ⟨[], by simp⟩⟩
    | z x => exact Rp.mono eG _ _ w
    | k es => exact ItH.mono eG w
    | n nw es =>
      obtain ⟨w1, ws, w2, w3⟩ := w
      have ne : a ≠ q := fun e => nin (by rw [← e]; exact List.mem_of_getElem? h2)
      exact ⟨by rw [upd_ne ne]; exact w1, ws, w2, w3.mono eG ⟨[], by simp⟩⟩
    | e ks =>
      obtain ⟨w1, ws, w2, w3⟩ := w
      have ne : a ≠ q := fun e => nin (by rw [← e]; exact List.mem_of_getElem? h2)
      exact ⟨by rw [upd_ne ne]; exact w1, ws, w2, w3.mono eG ⟨[], by simp⟩⟩
    | x u =>
      obtain ⟨w1, w2⟩ := w
      have ne : a ≠ q := fun e => nin (by rw [← e]; exact List.mem_of_getElem? h2)
      exact ⟨by rw [upd_ne ne]; exact w1, w2⟩, c.tab.learn hq nt⟩
/-- a fresh list is let go: it is known for good -/
theorem settle (s : Step G1 H1 As1 G H As) (c : Cells K G H As κ) (p : Places K G As σ ρ) (h : Rv K H1 G H As v r) : ∃ G', Step G1 H1 As1 G' H As ∧ Cells K G' H As κ ∧ Places K G' As σ ρ ∧ It K G' As v r.st ∧ Ex G G' := by
  cases r with
  | f xs =>
    obtain ⟨q, vs, rfl, h0, g0, nin, hq, rp⟩ := h
    have eG : Ex G (upd G q (.lst vs)) := Ex.new g0
    refine ⟨upd G q (.lst vs), ⟨s.ex.trans eG, s.pre, s.new, s.fr, s.dom, fun b hb => ?_⟩, c.learn g0 nin hq, ⟨p.len, fun i r h => ?_⟩, .lst upd_same (RpA.mono eG _ _ rp), eG⟩
    · by_cases e : b = q
      · subst e; exact .inr (.inl h0)
      · rw [upd_ne e]; exact s.gn b hb
    · obtain ⟨v, h1, h2⟩ := p.ok i r h
      exact ⟨v, h1, h2.mono eG ⟨[], by simp⟩⟩
  | d x => exact ⟨G, s, c, p, h, Ex.refl G⟩
  | c k => exact ⟨G, s, c, p, h, Ex.refl G⟩
  | s ns => exact ⟨G, s, c, p, h, Ex.refl G⟩
  | b ks => exact ⟨G, s, c, p, h, Ex.refl G⟩
  | p ks => exact ⟨G, s, c, p, h, Ex.refl G⟩
  | h ks => exact ⟨G, s, c, p, h, Ex.refl G⟩
  | g ks => exact ⟨G, s, c, p, h, Ex.refl G⟩
  | q ks => exact ⟨G, s, c, p, h, Ex.refl G⟩
  | o u => exact ⟨G, s, c, p, h, Ex.refl G⟩
  | t x k => exact ⟨G, s, c, p, h, Ex.refl G⟩
  | xe cn fs => exact ⟨G, s, c, p, h, Ex.refl G⟩
/-- a cell is let go: what it holds is known for good -/
theorem freeze {k : Nat} {ds : List PyData} (c : Cells K G H As κ) (h : It K G As v (.c k)) (hk : κ[k]? = some (.l ds)) :
    ∃ G', Step G H As G' H As ∧ Cells K G' H As (κ.set k (.z (.list ds))) ∧ Rp K G' v (.list ds) := by
  obtain ⟨a, h1, rfl⟩ := h
  obtain ⟨g0, vs, hq, rp⟩ := c.ok k _ a hk h1
  have eG : Ex G (upd G a (.lst vs)) := Ex.new g0
  have hm : a ∈ As := List.mem_of_getElem? h1
  refine ⟨upd G a (.lst vs), ⟨eG, ⟨[], by simp⟩, fun _ h => .inl h, fun _ _ _ _ h => h, fun _ h => h, fun b hb => ?_⟩, ⟨c.ext.learn hq, by rw [List.length_set]; exact c.len, c.nd, c.al, fun j x b e1 e2 => ?_, c.tab.learn hq (wo_lst vs).1⟩, .lst upd_same (RpA.mono eG _ _ rp)⟩
  · by_cases e : b = a
    · subst e; exact .inr (.inr (.inl hm))
    · exact .inl (by rw [upd_ne e]; exact hb)
  · by_cases hj : j = k
    · subst hj
      rw [h1] at e2; cases e2
      rw [List.getElem?_set_self (List.getElem?_eq_some_iff.mp hk).1] at e1
      cases e1
      exact Rp.lst upd_same (RpA.mono eG _ _ rp)
    · rw [List.getElem?_set_ne (fun z => hj z.symm)] at e1
      have w := c.ok j x b e1 e2
      have ne : b ≠ a := fun z => hj (by
        subst z
        obtain ⟨l1, q1⟩ := List.getElem?_eq_some_iff.mp e2
        obtain ⟨l2, q2⟩ := List.getElem?_eq_some_iff.mp h1
        exact (List.getElem_inj c.nd).mp (q1.trans q2.symm))
      cases x with
      | l ds' =>
        obtain ⟨w1, ws, w2, w3⟩ := w
        exact ⟨by rw [upd_ne ne]; exact w1, ws, w2, RpA.mono eG _ _ w3⟩
      | m es =>
        obtain ⟨w1, ws, w2, w3⟩ := w
        exact ⟨by rw [upd_ne ne]; exact w1, ws, w2, w3.mono eG ⟨[], by simp⟩⟩
      | z x => exact Rp.mono eG _ _ w
      | k es => exact ItH.mono eG w
      | n nw es =>
        obtain ⟨w1, ws, w2, w3⟩ := w
        exact ⟨by rw [upd_ne ne]; exact w1, ws, w2, w3.mono eG ⟨[], by simp⟩⟩
      | e ks =>
        obtain ⟨w1, ws, w2, w3⟩ := w
        exact ⟨by rw [upd_ne ne]; exact w1, ws, w2, w3.mono eG ⟨[], by simp⟩⟩
      | x u => exact ⟨by rw [upd_ne ne]; exact w.1, w.2⟩
/-- a cell holds another thing now -/
theorem Cells.put {k : Nat} {a : Addr} {c1 c2 : Cell} {o : HO} (c : Cells K G H As κ) (hk : κ[k]? = some c1) (h1 : As[k]? = some a) (g0 : G a = none) (hw : ∀ u, H a = some u → WO u) (new : CellOk K G (upd H a o) As a c2) : Cells K G (upd H a o) As (κ.set k c2) := by
  refine ⟨c.ext.mut g0, by rw [List.length_set]; exact c.len, c.nd, fun b hb => ?_, fun j x b e1 e2 => ?_, c.tab.put hw⟩
  · by_cases e : b = a
    · subst e; exact ⟨_, upd_same⟩
    · rw [upd_ne e]; exact c.al b hb
  · by_cases hj : j = k
    · subst hj
      rw [h1] at e2; cases e2
      rw [List.getElem?_set_self (List.getElem?_eq_some_iff.mp hk).1] at e1
      cases e1
      exact new
    · rw [List.getElem?_set_ne (fun z => hj z.symm)] at e1
      have w := c.ok j x b e1 e2
      have ne : b ≠ a := fun z => hj (by
        subst z
        obtain ⟨l1, q1⟩ := List.getElem?_eq_some_iff.mp e2
        obtain ⟨l2, q2⟩ := List.getElem?_eq_some_iff.mp h1
        exact (List.getElem_inj c.nd).mp (q1.trans q2.symm))
      cases x with
      | l ds' =>
        obtain ⟨w1, ws', w2, w3⟩ := w
        exact ⟨w1, ws', by rw [upd_ne ne]; exact w2, w3⟩
      | m es =>
        obtain ⟨w1, ws', w2, w3⟩ := w
        exact ⟨w1, ws', by rw [upd_ne ne]; exact w2, w3⟩
      | z x => exact w
      | k es => exact w
      | n nw es =>
        obtain ⟨w1, ws', w2, w3⟩ := w
        exact ⟨w1, ws', by rw [upd_ne ne]; exact w2, w3⟩
      | e ks =>
        obtain ⟨w1, ws', w2, w3⟩ := w
        exact ⟨w1, ws', by rw [upd_ne ne]; exact w2, w3⟩
      | x u => exact ⟨w.1, by rw [upd_ne ne]; exact w.2.1, w.2.2⟩
/-- a cell's list is another one now -/
theorem Cells.write {k : Nat} {a : Addr} {ds es : List PyData} {vs : List V} (c : Cells K G H As κ) (hk : κ[k]? = some (.l ds)) (h1 : As[k]? = some a) (hv : RpA K G vs es) : Cells K G (upd H a (.lst vs)) As (κ.set k (.l es)) := by
  obtain ⟨g0, ws, hq, rp⟩ := c.ok k _ a hk h1
  exact c.put hk h1 g0 (wo_at hq (wo_lst ws)) ⟨g0, vs, upd_same, hv⟩
theorem Step.write {a : Addr} {o u : HO} (hm : a ∈ As) (hq : H a = some u) (hw : WO u := by first | exact wo_lst _ | exact wo_dK _ | exact wo_frz _ _) : Step G H As G (upd H a o) As :=
  ⟨Ex.refl G, ⟨[], by simp⟩, fun _ h => .inl h, fun b u hb _ e => by
    rw [upd_ne (fun z => hb (by rw [z]; exact hm))]; exact e, fun b e => by
    by_cases q : b = a
    · subst q; rw [upd_same] at e; cases e
    · rw [upd_ne q] at e; exact e, fun _ e => .inl e⟩
/-- a new cell -/
theorem Cells.moreC {q : Addr} {o : HO} {c2 : Cell} (c : Cells K G H As κ) (nin : q ∉ As) (hq : H q = some o) (new : CellOk K G H (As ++ [q]) q c2) : Cells K G H (As ++ [q]) (κ ++ [c2]) where
  ext := c.ext
  tab := c.tab
  len := by rw [List.length_append, List.length_append, c.len]; rfl
  nd := by
    rw [List.nodup_append]
    refine ⟨c.nd, by simp, fun x hx y hy e => nin ?_⟩
    rw [List.mem_singleton] at hy
    rw [← hy, ← e]; exact hx
  al := fun a h => by
    rcases List.mem_append.mp h with h | h
    · exact c.al a h
    · rw [List.mem_singleton] at h
      subst h; exact ⟨_, hq⟩
  ok := fun k x a e1 e2 => by
    by_cases hk : k < κ.length
    · rw [List.getElem?_append_left hk] at e1
      rw [List.getElem?_append_left (by rw [c.len]; exact hk)] at e2
      have w := c.ok k x a e1 e2
      cases x with
      | l ds => exact w
      | z y => exact w
      | k es => exact w
      | n nw es =>
        obtain ⟨w1, ws, w2, w3⟩ := w
        exact ⟨w1, ws, w2, w3.mono (Ex.refl G) ⟨[q], rfl⟩⟩
      | e ks =>
        obtain ⟨w1, ws, w2, w3⟩ := w
        exact ⟨w1, ws, w2, w3.mono (Ex.refl G) ⟨[q], rfl⟩⟩
      | x u => exact w
      | m es =>
        obtain ⟨w1, ws, w2, w3⟩ := w
        exact ⟨w1, ws, w2, w3.mono (Ex.refl G) ⟨[q], rfl⟩⟩
    · have hk' : k = κ.length := by
        have := (List.getElem?_eq_some_iff.mp e1).1
        rw [List.length_append] at this
        have z : ([c2] : List Cell).length = 1 := rfl
        omega
      subst hk'
      rw [List.getElem?_append_right (Nat.le_refl _), Nat.sub_self] at e1
      rw [← c.len, List.getElem?_append_right (Nat.le_refl _), Nat.sub_self] at e2
      cases e1
      cases e2
      exact new
theorem Cells.more {q : Addr} {ds : List PyData} {vs : List V} (c : Cells K G H As κ) (g0 : G q = none) (nin : q ∉ As) (hq : H q = some (.lst vs)) (rp : RpA K G vs ds) : Cells K G H (As ++ [q]) (κ ++ [.l ds]) := c.moreC nin hq ⟨g0, vs, hq, rp⟩
/-- a value as it is seen: its items are known for good -/
def Vw (K : PySem.W.Frag) (G H : Hp) (v : V) : PyData → Prop
  | .list ds => ∃ a vs, v = .ref a ∧ H a = some (.lst vs) ∧ RpA K G vs ds
  | x => Rp K G v x
theorem Vw.of (e : Ex G H) {x : PyData} (h : Rp K G v x) : Vw K G H v x := by
  cases h with
  | non => exact .non
  | bl b => exact .bl b
  | int i => exact .int i
  | str z => exact .str z
  | lst h1 h2 => exact ⟨_, _, rfl, e _ _ h1, h2⟩
  | tup h1 h2 => exact .tup h1 h2
theorem Vw.rp (e : Ex G H) : ∀ {x : PyData}, Vw K G H v x → Rp K H v x
  | .none, h => Rp.mono e _ _ h
  | .bool _, h => Rp.mono e _ _ h
  | .int _, h => Rp.mono e _ _ h
  | .str _, h => Rp.mono e _ _ h
  | .list _, h => by
    obtain ⟨a, vs, rfl, h1, h2⟩ := h
    exact .lst h1 (RpA.mono e _ _ h2)
  | .tuple _, h => Rp.mono e _ _ h
  | .dict _, h => Rp.mono e _ _ h
theorem Vw.tup (e : Ex G H) {ds : List PyData} (h : Vw K G H v (.tuple ds)) : ∃ a vs, v = .ref a ∧ SqT K H a vs ∧ RpA K G vs ds := by
  have h : Rp K G v (.tuple ds) := h
  cases h with
  | tup h1 h2 => exact ⟨_, _, rfl, sqt_of (e _ _ h1), h2⟩
theorem It.vw (c : Cells K G H As κ) (h : It K G As v r) {x : PyData} (e : val κ r = some x) : Vw K G H v x := by
  cases r with
  | d y =>
    cases e
    exact Vw.of c.ext h
  | f xs => exact h.elim
  | s ns => cases e
  | b ks => cases e
  | p ks => cases e
  | h ks => cases e
  | g ks => cases e
  | q ks => cases e
  | o u => cases e
  | t y j => cases e
  | xe cn fs => cases e
  | c k =>
    obtain ⟨a, h1, rfl⟩ := h
    unfold val at e
    simp only at e
    cases q : κ[k]? with
    | none => rw [q] at e; cases e
    | some cc =>
      rw [q] at e
      have w := c.ok k cc a q h1
      cases cc with
      | l ds =>
        cases e
        obtain ⟨_, vs, w2, w3⟩ := w
        exact ⟨a, vs, rfl, w2, w3⟩
      | m es => cases e
      | k es => cases e
      | n nw es => cases e
      | e ks => cases e
      | x u => cases e
      | z y =>
        cases e
        exact Vw.of c.ext w
end
/-- a reading over plain data: an expression, a test, arguments, a statement, a target -/
abbrev DTE := Rho → Kap → (R → Kap → Prop) → Prop
abbrev DTT := Rho → Kap → (Bool → Kap → Prop) → Prop
abbrev DTA := Rho → Kap → (List R → Kap → Prop) → Prop
structure DEnds where
  nx : Rho → Kap → Prop
  rt : R → Kap → Prop
  bk : Rho → Kap → Prop := fun _ _ => False
  ct : Rho → Kap → Prop := fun _ _ => False
abbrev DTS := DEnds → Rho → Kap → Prop
abbrev DTG := R → Rho → Kap → (Rho → Kap → Prop) → Prop
def DE (X : Cx) (e : Expr) (w : DTE) : Prop := ∃ t, PE X e t ∧ ∀ (G H : Hp) (As : List Addr) (σ : L2.St) (ρ : Rho) (κ : Kap) (P : R → Kap → Prop) (Q : VK), Cells X.K G H As κ → Places X.K G As σ ρ → w ρ κ P →
  (∀ v r G' H' As' κ', Step G H As G' H' As' → Cells X.K G' H' As' κ' → Places X.K G' As' σ ρ → Rv X.K H G' H' As' v r → P r κ' → Q v H') → t σ H Q
def DT (X : Cx) (e : Expr) (w : DTT) : Prop := ∃ t, PT X e t ∧ ∀ (G H : Hp) (As : List Addr) (σ : L2.St) (ρ : Rho) (κ : Kap) (P : Bool → Kap → Prop) (Q : Bool → Hp → Prop), Cells X.K G H As κ → Places X.K G As σ ρ → w ρ κ P →
  (∀ b G' H' As' κ', Step G H As G' H' As' → Cells X.K G' H' As' κ' → Places X.K G' As' σ ρ → P b κ' → Q b H') → t σ H Q
def DW (X : Cx) (e : Expr) (w : DTT) : Prop := ∃ t, PW X e t ∧ ∀ (G H : Hp) (As : List Addr) (σ : L2.St) (ρ : Rho) (κ : Kap) (P : Bool → Kap → Prop) (Q : Bool → Hp → Prop), Cells X.K G H As κ → Places X.K G As σ ρ → w ρ κ P →
  (∀ b G' H' As' κ', Step G H As G' H' As' → Cells X.K G' H' As' κ' → Places X.K G' As' σ ρ → P b κ' → Q b H') → t σ H Q
def DA (X : Cx) (es : List Expr) (w : DTA) : Prop := ∃ t, PA X es t ∧ ∀ (G H : Hp) (As : List Addr) (σ : L2.St) (ρ : Rho) (κ : Kap) (P : List R → Kap → Prop) (Q : List V → Hp → Prop), Cells X.K G H As κ → Places X.K G As σ ρ → w ρ κ P →
  (∀ vs rs G' H' As' κ', Step G H As G' H' As' → Cells X.K G' H' As' κ' → Places X.K G' As' σ ρ → Paired (It X.K G' As') vs rs → rs.length = es.length → P rs κ' → Q vs H') → t σ H Q
/-- what a statement reaches -/
structure Reach (K : PySem.W.Frag) (G H : Hp) (As : List Addr) (E : DEnds) (D : Ends) : Prop where
  nx : ∀ σ' ρ' G' H' As' κ', Step G H As G' H' As' → Cells K G' H' As' κ' → Places K G' As' σ' ρ' → E.nx ρ' κ' → D.nx σ' H'
  bk : ∀ σ' ρ' G' H' As' κ', Step G H As G' H' As' → Cells K G' H' As' κ' → Places K G' As' σ' ρ' → E.bk ρ' κ' → D.bk σ' H'
  ct : ∀ σ' ρ' G' H' As' κ', Step G H As G' H' As' → Cells K G' H' As' κ' → Places K G' As' σ' ρ' → E.ct ρ' κ' → D.ct σ' H'
  rt : ∀ v r G' H' As' κ', Step G H As G' H' As' → Cells K G' H' As' κ' → Rv K H G' H' As' v r → E.rt r κ' → D.rt v H'
def DS (X : Cx) (st : Stmt) (w : DTS) : Prop := ∃ t, PS X st t ∧ ∀ (G H : Hp) (As : List Addr) (σ : L2.St) (ρ : Rho) (κ : Kap) (E : DEnds) (D : Ends), Cells X.K G H As κ → Places X.K G As σ ρ → w E ρ κ → Reach X.K G H As E D → t D σ H
def DSs (X : Cx) (sts : List Stmt) (w : DTS) : Prop := ∃ t, PSs X sts t ∧ ∀ (G H : Hp) (As : List Addr) (σ : L2.St) (ρ : Rho) (κ : Kap) (E : DEnds) (D : Ends), Cells X.K G H As κ → Places X.K G As σ ρ → w E ρ κ → Reach X.K G H As E D → t D σ H
section
variable {K : PySem.W.Frag} {G H G1 H1 : Hp} {As As1 : List Addr} {E : DEnds} {D : Ends}
theorem Rv.back {K : PySem.W.Frag} {G0 H0 G1 H1 G H : Hp} {As0 As1 As : List Addr} {v : V} {r : R} (s : Step G0 H0 As0 G1 H1 As1) (h : Rv K H1 G H As v r) : Rv K H0 G H As v r := by
  cases r with
  | f xs =>
    obtain ⟨p, vs, e, h0, q⟩ := h
    exact ⟨p, vs, e, s.dom p h0, q⟩
  | d x => exact h
  | c k => exact h
  | s ns => exact h
  | b ks => exact h
  | p ks => exact h
  | h ks => exact h
  | g ks => exact h
  | q ks => exact h
  | o u => exact h
  | t y j => exact h
  | xe cn fs => exact h
theorem Reach.step (r : Reach K G H As E D) (s : Step G H As G1 H1 As1) : Reach K G1 H1 As1 E D :=
  ⟨fun a b c d e f x => r.nx a b c d e f (s.trans x), fun a b c d e f x => r.bk a b c d e f (s.trans x), fun a b c d e f x => r.ct a b c d e f (s.trans x), fun a b c d e f x y z => r.rt a b c d e f (s.trans x) y (z.back s)⟩
end
def wVar (i : Nat) : DTE := fun ρ κ P => match ρ[i]? with
  | some (some r) => P r κ
  | _ => False
def wC (x : PyData) : DTE := fun _ κ P => P (.d x) κ
section
variable {X : Cx}
theorem de_var (i : Nat) {x : Str} {pos : Pos} (hN : X.N[i]? = some x := by rfl) (hv : Vis X.env.scope x := by first | exact Or.inl rfl | exact Or.inr (Or.inl rfl) | exact Or.inr (Or.inr rfl)) (hd : (x == ("__debug__" : Str)) = false := by decide)
    (hcd : (x == ("__classdict__" : Str)) = false := by decide) : DE X (.Name x pos) (wVar i) := by
  refine ⟨_, pe_var hN hv hd hcd, fun G H As σ ρ κ P Q c p w k => ?_⟩
  unfold wVar at w
  split at w
  · rename_i r hr
    obtain ⟨v, h1, h2⟩ := p.ok i r hr
    refine ⟨v, h1, k v r G H As κ Step.refl c p ?_ w⟩
    cases r with
    | f xs => exact h2.elim
    | d x => exact h2
    | c k => exact h2
    | s ns => exact h2
    | b ks => exact h2
    | p ks => exact h2
    | h ks => exact h2
    | g ks => exact h2
    | q ks => exact h2
    | o u => exact h2
    | t y j => exact h2
    | xe cn fs => exact h2
  · exact w.elim
theorem de_c {e : Expr} {v : V} {x : PyData} (h : PE X e (tC v)) (hx : ∀ G : Hp, Rp X.K G v x) : DE X e (wC x) :=
  ⟨_, h, fun G H As σ ρ κ P Q c p w k => k v (.d x) G H As κ Step.refl c p (hx G) w⟩
theorem de_int {i : Int} {j : Nat} {pos : Pos} : DE X (.Constant (.int i) j pos) (wC (.int i)) := de_c pe_int fun _ => .int i
theorem de_bl {b : Bool} {j : Nat} {pos : Pos} : DE X (.Constant (.bool b) j pos) (wC (.bool b)) := de_c pe_bl fun _ => .bl b
theorem de_non {j : Nat} {pos : Pos} : DE X (.Constant .none j pos) (wC .none) := de_c pe_non fun _ => .non
theorem de_str {x : Str} {j : Nat} {pos : Pos} : DE X (.Constant (.str x) j pos) (wC (.str x)) := de_c pe_str fun _ => .str x
end
/-- what an operation hands back: a value that is known, a new list, a new tuple -/
inductive Out where
  | v (x : PyData)
  | n (xs : List PyData)
  | t (xs : List PyData)
def Out.r : Out → R
  | .v x => .d x
  | .n xs => .f xs
  | .t xs => .d (.tuple xs)
def OutK (K : PySem.W.Frag) (G H : Hp) (Q : VK) : Out → Prop
  | .v x => ∀ w, Rp K G w x → Q w H
  | .n xs => ∀ p vs, H p = none → RpA K G vs xs → Q (.ref p) (upd H p (.lst vs))
  | .t xs => (∀ p vs, H p = none → RpA K G vs xs → Q (.ref p) (upd H p (.tup vs))) ∧ ∀ w, Rp K G w (.tuple xs) → Q w H
/-- an option that must be there -/
def Opt {α : Type} (o : Option α) (k : α → Prop) : Prop := match o with
  | some a => k a
  | none => False
theorem Opt.ex {α : Type} {o : Option α} {k : α → Prop} (h : Opt o k) : ∃ a, o = some a ∧ k a := by
  cases o with
  | none => exact h.elim
  | some a => exact ⟨a, rfl, h⟩
theorem Opt.mk {α : Type} {o : Option α} {k : α → Prop} {a : α} (e : o = some a) (h : k a) : Opt o k := by
  rw [e]; exact h
section
variable {K : PySem.W.Frag} {G H G0 H0 : Hp} {As As0 : List Addr} {σ : L2.St} {ρ : Rho} {κ : Kap} {Q : VK} {P : R → Kap → Prop}
theorem out_ok (s : Step G0 H0 As0 G H As) (c : Cells K G H As κ) (p : Places K G As σ ρ) (o : Out) (h : P o.r κ)
    (k : ∀ v r G' H' As' κ', Step G0 H0 As0 G' H' As' → Cells K G' H' As' κ' → Places K G' As' σ ρ → Rv K H0 G' H' As' v r → P r κ' → Q v H') : OutK K G H Q o := by
  cases o with
  | v x => exact fun w hw => k w (.d x) G H As κ s c p hw h
  | n xs => exact fun q vs hq hv => k _ (.f xs) G _ As κ (s.trans (Step.fresh hq)) (c.fresh hq) p ⟨q, vs, rfl, s.dom q hq, c.ext.free hq, c.notin hq, upd_same, hv⟩ h
  | t xs =>
    refine ⟨fun q vs hq hv => k _ (.d (.tuple xs)) _ _ As κ (s.trans (Step.laid c.ext hq)) (c.laid hq) (p.step (Step.laid c.ext hq)) ?_ h, fun w hw => k w (.d (.tuple xs)) G H As κ s c p hw h⟩
    exact Rp.tup upd_same (RpA.mono (Ex.new (c.ext.free hq)) _ _ hv)
end
def OpD (K : PySem.W.Frag) (r2 : R2) (g : PyData → PyData → Option Out) : Prop := ∀ (G H : Hp) (v u : V) (x y : PyData) (o : Out) (Q : VK), Ex G H → Vw K G H v x → Vw K G H u y → g x y = some o → OutK K G H Q o → r2 v u H Q
def UnD (K : PySem.W.Frag) (r1 : V → Hp → VK → Prop) (g : PyData → Option Out) : Prop := ∀ (G H : Hp) (v : V) (x : PyData) (o : Out) (Q : VK), Ex G H → Vw K G H v x → g x = some o → OutK K G H Q o → r1 v H Q
def CallD (K : PySem.W.Frag) (rc : List V → Hp → VK → Prop) (g : List PyData → Option Out) : Prop := ∀ (G H : Hp) (vs : List V) (xs : List PyData) (o : Out) (Q : VK), Ex G H → Paired (Vw K G H) vs xs → g xs = some o → OutK K G H Q o → rc vs H Q
def wBin (g : PyData → PyData → Option Out) (wa wb : DTE) : DTE := fun ρ κ P => wa ρ κ fun r1 κ1 => wb ρ κ1 fun r2 κ2 => Opt (val κ2 r1.st) fun x => Opt (val κ2 r2.st) fun y => Opt (g x y) fun o => P o.r κ2
def wUn (g : PyData → Option Out) (wa : DTE) : DTE := fun ρ κ P => wa ρ κ fun r1 κ1 => Opt (val κ1 r1.st) fun x => Opt (g x) fun o => P o.r κ1
def vals (κ : Kap) : List R → Option (List PyData)
  | [] => some []
  | r :: rs => match val κ r, vals κ rs with
    | some x, some xs => some (x :: xs)
    | _, _ => none
def wCB (g : List PyData → Option Out) (wa : DTA) : DTE := fun ρ κ P => wa ρ κ fun rs κ1 => Opt (vals κ1 rs) fun xs => Opt (g xs) fun o => P o.r κ1
section
variable {X : Cx} {a b : Expr} {wa wb : DTE} {pos : Pos}
theorem bin_reads {ta tb : TE} {r2 : R2} {g : PyData → PyData → Option Out} (hg : OpD X.K r2 g)
    (ha : ∀ (G H : Hp) (As : List Addr) (σ : L2.St) (ρ : Rho) (κ : Kap) (P : R → Kap → Prop) (Q : VK), Cells X.K G H As κ → Places X.K G As σ ρ → wa ρ κ P → (∀ v r G' H' As' κ', Step G H As G' H' As' → Cells X.K G' H' As' κ' → Places X.K G' As' σ ρ → Rv X.K H G' H' As' v r → P r κ' → Q v H') → ta σ H Q)
    (hb : ∀ (G H : Hp) (As : List Addr) (σ : L2.St) (ρ : Rho) (κ : Kap) (P : R → Kap → Prop) (Q : VK), Cells X.K G H As κ → Places X.K G As σ ρ → wb ρ κ P → (∀ v r G' H' As' κ', Step G H As G' H' As' → Cells X.K G' H' As' κ' → Places X.K G' As' σ ρ → Rv X.K H G' H' As' v r → P r κ' → Q v H') → tb σ H Q)
    (G H : Hp) (As : List Addr) (σ : L2.St) (ρ : Rho) (κ : Kap) (P : R → Kap → Prop) (Q : VK) (c : Cells X.K G H As κ) (p : Places X.K G As σ ρ) (w : wBin g wa wb ρ κ P)
    (k : ∀ v r G' H' As' κ', Step G H As G' H' As' → Cells X.K G' H' As' κ' → Places X.K G' As' σ ρ → Rv X.K H G' H' As' v r → P r κ' → Q v H') : tOp r2 ta tb σ H Q := by
  refine ha G H As σ ρ κ _ _ c p w fun v1 r1 G1 H1 As1 κ1 s1 c1 p1 i1 w1 => ?_
  obtain ⟨G1', s1', c1', p1', i1', _⟩ := settle s1 c1 p1 i1
  refine hb G1' H1 As1 σ ρ κ1 _ _ c1' p1' w1 fun v2 r2 G2 H2 As2 κ2 s2 c2 p2 i2 w2 => ?_
  obtain ⟨G2', s2', c2', p2', i2', _⟩ := settle s2 c2 p2 i2
  obtain ⟨x, ex, w2⟩ := w2.ex
  obtain ⟨y, ey, w2⟩ := w2.ex
  obtain ⟨o, eo, w2⟩ := w2.ex
  exact hg G2' H2 v1 v2 x y o Q c2'.ext ((s2'.it i1').vw c2' ex) (i2'.vw c2' ey) eo (out_ok (s1'.trans s2') c2' p2' o w2 k)
theorem de_op {op : Operator} {r2 : R2} {g : PyData → PyData → Option Out} (ho : OpR X (binaryOp op) r2) (hg : OpD X.K r2 g) (ha : DE X a wa) (hb : DE X b wb) : DE X (.BinOp a op b pos) (wBin g wa wb) := by
  obtain ⟨ta, pa, ha⟩ := ha
  obtain ⟨tb, pb, hb⟩ := hb
  exact ⟨_, pe_op ho pa pb, bin_reads hg ha hb⟩
theorem de_cmp {op : CmpOp} {r2 : R2} {g : PyData → PyData → Option Out} (ho : OpR X (compareOp op) r2) (hg : OpD X.K r2 g) (ha : DE X a wa) (hb : DE X b wb) (hm : behindInMarks op b = false) : DE X (.Compare a [op] [b] pos) (wBin g wa wb) := by
  obtain ⟨ta, pa, ha⟩ := ha
  obtain ⟨tb, pb, hb⟩ := hb
  exact ⟨_, pe_cmpR ho pa pb hm, bin_reads hg ha hb⟩
theorem de_ix {r2 : R2} {g : PyData → PyData → Option Out} (ho : IxR X r2) (hg : OpD X.K r2 g) (ha : DE X a wa) (hb : DE X b wb) (hs : PlainIx b) : DE X (.Subscript a b pos) (wBin g wa wb) := by
  obtain ⟨ta, pa, ha⟩ := ha
  obtain ⟨tb, pb, hb⟩ := hb
  exact ⟨_, pe_ix ho pa pb hs, bin_reads hg ha hb⟩
theorem de_un {op : UnaryOp} {r1 : V → Hp → VK → Prop} {g : PyData → Option Out} (ho : UnR X (unaryOp op) r1) (hg : UnD X.K r1 g) (ha : DE X a wa) : DE X (.UnaryOp op a pos) (wUn g wa) := by
  obtain ⟨ta, pa, ha⟩ := ha
  refine ⟨_, pe_un ho pa, fun G H As σ ρ κ P Q c p w k => ?_⟩
  refine ha G H As σ ρ κ _ _ c p w fun v1 r1 G1 H1 As1 κ1 s1 c1 p1 i1 w1 => ?_
  obtain ⟨G1', s1', c1', p1', i1', _⟩ := settle s1 c1 p1 i1
  obtain ⟨x, ex, w2⟩ := w1.ex
  obtain ⟨o, eo, w2⟩ := w2.ex
  exact hg G1' H1 v1 x o Q c1'.ext (i1'.vw c1' ex) eo (out_ok s1' c1' p1' o w2 k)
end
end DL
namespace DL
open PySem PySem.Spec PyProof.Rows L2
/-- room, and nobody around who makes a text -/
structure RoomG (k : Nat) (A : Around) : Prop extends Room k A where
  gu : A.guards = some []
theorem RoomG.monoG {j k : Nat} {A : Around} (r : RoomG k A) (h : j ≤ k) : RoomG j A := ⟨r.toRoom.mono h, r.gu⟩
theorem guards_deeper {A : Around} {env : Env} (h : A.guards = some []) : (A.deeper env).guards = some [] := by
  obtain ⟨hd, d, fr, gs, u⟩ := A
  first
    | exact h
    | simpa [Around.deeper] using h
theorem RoomG.deeperG {k : Nat} {A : Around} (r : RoomG (k + 1) A) (env : Env) : RoomG k (A.deeper env) := ⟨r.toRoom.deeper env, guards_deeper r.gu⟩
theorem room_callerG {k : Nat} (h : Room k callerA) : RoomG k callerA := ⟨h, rfl⟩
/-- a def's promise, called where nobody makes a text -/
structure FnG (P : Program) (w : World) (K : PySem.W.Frag) (mg : Str → Option Value) (base : Heap) (CX : CXT) (k : Nat) (f : Addr) (fd : FuncData) (ps : List Str) (sp : Sp) : Prop where
  len : ∀ vs H Q E, sp vs H Q E → vs.length = ps.length
  go : ∀ (A : Around) (outer : List Env) (s : Shared) (H : Hp) (args : Args) (us : List Value) (vs : List V) (Q : VK) (E : XK), RoomG k A → Env0 P w K mg base A outer s H → BindsTo s fd args (ps.zip us) → Vals vs us → sp vs H Q E → codeAny (model P w) A (.call (.ref f) args) (CR CX outer P w H s Q E) s
theorem FnG.mono {P : Program} {w : World} {K : PySem.W.Frag} {mg : Str → Option Value} {base : Heap} {CX : CXT} {j k : Nat} {f : Addr} {fd : FuncData} {ps : List Str} {sp : Sp} (F : FnG P w K mg base CX j f fd ps sp) (h : j ≤ k) : FnG P w K mg base CX k f fd ps sp :=
  ⟨F.len, fun A outer s H args us vs Q E r => F.go A outer s H args us vs Q E (r.monoG h)⟩
section
variable {X : Cx} {CX : CXT} {k n : Nat} {f : Addr} {fd : FuncData} {ps ks : List Str} {sp : Sp} {E : XK} {x : Str} {p pos : Pos} {e : Expr} {es : List Expr} {t tk : TA}
/-- what a call leaves in the body that called -/
theorem ends_of {pins : List (Addr × Obj)} {σ : L2.St} {H : Hp} {s s' : Shared} {Q : VK} {r : Result} (hx : Passes CX X E) (I : L2.Inv X pins σ H s) (h : CR CX X.stack X.prog X.w H s Q E r s') : match r with
  | .ok (.ret u) => EP X pins σ Q u s'
  | .ok _ => False
  | .error e => X.xe e s' := by
  cases r with
  | error e => exact hx pins σ H s e s' I h
  | ok fl =>
    cases fl with
    | ret u => exact I.after h
    | _ => exact h.elim
/-- f(e, ..) -/
theorem pe_callG {ds : List Value} {dvs : List V} (F : FnG X.prog X.w X.K X.mg X.base CX k f fd ps sp) (hr : RoomG k X.A) (hg : Gl X x) (hm : X.mg x = some (.ref f)) (hk : PySem.W.keepIn X.K (.ref f) = true) (hb : Binds X.K fd ps ds) (hd : Vals dvs ds) (hx : Passes CX X E) (ha : PA X (e :: es) t)
    (hdb : (x == ("__debug__" : Str)) = false) (he : starEach (e :: es) X.env = (false, eval e X.env) :: starEach es X.env) (hpl : (backTo pos (starEach es X.env)).any (·.1) = false) : PE X (.Call (.Name x p) (e :: es) [] pos) (tCall sp dvs E t) := by
  constructor
  intro pins s σ H Q I h
  apply wpAny_Call_Name_kw
  apply ld_glob I hg hm ?_ hdb
  apply PySem.W.callWith_K (h₀ := X.base) I.ok.mod.kin hk ?_ he hpl
  apply thn (ha.run pos pins s σ H _ I h)
  rintro us s1 ⟨vs, H1, I1, r, q⟩
  have rr : Vals (vs ++ dvs) (us ++ ds) := r.append hd
  have ln : (us ++ ds).length = ps.length := rr.length.symm.trans (F.len _ _ _ _ q)
  refine ⟨I1.kIn, wpAny_call (codeAny_mono (F.go X.A X.stack s1 H1 ⟨us, []⟩ _ _ Q E hr I1.env0 (hb s1 us I1.kIn ln) rr q) fun r s' z => ?_)⟩
  have w := ends_of hx I1 z
  cases r with
  | error _ => exact w
  | ok fl => cases fl <;> exact w
/-- by place and by name -/
theorem run_namesG {pins : List (Addr × Obj)} {σ : L2.St} {H : Hp} {s : Shared} {Q : VK} {us ws : List Value} {vs zs : List V} {g : List Value → List Value → List Value} {gV : List V → List V → List V} (F : FnG X.prog X.w X.K X.mg X.base CX k f fd ps sp) (hr : RoomG k X.A) (hb : KBn X.K fd ps n ks g gV) (hx : Passes CX X E)
    (I : L2.Inv X pins σ H s) (r : Vals vs us) (rz : Vals zs ws) (l1 : vs.length = n) (l2 : zs.length = ks.length) (h : sp (gV vs zs) H Q E) : wpAny (model X.prog X.w) X.A (call (.ref f) us (ks.zip ws)) (EP X pins σ Q) X.xe s := by
  apply wpAny_call
  apply codeAny_mono (F.go X.A X.stack s H ⟨us, ks.zip ws⟩ _ _ Q E hr I.env0 (hb.to s us ws I.kIn (r.length.symm.trans l1) (rz.length.symm.trans l2)) (hb.rel r rz) h)
  intro r s' z
  have w := ends_of hx I z
  cases r with
  | error _ => exact w
  | ok fl => cases fl <;> exact w
theorem pe_callN0G {kws : List Keyword} {g : List Value → List Value → List Value} {gV : List V → List V → List V} (F : FnG X.prog X.w X.K X.mg X.base CX k f fd ps sp) (hr : RoomG k X.A) (hg : Gl X x) (hm : X.mg x = some (.ref f)) (hk : PySem.W.keepIn X.K (.ref f) = true) (hb : KBn X.K fd ps 0 ks g gV) (hx : Passes CX X E)
    (hkw : PK X kws tk) (hall : (backToKw pos (keywordEach kws X.env)).all (·.1.isSome) = true) (hks : (backToKw pos (keywordEach kws X.env)).filterMap (·.1) = ks) (hdb : (x == ("__debug__" : Str)) = false)
    (hpl : ((backTo pos (starEach [] X.env)).any (·.1) || (backToKw pos (keywordEach kws X.env)).any (·.1.isNone)) = false) : PE X (.Call (.Name x p) [] kws pos) (tCallN 0 ks.length sp gV E tNil tk) := by
  constructor
  intro pins s σ H Q I h
  apply wpAny_Call_Name_kw
  apply ld_glob I hg hm ?_ hdb
  apply PySem.W.callWith_KW0 (h₀ := X.base) I.ok.mod.kin hk hall ?_ hpl
  apply thn (hkw.run pos pins s σ H _ I h)
  rintro ws s2 ⟨zs, H2, I2, rz, l1, l2, q2⟩
  rw [hks]
  exact ⟨I2.kIn, run_namesG (us := []) F hr hb hx I2 .nil rz l1 l2 q2⟩
end
section
variable {P : Program} {w : World} {K : PySem.W.Frag} {mg : Str → Option Value} {base : Heap} {x qual : Str} {st : Stmt} {f : Addr} {fd : FuncData} {N ps : List Str} {k : Nat} {sp : Sp}
/-- a def keeps its promise, from its body -/
theorem Fun.okG (F : Fun K x qual st f fd) (S : FnScope N ps (defScope st)) (len : ∀ vs H Q E, sp vs H Q E → vs.length = ps.length)
    (body : ∀ (cdv : Value) (A : Around) (outer : List Env) (s : Shared) (H : Hp) (vs : List V) (Q : VK) (E : XK), RoomG k (A.deeper (envOfC qual (defScope st) s.heap.objs.size f cdv)) → sp vs H Q E →
      ∃ t, PSs (cxOf CX0 P w K mg base N qual (defScope st) f cdv A outer s H E).nox (defBody st) t ∧ t { nx := fun _ H' => Q .non H', rt := Q } (L2.start N vs) H) : FnG P w K mg base CX0 (k + 1) f fd ps sp := by
  obtain ⟨oc, od, kV, doc, pm, an, cdv, ct, osl, rfl, lk, hcd⟩ := F.ex
  refine ⟨len, ?_⟩
  intro A outer s H args us vs Q E hr e0 bnd r hsp
  have inS : ∀ b o, base.get? b = some o → s.heap.get? b = some o := fun b o e => (e0.bs b o e).1
  have KX : K.In s.heap := e0.mod.kin.keeps inS
  apply codeAny_call_function hr.toRoom.depth (KX _ _ lk) rfl S.co S.gen rfl (PySem.W.codeRec_of KX hcd)
  apply bnd
  apply wpAny_newFunctionEnv_cells S.kind
  · rintro ⟨y, v⟩ hy
    exact (S.par y (List.of_mem_zip hy).1).imp id fun q => ⟨q, PySem.W.cellsFrom_some _ _ _ (.inl q)⟩
  · intro env he s1 xx
    subst he
    obtain ⟨t, pt, q⟩ := body cdv A outer s H vs Q E (hr.deeperG _) hsp
    have I : L2.Inv (cxOf CX0 P w K mg base N qual (defScope st) f cdv A outer s H E) [] (L2.start N vs) H s1 := inv_start S hr.toRoom.hd e0 (len _ _ _ _ hsp) r xx
    refine ⟨(e0.mod.nolimit.keeps inS).keeps xx.toInCall.keep, codeAny_func (wpAny_mono (pt.nox.run [] s1 _ H _ I q) (fun fl s' z => ?_) fun _ _ z => z)⟩
    cases fl with
    | ret u =>
      obtain ⟨v, σ', H', J, rv, q'⟩ := z
      exact ⟨v, H', J.os, J.bare, J.base, J.hok, rv, q'⟩
    | next =>
      obtain ⟨σ', H', J, q'⟩ := z
      exact ⟨.non, H', J.os, J.bare, J.base, J.hok, rfl, q'⟩
    | brk => exact z.elim fun _ z => z.elim fun _ z => z.2.elim
    | cont => exact z.elim fun _ z => z.elim fun _ z => z.2.elim
end
end DL
namespace DL
open PySem PySem.Spec PyProof.Rows L2
theorem forIn_same {α : Type} {M : Model} {A : Around} {E : Value → Shared → Prop} {s : Shared} {f : α → PUnit → Sem (ForInStep PUnit)} : ∀ (its : List α) {Q : PUnit → Shared → Prop}, (∀ c ∈ its, ∀ Q' : ForInStep PUnit → Shared → Prop, Q' (.yield PUnit.unit) s → wpAny M A (f c PUnit.unit) Q' E s) → Q PUnit.unit s → wpAny M A (forIn its PUnit.unit f) Q E s
  | [], Q, _, q => by
    rw [List.forIn_nil]
    exact wpAny_pure q
  | c :: its, Q, h, q => by
    rw [List.forIn_cons]
    refine wpAny_bind (h c (List.mem_cons_self ..) _ ?_)
    exact forIn_same its (fun d hd => h d (List.mem_cons_of_mem _ hd)) q
theorem forIn_first {α : Type} {M : Model} {A : Around} {E : Value → Shared → Prop} {s : Shared} {f : α → Option Bool × Unit → Sem (ForInStep (Option Bool × Unit))} : ∀ (its : List α) (bs : List Bool) {Q : Option Bool × Unit → Shared → Prop}, Paired (fun c b => ∀ Q' : ForInStep (Option Bool × Unit) → Shared → Prop, Q' (if b = true then .done (some true, ()) else .yield (none, ())) s → wpAny M A (f c (none, ())) Q' E s) its bs → Q (if bs.any id = true then (some true, ()) else (none, ())) s → wpAny M A (forIn its (none, ()) f) Q E s
  | [], [], Q, _, q => by
    rw [List.forIn_nil]
    exact wpAny_pure q
  | c :: its, b :: bs, Q, .cons h hs, q => by
    rw [List.forIn_cons]
    refine wpAny_bind (h _ ?_)
    cases b with
    | true => exact wpAny_pure q
    | false => exact forIn_first its bs hs q
theorem paired_left {α β : Type} {R : α → β → Prop} {c : α} : ∀ {xs : List α} {ys : List β}, Paired R xs ys → c ∈ xs → ∃ b, R c b
  | _, _, .nil, h => by cases h
  | _, _, .cons h hs, m => by
    rcases List.mem_cons.mp m with rfl | z
    · exact ⟨_, h⟩
    · exact paired_left hs z
theorem exm_tup {M : Model} {K : PySem.W.Frag} {cls : Value} {e p : Addr} {its : List Value} {bs : List Bool} {A : Around} {E : Value → Shared → Prop} {s : Shared} {Q : Bool → Shared → Prop} (X : K.In s.heap) (LT : PySem.W.Looks M s.heap (typeOf (.ref e)) cls) (hp : IsTup s.heap p its.toArray) (hx : Paired (fun c b => PySem.W.exmOne K cls c = some b) its bs) (q : Q (bs.any id) s) : wpAny M A (excMatches (.ref e) (.ref p)) Q E s := by
  obtain ⟨o, ho, hc, n, hd⟩ := hp
  unfold excMatches
  refine wpAny_bind (wpAny_isInstance (T := "tuple") (b := true) ⟨o, ho, hc⟩ F.sub_tuple_tuple ?_)
  rw [if_pos rfl]
  refine wpAny_bind (wpAny_seqItems ho hd ?_)
  refine wpAny_bind (wpAny_pure ?_)
  refine wpAny_bind (forIn_same _ (fun c hc Q' q' => ?_) ?_)
  · have hm : c ∈ its := by simpa using hc
    obtain ⟨b, hb⟩ := paired_left hx hm
    refine wpAny_bind (PySem.W.Looks.here (PySem.W.exm_cls X hb).1 ?_)
    rw [if_neg (by decide)]
    exact wpAny_pure q'
  · refine wpAny_bind (PySem.W.Looks.here LT ?_)
    refine wpAny_bind (forIn_first _ bs (by
      have : ((some its.toArray : Option (Array Value)).getD #[]).toList = its := by simp
      rw [this]
      refine Paired.mapP hx fun c b h => ?_
      intro Q' q'
      refine wpAny_bind (PySem.W.Looks.here (PySem.W.exm_cls X h).2 ?_)
      cases b with
      | true =>
        rw [if_pos rfl] at q' ⊢
        exact wpAny_pure q'
      | false =>
        rw [if_neg (by decide)] at q' ⊢
        exact wpAny_pure q') ?_)
    cases hz : bs.any id with
    | true =>
      rw [hz] at q
      rw [if_pos rfl]
      exact wpAny_pure q
    | false =>
      rw [hz] at q
      rw [if_neg (by decide)]
      exact wpAny_pure q
theorem objOk_grow {P : Program} {w : World} {H H' : Hp} {h : Heap} (e : ∀ b u, H b = some u → H' b = some u) : ∀ {o : HO} {a : Addr}, ObjOk P w H h a o → ObjOk P w H' h a o
  | .lst _, _, k => k
  | .tup _, _, k => k
  | .dK _, _, k => k
  | .dT kvs, a, k => by
    obtain ⟨h1, h2, xs, h3, h4⟩ := k
    exact ⟨h1, h2, xs, Paired.mapP h3 fun p q z => ⟨z.1, e _ _ z.2.1, z.2.2⟩, h4⟩
  | .set _ _, _, k => k
  | .ins C dx fs, a, k => by
    obtain ⟨h1, h2⟩ := k
    exact ⟨e _ _ h1, h2⟩
  | .own _, _, k => k
  | .xd _, _, k => k
  | .met _ _, _, k => k
  | .rng _ _, _, k => k
  | .frz o u, a, k => by
    obtain ⟨h1, h2⟩ := k
    exact ⟨h1, objOk_grow (o := u) e h2⟩
  | .tbl _, _, k => k
  | .ext _, _, k => k
theorem inv_learn {X : Cx} {pins : List (Addr × Obj)} {σ : L2.St} {H : Hp} {s : Shared} {a : Addr} {o : Obj} (I : L2.Inv X pins σ H s) (ha : s.heap.get? a = some o) (hH : H a = none) (new : ∀ u, X.s_0.heap.get? a = some u → False) (npin : ∀ p ∈ X.pn ++ pins, p.1 ≠ a) (nl : a ≠ X.env.locals) (nc : ∀ v, o.data ≠ .cell v) : L2.Inv X pins σ (upd H a (atO a o)) s := by
  have up : ∀ b u, H b = some u → upd H a (atO a o) b = some u := fun b u e => by
    rw [upd_ne (fun z => by rw [z, hH] at e; cases e)]; exact e
  refine ⟨I.ok, I.os, I.bare, ⟨I.base.keep, I.base.slot, fun b u e h1 h2 => ?_, I.base.there, fun b xs e => up _ _ (I.base.tups b xs e), fun b u v e => up _ _ (I.base.frzs b u v e), fun b ps e => ?_⟩, I.loc, I.cell, ?_, fun x c e => ?_, fun p hp => ?_, fun b u e => ?_, I.len⟩
  · rw [upd_ne (fun z => new u (by rw [← z]; exact e))]
    exact I.base.free b u e h1 h2
  · obtain ⟨more, h⟩ := I.base.tbls b ps e
    exact ⟨more, up _ _ h⟩
  · rw [upd_ne (fun z => nl z.symm)]; exact I.free
  · have hc := I.freeC x c e
    rw [upd_ne (fun z => ?_)]
    · exact hc
    · obtain ⟨v, u, h1, h2⟩ := I.cell x c e
      rw [z, ha] at h1
      cases h1
      exact nc v h2
  · obtain ⟨h1, h2, h3⟩ := I.pin p hp
    exact ⟨h1, by rw [upd_ne (npin p hp)]; exact h2, h3⟩
  · by_cases q : b = a
    · subst q
      rw [upd_same] at e
      cases e
      exact ⟨ha, ⟨o, ha⟩, fun h1 h2 h3 h4 => h4 o h3⟩
    · rw [upd_ne q] at e
      exact objOk_grow up (I.hok b u e)
theorem names_spliced {X : Cx} {pins : List (Addr × Obj)} {σ : L2.St} {H : Hp} {s : Shared} (I : L2.Inv X pins σ H s) (pos : Pos) {E : Value → Shared → Prop} : ∀ {es : List Expr} {cs : List Addr} {Q : List Value → Shared → Prop}, Paired (fun e c => ∃ x p, e = .Name x p ∧ Gl X x ∧ (x == ("__debug__" : Str)) = false ∧ X.mg x = some (.ref c)) es cs → (∀ e es', starEach (e :: es') X.env = (false, eval e X.env) :: starEach es' X.env ∨ ∀ x p, e ≠ .Name x p) → Q (cs.map Value.ref) s → wpAny (model X.prog X.w) X.A (spliced (backTo pos (starEach es X.env))) Q E s
  | [], [], Q, _, _, q => Calls.spliced_nil q
  | e :: es, c :: cs, Q, .cons h hs, st, q => by
    obtain ⟨x, p, rfl, hg, hd, hm⟩ := h
    rcases st (.Name x p) es with z | z
    · rw [z]
      refine Calls.spliced_cons (ld_glob I hg hm ?_ hd)
      exact names_spliced I pos hs st q
    · exact absurd rfl (z x p)
theorem paired_mapL {α β γ : Type} {R : γ → β → Prop} {g : α → γ} : ∀ {xs : List α} {ys : List β}, Paired (fun x y => R (g x) y) xs ys → Paired R (xs.map g) ys
  | _, _, .nil => .nil
  | _, _, .cons h hs => .cons h (paired_mapL hs)
theorem fun_keeps {h h' base : Heap} (k : ∀ b u, h.get? b = some u → h'.get? b = some u) : ∀ {l : List Env}, Heap.FunFrames h base l → Heap.FunFrames h' base l
  | [], _ => trivial
  | env :: rest, f => by
    obtain ⟨f1, ⟨L, o, e1, e2, e3, e4⟩, f3⟩ := f
    exact ⟨f1, ⟨L, o, e1, e2, k _ _ e3, e4⟩, fun_keeps k f3⟩
theorem fly_keeps {h h' base : Heap} {l : List Env} {e : Addr} {Z : Obj → Prop} (k : ∀ b u, h.get? b = some u → h'.get? b = some u) (f : HandSPX.FlyingZ base l e Z h) : HandSPX.FlyingZ base l e Z h' := by
  obtain ⟨f1, f2, f3, oe, vs, T, oT, ts, t1, t2, t3, t4, t5, t6, t7, t8, t9⟩ := f
  exact ⟨fun b o q => k _ _ (f1 b o q), f2, fun_keeps k f3, oe, vs, T, oT, ts, k _ _ t1, t2, t3, t4, t5, t6, k _ _ t7, t8, t9⟩
/-- the ends of the suite: what is caught is known for good from then on -/
def endsT (D : Ends) (i : Nat) (a : Addr) (oe : Obj) : Ends := { nx := fun σ' H' => H' a = none → D.nx (List.set σ' i none) (upd H' a (atO a oe)), rt := fun _ _ => False }
def wTry (K : PySem.W.Frag) (cs : List Addr) (i : Nat) (ts : Addr → Value → Option Addr → TS) (D : Ends) : WX := fun cls d σ H => ∃ bs : List Bool, Paired (fun c b => PySem.W.exmOne K cls (.ref c) = some b) cs bs ∧ bs.any id = true ∧
  ∀ (a : Addr) (oe : Obj), H a = none → Zc cls d oe → (∃ vs, oe.data = .fields vs) → ts a cls d (endsT D i a oe) (List.set σ i (some (.ref a))) H
theorem ps_tryT {X : Cx} {n : Str} {i k0 : Nat} {tys : List Expr} {cs : List Addr} {body suite : List Stmt} {b₀ : Stmt} {pt pos pos' : Pos} {tb : WX → TS} {ts : Addr → Value → Option Addr → TS} (hs : X.stack = X.env :: X.outer) (hf : X.env.frame = some X.env.locals) (hex : X.ex = []) (hN : X.N.Nodup) (hi : X.N[i]? = some n) (hln : X.env.kindOf n = some NameKind.local)
    (ht : Paired (fun e c => ∃ x p, e = Expr.Name x p ∧ Gl X x ∧ (x == ("__debug__" : Str)) = false ∧ X.mg x = some (.ref c)) tys cs) (hst : ∀ e es', starEach (e :: es') X.env = (false, eval e X.env) :: starEach es' X.env ∨ ∀ x p, e ≠ Expr.Name x p) (hl : tys.length ≤ 100)
    (hb : ∀ (W : WX) (pn : List (Addr × Obj)) (xe : Value → Shared → Prop), L2.Takes (X.tr pn xe) W → PassesOwn (model X.prog X.w) X.A X.env xe → PSs (X.tr pn xe) body (tb W))
    (hsu : ∀ (a : Addr) (oe : Obj) (cls : Value) (d : Option Addr) (pn : List (Addr × Obj)), Zc cls d oe → (∃ vs, oe.data = .fields vs) → PSs (X.suite a ((a, oe) :: pn)) (b₀ :: suite) (ts a cls d)) :
    PS X (.Try body [.ExceptHandler (some (.Tuple tys k0 pt)) (some n) (b₀ :: suite) pos'] [] [] pos) (fun D σ H => tb (wTry X.K cs i ts D) D σ H) := by
  refine ⟨fun pins s σ H D I h => ?_⟩
  have ok := I.ok
  have hfr : X.A.frames = some (X.env :: X.outer) := by rw [ok.frames, hs]
  refine wpAny_Try_except (wpAny_mono ((hb (wTry X.K cs i ts D) (X.pn ++ pins) _ ?_ PassesOwn.looking).run [] s σ H D (Inv.toTry I _) h) (fun f s1 hsp => ?_) fun e s1 he => he)
  · intro u s' xx
    obtain ⟨a, B, sI, pins', σ', H', cls, d, rfl, J', nb, up, sky, na, os, ag, bs, hbs, hany, hsuite⟩ := xx
    have J := Inv.ofTry J' ok
    have sky' : Sky B (X.env :: X.outer) a (Zc cls d) X.env.locals s'.heap := by rw [← hs]; exact sky
    refine Sky.land Zc.steady hfr hf sky' fun h3 fl3 up3 => ?_
    have J3 : L2.Inv X pins σ' H' { heap := h3, gens := s'.gens, drawn := s'.drawn, toks := s'.toks, os := s'.os } := Inv.landed J nb fl3.left (Heap.UpToSlots.trans up up3) os ag
    obtain ⟨oe3, vs3, he3, hz3, hd3⟩ := HandSPX.FlyingZ.there fl3
    have notFr : ∀ {h : Heap} {B : Heap} {o : Obj} {vs : Array Value}, Heap.FunFrames h B (X.env :: X.outer) → h.get? a = some o → o.data = .fields vs → a ∉ frs (X.env :: X.outer) := fun {h B o vs} ff e dd hm => by
      obtain ⟨_, o', e', hnf⟩ := Heap.FunFrames.mem ff hm
      rw [e] at e'
      cases e'
      exact hnf vs dd
    have nfr := notFr fl3.2.2.1 he3 hd3
    have nL : a ≠ X.env.locals := fun z => nfr (List.mem_filterMap.mpr ⟨X.env, List.mem_cons_self .., by rw [hf, z]⟩)
    have nF : a ∉ X.fs := fun hm => by
      obtain ⟨e, he, q⟩ := List.mem_filterMap.mp hm
      exact nfr (List.mem_filterMap.mpr ⟨e, List.mem_cons_of_mem _ he, q⟩)
    have S3 := Inv.suite J3 he3 hd3 na nL nF
    refine wpAny_handleBy_cons (codeAny_handlers_test ?_) (by intro z; cases z)
    refine wpAny_Tuple_spliced (names_spliced S3 pt ht hst ⟨?_, ?_⟩)
    · have := Paired.length ht
      have hz := sizeLine_eq
      rw [List.length_map]
      omega
    · have kp : ∀ b u, h3.get? b = some u → (h3.push { cls := Value.type "tuple", data := Data.seq (cs.map Value.ref).toArray }).get? b = some u := fun b u e => Heap.get?_push_of_some _ e
      have hp : IsTup (h3.push { cls := Value.type "tuple", data := Data.seq (cs.map Value.ref).toArray }) h3.objs.size (cs.map Value.ref).toArray := ⟨_, Heap.get?_push_size h3 rfl, rfl, 0, rfl⟩
      generalize h3.push { cls := Value.type "tuple", data := Data.seq (cs.map Value.ref).toArray } = h4 at kp hp
      have upp : h3.UpToSlots h4 := fun b o e _ => ⟨o.slots, kp _ _ e⟩
      refine exm_tup (K := X.K) (cls := cls) (bs := bs) (PySem.W.Frag.In.keeps (Inv.kIn J3) kp) (fun A Q E s k q => wpAny_typeOf_ref (k a oe3 (kp _ _ he3)) (by rw [hz3.1]; exact q)) hp (paired_mapL hbs) ?_
      rw [hany, if_pos rfl]
      refine codeAny_handlers_suite_as (HandSPX.lands_againZ (fly_keeps kp fl3) fun h5 fl5 up5 => ?_)
      have J5 : L2.Inv X pins σ' H' { heap := h5, gens := s'.gens, drawn := s'.drawn, toks := s'.toks, os := s'.os } := Inv.landed J nb fl5.left (Heap.UpToSlots.trans (Heap.UpToSlots.trans (Heap.UpToSlots.trans up up3) upp) up5) os ag
      obtain ⟨oe5, vs5, he5, hz5, hd5⟩ := HandSPX.FlyingZ.there fl5
      have S5 := Inv.suite J5 he5 hd5 na nL nF
      have nB : ∀ o, sI.heap.get? a = some o → False := fun o e => by
        have := nb a o e (by rw [hs]; exact nfr)
        rw [fl3.2.1] at this
        cases this
      refine store_ok (X := X.suite a ((a, oe5) :: (X.pn ++ pins))) (v := V.ref a) S5 hN hi (Or.inl hln) rfl (fun s6 S6 => ?_) (Or.inr hln)
      refine wpAny_mono ((hsu a oe5 cls d (X.pn ++ pins) hz5 ⟨vs5, hd5⟩).run [] s6 _ H' (endsT D i a oe5) S6 (hsuite a oe5 na hz5 ⟨vs5, hd5⟩)) (fun f s7 hsp => ?_) (fun e s z => z.elim)
      cases f with
      | next =>
        obtain ⟨σ6, H6, S7, q7⟩ := hsp
        have pn := S7.pin (a, oe5) (by simp)
        have J7 := Inv.unsuite S7 ok
        have L7 := inv_learn J7 pn.1 pn.2.1 (fun u e => by
          obtain ⟨o', e'⟩ := J.base.there a u e (by rw [hex]; simp)
          exact nB o' e') (fun p hp z => by
          have e := (J.pin p hp).1
          rw [z] at e
          exact nB _ e) nL (fun v z => by rw [hd5] at z; cases z)
        exact gone_ok L7 hN hi hln fun s8 J8 => ⟨_, _, J8, q7 pn.2.1⟩
      | brk =>
        obtain ⟨σ6, H6, S7, q7⟩ := hsp
        exact q7.elim
      | cont =>
        obtain ⟨σ6, H6, S7, q7⟩ := hsp
        exact q7.elim
      | ret u =>
        obtain ⟨v, σ6, H6, S7, r7, q7⟩ := hsp
        exact q7.elim
  · cases f with
    | next =>
      obtain ⟨σ', H', J', q⟩ := hsp
      exact wpAny_execs_nil ⟨σ', H', Inv.ofTry J' ok, q⟩
    | brk =>
      obtain ⟨σ', H', J', q⟩ := hsp
      exact ⟨σ', H', Inv.ofTry J' ok, q⟩
    | cont =>
      obtain ⟨σ', H', J', q⟩ := hsp
      exact ⟨σ', H', Inv.ofTry J' ok, q⟩
    | ret u =>
      obtain ⟨v, σ', H', J', r, q⟩ := hsp
      exact ⟨v, σ', H', Inv.ofTry J' ok, r, q⟩
end DL
namespace DL
open PySem PySem.Spec PyProof.Rows L2
/-- what the cells hold, all of them known for good -/
def zsC (κ : Kap) : List Nat → Option (List PyData)
  | [] => some []
  | k :: ks => match κ[k]?, zsC κ ks with
    | some (.z x), some xs => some (x :: xs)
    | _, _ => none
def dat (κ : Kap) : R → Option (PyData × Kap)
  | .d x => some (x, κ)
  | .f xs => some (.list xs, κ)
  | .c k => match κ[k]? with
    | some (.l xs) => some (.list xs, κ.set k (.z (.list xs)))
    | some (.z x) => some (x, κ)
    | some (.m _) => none
    | some (.k _) => none
    | some (.x _) => none
    | some (.n _ _) => none
    | some (.e ks) => match zsC κ ks with
      | some xs => some (.list xs, κ.set k (.z (.list xs)))
      | none => none
    | none => none
  | .s _ => none
  | .b _ => none
  | .p _ => none
  | .h _ => none
  | .g _ => none
  | .q _ => none
  | .o _ => none
  | .t _ _ => none
  | .xe _ _ => none
def dats (κ : Kap) : List R → Option (List PyData × Kap)
  | [] => some ([], κ)
  | r :: rs => match dat κ r with
    | some (x, κ1) => match dats κ1 rs with
      | some (xs, κ2) => some (x :: xs, κ2)
      | none => none
    | none => none
/-- what a thing is as a dict that is known for good -/
def kd (κ : Kap) : R → Option (List (Key × PyData))
  | .h es => some es
  | .c k => match κ[k]? with
    | some (.k es) => some es
    | _ => none
  | _ => none
/-- what a def is handed: plain data, or the script, or a dict that is known for good -/
def arg (κ : Kap) : R → Option (R × Kap)
  | .s ns => some (.s ns, κ)
  | .h es => some (.h es, κ)
  | .o u => some (.o u, κ)
  | r => match dat κ r with
    | some (x, κ1) => some (.d x, κ1)
    | none => match kd κ r with
      | some es => some (.h es, κ)
      | none => none
def args (κ : Kap) : List R → Option (List R × Kap)
  | [] => some ([], κ)
  | r :: rs => match arg κ r with
    | some (x, κ1) => match args κ1 rs with
      | some (xs, κ2) => some (x :: xs, κ2)
      | none => none
    | none => none
section
variable {K : PySem.W.Frag} {G H G' H' G1 H1 H0 : Hp} {As As' As1 : List Addr} {σ : L2.St} {ρ : Rho} {κ κ' : Kap} {v : V} {r : R}
theorem zsC_ok (c : Cells K G H As κ) : ∀ {ks : List Nat} {xs : List PyData} {vs : List V}, zsC κ ks = some xs → vs.length = ks.length → (∀ (i k : Nat), ks[i]? = some k → ∃ c, As[k]? = some c ∧ vs[i]? = some (V.ref c)) → RpA K G vs xs
  | [], xs, vs, e, hl, h => by
    cases e
    have : vs = [] := List.length_eq_zero_iff.mp hl
    rw [this]
    exact .nil
  | k :: ks, xs, [], e, hl, h => by simp at hl
  | k :: ks, xs, v :: vs, e, hl, h => by
    unfold zsC at e
    split at e
    · rename_i x ys e1 e2
      cases e
      obtain ⟨a, h1, h2⟩ := h 0 k rfl
      have ev : v = .ref a := by simpa using h2
      rw [ev]
      exact .cons (c.ok k _ a e1 h1) (zsC_ok c e2 (by simpa using hl) fun i j hj => by simpa using h (i + 1) j (by simpa using hj))
    · cases e
theorem freezeE {ks : List Nat} {xs : List PyData} {k : Nat} {a : Addr} (c : Cells K G H As κ) (h1 : As[k]? = some a) (hk : κ[k]? = some (.e ks)) (hx : zsC κ ks = some xs) : ∃ G', Step G H As G' H As ∧ Cells K G' H As (κ.set k (.z (.list xs))) ∧ Rp K G' (.ref a) (.list xs) := by
  obtain ⟨g0, vs, hq, hl⟩ := c.ok k _ a hk h1
  have rp : RpA K G vs xs := zsC_ok c hx hl.1 hl.2
  have eG : Ex G (upd G a (.lst vs)) := Ex.new g0
  have hm : a ∈ As := List.mem_of_getElem? h1
  refine ⟨upd G a (.lst vs), ⟨eG, ⟨[], by simp⟩, fun _ h => .inl h, fun _ _ _ _ h => h, fun _ h => h, fun b hb => ?_⟩, ⟨c.ext.learn hq, by rw [List.length_set]; exact c.len, c.nd, c.al, fun j x b e1 e2 => ?_, c.tab.learn hq (wo_lst vs).1⟩, .lst upd_same (RpA.mono eG _ _ rp)⟩
  · by_cases e : b = a
    · subst e; exact .inr (.inr (.inl hm))
    · exact .inl (by rw [upd_ne e]; exact hb)
  · by_cases hj : j = k
    · subst hj
      rw [h1] at e2; cases e2
      rw [List.getElem?_set_self (List.getElem?_eq_some_iff.mp hk).1] at e1
      cases e1
      exact Rp.lst upd_same (RpA.mono eG _ _ rp)
    · rw [List.getElem?_set_ne (fun z => hj z.symm)] at e1
      have w := c.ok j x b e1 e2
      have ne : b ≠ a := fun z => hj (by
        subst z
        obtain ⟨l1, q1⟩ := List.getElem?_eq_some_iff.mp e2
        obtain ⟨l2, q2⟩ := List.getElem?_eq_some_iff.mp h1
        exact (List.getElem_inj c.nd).mp (q1.trans q2.symm))
      cases x with
      | l ds' =>
        obtain ⟨w1, ws, w2, w3⟩ := w
        exact ⟨by rw [upd_ne ne]; exact w1, ws, w2, RpA.mono eG _ _ w3⟩
      | m es =>
        obtain ⟨w1, ws, w2, w3⟩ := w
        exact ⟨by rw [upd_ne ne]; exact w1, ws, w2, w3.mono eG ⟨[], by simp⟩⟩
      | z x => exact Rp.mono eG _ _ w
      | k es => exact ItH.mono eG w
      | n nw es =>
        obtain ⟨w1, ws, w2, w3⟩ := w
        exact ⟨by rw [upd_ne ne]; exact w1, ws, w2, w3.mono eG ⟨[], by simp⟩⟩
      | e ks =>
        obtain ⟨w1, ws, w2, w3⟩ := w
        exact ⟨by rw [upd_ne ne]; exact w1, ws, w2, w3.mono eG ⟨[], by simp⟩⟩
      | x u => exact ⟨by rw [upd_ne ne]; exact w.1, w.2⟩
theorem dat_ok {x : PyData} (c : Cells K G H As κ) (h : It K G As v r) (e : dat κ r = some (x, κ')) : ∃ G', Step G H As G' H As ∧ Cells K G' H As κ' ∧ Rp K G' v x := by
  cases r with
  | d y =>
    cases e
    exact ⟨G, Step.refl, c, h⟩
  | f xs => exact h.elim
  | s ns => cases e
  | b ks => cases e
  | p ks => cases e
  | h ks => cases e
  | g ks => cases e
  | q ks => cases e
  | o u => cases e
  | t y j => cases e
  | xe cn fs => cases e
  | c k =>
    unfold dat at e
    simp only at e
    cases q : κ[k]? with
    | none => rw [q] at e; cases e
    | some cc =>
      rw [q] at e
      cases cc with
      | l ds =>
        cases e
        exact freeze c h q
      | m es => cases e
      | k es => cases e
      | n nw es => cases e
      | e ks =>
        simp only at e
        cases z : zsC κ ks with
        | none => rw [z] at e; cases e
        | some ys =>
          rw [z] at e
          cases e
          obtain ⟨a, h1, rfl⟩ := h
          exact freezeE c h1 q z
      | x u => cases e
      | z y =>
        cases e
        obtain ⟨a, h1, rfl⟩ := h
        exact ⟨G, Step.refl, c, c.ok k _ a q h1⟩
theorem dats_ok : ∀ {rs : List R} {vs : List V} {G : Hp} {κ : Kap} {xs : List PyData}, Cells K G H As κ → Paired (It K G As) vs rs → dats κ rs = some (xs, κ') → ∃ G', Step G H As G' H As ∧ Cells K G' H As κ' ∧ RpA K G' vs xs
  | [], _, G, κ, xs, c, h, e => by
    cases h
    cases e
    exact ⟨G, Step.refl, c, .nil⟩
  | r :: rs, _, G, κ, xs, c, h, e => by
    cases h with
    | cons h1 h2 =>
      unfold dats at e
      cases q : dat κ r with
      | none => rw [q] at e; cases e
      | some p =>
        obtain ⟨x, κ1⟩ := p
        rw [q] at e
        simp only at e
        cases q2 : dats κ1 rs with
        | none => rw [q2] at e; cases e
        | some p2 =>
          obtain ⟨ys, κ2⟩ := p2
          rw [q2] at e
          cases e
          obtain ⟨G1, s1, c1, r1⟩ := dat_ok c h1 q
          obtain ⟨G2, s2, c2, r2⟩ := dats_ok c1 (Paired.mapP h2 fun _ _ z => s1.it z) q2
          exact ⟨G2, s1.trans s2, c2, .cons (Rp.mono s2.ex _ _ r1) r2⟩
theorem kd_ok {es : List (Key × PyData)} (c : Cells K G H As κ) (h : It K G As v r) (e : kd κ r = some es) : ItH K G v es := by
  cases r with
  | h xs => cases e; exact h
  | g y => cases e
  | q y => cases e
  | c k =>
    obtain ⟨a, h1, rfl⟩ := h
    unfold kd at e
    simp only at e
    split at e
    · rename_i xs q
      cases e
      exact c.ok k _ a q h1
    · cases e
  | d y => cases e
  | f xs => cases e
  | s ns => cases e
  | b ks => cases e
  | p ks => cases e
  | o u => cases e
  | t y j => cases e
  | xe cn fs => cases e
theorem arg_ok {x : R} (c : Cells K G H As κ) (h : It K G As v r) (e : arg κ r = some (x, κ')) : ∃ G', Step G H As G' H As ∧ Cells K G' H As κ' ∧ It K G' [] v x := by
  cases r with
  | s ns =>
    cases e
    exact ⟨G, Step.refl, c, h⟩
  | f xs => exact h.elim
  | d y =>
    cases e
    exact ⟨G, Step.refl, c, h⟩
  | b ks => cases e
  | p ks => cases e
  | h ks =>
    cases e
    exact ⟨G, Step.refl, c, h⟩
  | g ks => exact nomatch (show (none : Option (R × Kap)) = some (x, κ') from e)
  | q ks => exact nomatch (show (none : Option (R × Kap)) = some (x, κ') from e)
  | o u =>
    cases e
    exact ⟨G, Step.refl, c, h⟩
  | t y j => exact nomatch (show (none : Option (R × Kap)) = some (x, κ') from e)
  | xe cn fs => exact nomatch (show (none : Option (R × Kap)) = some (x, κ') from e)
  | c k =>
    unfold arg at e
    cases q : dat κ (.c k) with
    | none =>
      simp only [q] at e
      cases q2 : kd κ (.c k) with
      | none => simp only [q2] at e; cases e
      | some es =>
        simp only [q2] at e
        cases e
        exact ⟨G, Step.refl, c, kd_ok c h q2⟩
    | some p =>
      obtain ⟨y, κ1⟩ := p
      simp only [q] at e
      cases e
      exact dat_ok c h q
theorem It.none (e : Ex G G') (h : It K G [] v r) : It K G' [] v r := h.mono e ⟨[], rfl⟩
theorem args_ok : ∀ {rs : List R} {vs : List V} {G : Hp} {κ : Kap} {xs : List R}, Cells K G H As κ → Paired (It K G As) vs rs → args κ rs = some (xs, κ') → ∃ G', Step G H As G' H As ∧ Cells K G' H As κ' ∧ Paired (It K G' []) vs xs
  | [], _, G, κ, xs, c, h, e => by
    cases h
    cases e
    exact ⟨G, Step.refl, c, .nil⟩
  | r :: rs, _, G, κ, xs, c, h, e => by
    cases h with
    | cons h1 h2 =>
      unfold args at e
      cases q : arg κ r with
      | none => rw [q] at e; cases e
      | some p =>
        obtain ⟨x, κ1⟩ := p
        rw [q] at e
        simp only at e
        cases q2 : args κ1 rs with
        | none => rw [q2] at e; cases e
        | some p2 =>
          obtain ⟨ys, κ2⟩ := p2
          rw [q2] at e
          cases e
          obtain ⟨G1, s1, c1, r1⟩ := arg_ok c h1 q
          obtain ⟨G2, s2, c2, r2⟩ := args_ok c1 (Paired.mapP h2 fun _ _ z => s1.it z) q2
          exact ⟨G2, s1.trans s2, c2, .cons (r1.none s2.ex) r2⟩
theorem vals_ok : ∀ {rs : List R} {vs : List V} {xs : List PyData}, Cells K G H As κ → Paired (It K G As) vs rs → vals κ rs = some xs → Paired (Vw K G H) vs xs
  | [], _, xs, c, h, e => by
    cases h
    cases e
    exact .nil
  | r :: rs, _, xs, c, h, e => by
    cases h with
    | cons h1 h2 =>
      unfold vals at e
      cases q : val κ r with
      | none => rw [q] at e; cases e
      | some x =>
        rw [q] at e
        cases q2 : vals κ rs with
        | none => rw [q2] at e; cases e
        | some ys =>
          rw [q2] at e
          cases e
          exact .cons (h1.vw c q) (vals_ok c h2 q2)
end
def wNil : DTA := fun _ κ P => P [] κ
def wCons (wa : DTE) (wr : DTA) : DTA := fun ρ κ P => wa ρ κ fun r κ1 => wr ρ κ1 fun rs κ2 => P (r.st :: rs) κ2
section
variable {X : Cx} {e : Expr} {es : List Expr} {wa : DTE} {wr : DTA} {pos : Pos}
theorem da_nil : DA X [] wNil := ⟨_, pa_nil, fun G H As σ ρ κ P Q c p w k => k [] [] G H As κ Step.refl c p .nil rfl w⟩
theorem da_cons (ha : DE X e wa) (hr : DA X es wr) (hs : starEach (e :: es) X.env = (false, eval e X.env) :: starEach es X.env := by rfl) : DA X (e :: es) (wCons wa wr) := by
  obtain ⟨ta, pa, ha⟩ := ha
  obtain ⟨tr, pr, hr⟩ := hr
  refine ⟨_, pa_cons pa pr hs, fun G H As σ ρ κ P Q c p w k => ?_⟩
  refine ha G H As σ ρ κ _ _ c p w fun v1 r1 G1 H1 As1 κ1 s1 c1 p1 i1 w1 => ?_
  obtain ⟨G1', s1', c1', p1', i1', _⟩ := settle s1 c1 p1 i1
  refine hr G1' H1 As1 σ ρ κ1 _ _ c1' p1' w1 fun vs rs G2 H2 As2 κ2 s2 c2 p2 i2 l2 w2 => ?_
  exact k _ _ G2 H2 As2 κ2 (s1'.trans s2) c2 p2 (.cons (s2.it i1') i2) (congrArg (· + 1) l2) w2
def wTup (wa : DTA) : DTE := fun ρ κ P => wa ρ κ fun rs κ1 => Opt (dats κ1 rs) fun q => q.1.length ≤ sizeLine ∧ P (.d (.tuple q.1)) q.2
def wLst (wa : DTA) : DTE := fun ρ κ P => wa ρ κ fun rs κ1 => Opt (dats κ1 rs) fun q => q.1.length ≤ sizeLine ∧ P (.f q.1) q.2
theorem de_tup {x1 : Nat} (h : DA X es wr) : DE X (.Tuple es x1 pos) (wTup wr) := by
  obtain ⟨t, pt, h⟩ := h
  refine ⟨_, pe_tup pt, fun G H As σ ρ κ P Q c p w k => ?_⟩
  refine h G H As σ ρ κ _ _ c p w fun vs rs G1 H1 As1 κ1 s1 c1 p1 i1 el w1 => ?_
  obtain ⟨⟨xs, κ2⟩, e, hl, w2⟩ := w1.ex
  obtain ⟨G2, s2, c2, rp⟩ := dats_ok c1 i1 e
  exact ⟨by rw [rp.len]; exact hl, fun q hq => (out_ok (P := P) (s1.trans s2) c2 (p1.step s2) (.t xs) w2 k).1 q _ hq rp⟩
theorem de_lst (h : DA X es wr) : DE X (.List es pos) (wLst wr) := by
  obtain ⟨t, pt, h⟩ := h
  refine ⟨_, pe_lst pt, fun G H As σ ρ κ P Q c p w k => ?_⟩
  refine h G H As σ ρ κ _ _ c p w fun vs rs G1 H1 As1 κ1 s1 c1 p1 i1 el w1 => ?_
  obtain ⟨⟨xs, κ2⟩, e, hl, w2⟩ := w1.ex
  obtain ⟨G2, s2, c2, rp⟩ := dats_ok c1 i1 e
  exact ⟨by rw [rp.len]; exact hl, fun q hq => out_ok (P := P) (s1.trans s2) c2 (p1.step s2) (.n xs) w2 k q _ hq rp⟩
theorem cb_reads {t : TA} {rc : List V → Hp → VK → Prop} {g : List PyData → Option Out} (hg : CallD X.K rc g)
    (h : ∀ (G H : Hp) (As : List Addr) (σ : L2.St) (ρ : Rho) (κ : Kap) (P : List R → Kap → Prop) (Q : List V → Hp → Prop), Cells X.K G H As κ → Places X.K G As σ ρ → wr ρ κ P → (∀ vs rs G' H' As' κ', Step G H As G' H' As' → Cells X.K G' H' As' κ' → Places X.K G' As' σ ρ → Paired (It X.K G' As') vs rs → rs.length = es.length → P rs κ' → Q vs H') → t σ H Q)
    (G H : Hp) (As : List Addr) (σ : L2.St) (ρ : Rho) (κ : Kap) (P : R → Kap → Prop) (Q : VK) (c : Cells X.K G H As κ) (p : Places X.K G As σ ρ) (w : wCB g wr ρ κ P)
    (k : ∀ v r G' H' As' κ', Step G H As G' H' As' → Cells X.K G' H' As' κ' → Places X.K G' As' σ ρ → Rv X.K H G' H' As' v r → P r κ' → Q v H') : tCB rc t σ H Q := by
  refine h G H As σ ρ κ _ _ c p w fun vs rs G1 H1 As1 κ1 s1 c1 p1 i1 el w1 => ?_
  obtain ⟨xs, e, w2⟩ := w1.ex
  obtain ⟨o, eo, w3⟩ := w2.ex
  exact hg G1 H1 vs xs o Q c1.ext (vals_ok c1 i1 e) eo (out_ok s1 c1 p1 o w3 k)
theorem de_callB {id : String} {x : Str} {p : Pos} {rc : List V → Hp → VK → Prop} {g : List PyData → Option Out} (hc : CallR X (.builtin id) rc) (hgd : CallD X.K rc g) (hm : X.mg x = none) (ha : DA X (e :: es) wr) (hg : Gl X x := by rfl) (hv : bootBuiltins x = some (.builtin id) := by decide +kernel) (hn : x ≠ "__name__" := by decide) (hdb : (x == ("__debug__" : Str)) = false := by decide)
    (he : starEach (e :: es) X.env = (false, eval e X.env) :: starEach es X.env := by rfl) (hpl : (backTo pos (starEach es X.env)).any (·.1) = false := by rfl) : DE X (.Call (.Name x p) (e :: es) [] pos) (wCB g wr) := by
  obtain ⟨t, pt, h⟩ := ha
  exact ⟨_, pe_callB hc hg hm hv pt hn hdb he hpl, cb_reads hgd h⟩
theorem de_callTy {T : String} {x : Str} {p : Pos} {rc : List V → Hp → VK → Prop} {g : List PyData → Option Out} (hc : CallR X (.type T) rc) (hgd : CallD X.K rc g) (hm : X.mg x = none) (ha : DA X (e :: es) wr) (hg : Gl X x := by rfl) (hv : bootBuiltins x = some (.type T) := by decide +kernel) (hn : x ≠ "__name__" := by decide) (hdb : (x == ("__debug__" : Str)) = false := by decide)
    (he : starEach (e :: es) X.env = (false, eval e X.env) :: starEach es X.env := by rfl) (hpl : (backTo pos (starEach es X.env)).any (·.1) = false := by rfl) : DE X (.Call (.Name x p) (e :: es) [] pos) (wCB g wr) := by
  obtain ⟨t, pt, h⟩ := ha
  exact ⟨_, pe_callTy hc hg hm hv pt hn hdb he hpl, cb_reads hgd h⟩
end
/-- what stands, the tables too -/
def ExT (K : PySem.W.Frag) (G H : Hp) : Prop := Ex G H ∧ Tb K G H
theorem Cells.xt {K : PySem.W.Frag} {G H : Hp} {As : List Addr} {κ : Kap} (c : Cells K G H As κ) : ExT K G H := ⟨c.ext, c.tab⟩
def spD (K : PySem.W.Frag) (n : Nat) (Φ : List R → (R → Prop) → Prop) : Sp := fun vs H Q _ => vs.length = n ∧ ∃ (G : Hp) (rs : List R) (P : R → Prop), ExT K G H ∧ Paired (It K G []) vs rs ∧ Φ rs P ∧
  ∀ v r G' H', P r → ExT K G' H' → Step G H [] G' H' [] → Rv K H G' H' [] v r → Q v H'
/-- the first argument is a list that may be changed -/
def spL (K : PySem.W.Frag) (n : Nat) (Φ : List PyData → List R → (R → List PyData → Prop) → Prop) : Sp := fun vs H Q _ => vs.length = n ∧ ∃ (G : Hp) (a : Addr) (ws : List V) (bs : List PyData) (rs : List R) (P : R → List PyData → Prop),
  vs = .ref a :: ws ∧ Cells K G H [a] [.l bs] ∧ Paired (It K G []) ws rs ∧ Φ bs rs P ∧
  ∀ v r bs' G' H', P r bs' → Cells K G' H' [a] [.l bs'] → Step G H [a] G' H' [a] → Rv K H G' H' [a] v r → Q v H'
def wCall (Φ : List R → (R → Prop) → Prop) (wa : DTA) : DTE := fun ρ κ P => wa ρ κ fun rs κ1 => Opt (args κ1 rs) fun q => Φ q.1 fun r => P r q.2
def lend (κ : Kap) : List R → Option (Nat × List PyData × List R × Kap)
  | .c k :: rs => match args κ rs with
    | some (xs, κ1) => match κ1[k]? with
      | some (.l bs) => some (k, bs, xs, κ1)
      | _ => none
    | none => none
  | _ => none
/-- the def's own cell is the caller's k-th -/
def R.lab (k : Nat) : R → R
  | .c _ => .c k
  | .b ks => .b (ks.map fun _ => k)
  | .p ks => .p (ks.map fun _ => k)
  | .t x _ => .t x k
  | r => r
def wCallL (Φ : List PyData → List R → (R → List PyData → Prop) → Prop) (wa : DTA) : DTE := fun ρ κ P => wa ρ κ fun rs κ1 => Opt (lend κ1 rs) fun q => Φ q.2.1 q.2.2.1 fun r bs => P (r.lab q.1) (q.2.2.2.set q.1 (.l bs))
section
variable {K : PySem.W.Frag} {G H G' H' G1 H1 H0 : Hp} {As As' As1 : List Addr} {σ : L2.St} {ρ : Rho} {κ κ' : Kap} {v : V} {r : R}
/-- behind a call that changes none of the cells -/
theorem Cells.call (c : Cells K G H As κ) (s : Step G H [] G' H' []) (e : ExT K G' H') : Cells K G' H' As κ where
  ext := e.1
  tab := e.2
  len := c.len
  nd := c.nd
  al := fun b h => by
    obtain ⟨o, q⟩ := c.al b h
    cases z : H' b with
    | none => rw [s.dom b z] at q; cases q
    | some u => exact ⟨u, rfl⟩
  ok := fun k x a e1 e2 => by
    have w := c.ok k x a e1 e2
    cases x with
    | l ds =>
      obtain ⟨w1, ws, w2, w3⟩ := w
      refine ⟨?_, ws, s.fr a _ (by simp) (wo_lst ws).1 w2, RpA.mono s.ex _ _ w3⟩
      rcases s.gn a w1 with z | z | z | ⟨ys, z⟩
      · exact z
      · rw [w2] at z; cases z
      · cases z
      · have q := s.fr a _ (by simp) (wo_lst ws).1 w2
        rw [z] at q
        cases q
    | m es =>
      obtain ⟨w1, ws, w2, w3⟩ := w
      refine ⟨?_, ws, s.fr a _ (by simp) (wo_dK ws).1 w2, w3.mono s.ex ⟨[], by simp⟩⟩
      rcases s.gn a w1 with z | z | z | ⟨ys, z⟩
      · exact z
      · rw [w2] at z; cases z
      · cases z
      · have q := s.fr a _ (by simp) (wo_dK ws).1 w2
        rw [z] at q
        cases q
    | z x => exact Rp.mono s.ex _ _ w
    | k es => exact ItH.mono s.ex w
    | n nw es =>
      obtain ⟨w1, ws, w2, w3⟩ := w
      refine ⟨?_, ws, s.fr a _ (by simp) wo_HN.1 w2, w3.mono s.ex ⟨[], by simp⟩⟩
      rcases s.gn a w1 with z | z | z | ⟨ys, z⟩
      · exact z
      · rw [w2] at z; cases z
      · cases z
      · have q := s.fr a _ (by simp) wo_HN.1 w2
        rw [z] at q
        cases q
    | e ks =>
      obtain ⟨w1, ws, w2, w3⟩ := w
      refine ⟨?_, ws, s.fr a _ (by simp) (wo_lst ws).1 w2, w3.mono s.ex ⟨[], by simp⟩⟩
      rcases s.gn a w1 with z | z | z | ⟨ys, z⟩
      · exact z
      · rw [w2] at z; cases z
      · cases z
      · have q := s.fr a _ (by simp) (wo_lst ws).1 w2
        rw [z] at q
        cases q
    | x u =>
      obtain ⟨w1, w2, w3⟩ := w
      refine ⟨?_, s.fr a _ (by simp) w3.1 w2, w3⟩
      rcases s.gn a w1 with z | z | z | ⟨ys, z⟩
      · exact z
      · rw [w2] at z; cases z
      · cases z
      · have q := s.fr a _ (by simp) w3.1 w2
        rw [z] at q
        exact (w3.2.2 ys (Option.some.inj q).symm).elim
theorem Step.wide (s : Step G H [] G' H' []) : Step G H As G' H' As :=
  ⟨s.ex, ⟨[], by simp⟩, fun _ h => .inl h, fun b o _ nt h => s.fr b o (by simp) nt h, s.dom, (fun b h => by
    rcases s.gn b h with z | z | z | z
    · exact .inl z
    · exact .inr (.inl z)
    · cases z
    · exact .inr (.inr (.inr z)))⟩
theorem Rv.wide (c : Cells K G H As κ) (h : Rv K H G' H' [] v r) : Rv K H G' H' As v r := by
  cases r with
  | f xs =>
    obtain ⟨p, vs, e, h0, g0, _, q⟩ := h
    exact ⟨p, vs, e, h0, g0, c.notin h0, q⟩
  | d x => exact h
  | h es => exact h
  | g es => exact h
  | q es => exact h
  | o u => exact h
  | xe cn fs => exact h
  | t y j =>
    obtain ⟨_, _, _, _, _, _, z⟩ := h
    simp at z
  | s ns => exact h
  | b ks =>
    obtain ⟨a, vs, h1, h2, h3, h4⟩ := h
    exact ⟨a, vs, h1, h2, h3, fun i k hk => by
      obtain ⟨c, z, _⟩ := h4 i k hk
      simp at z⟩
  | p ks =>
    obtain ⟨a, vs, h1, h2, h3, h4⟩ := h
    exact ⟨a, vs, h1, h2, h3, fun i k hk => by
      obtain ⟨c, z, _⟩ := h4 i k hk
      simp at z⟩
  | c k =>
    obtain ⟨a, z, _⟩ := h
    simp at z
/-- the cell that is lent -/
theorem Cells.one {k : Nat} {a : Addr} {ds : List PyData} (c : Cells K G H As κ) (hk : κ[k]? = some (.l ds)) (ha : As[k]? = some a) : Cells K G H [a] [.l ds] where
  ext := c.ext
  tab := c.tab
  len := rfl
  nd := by simp
  al := fun b h => by
    rw [List.mem_singleton] at h
    subst h
    exact c.al b (List.mem_of_getElem? ha)
  ok := fun j x b e1 e2 => by
    cases j with
    | zero =>
      cases e1
      cases e2
      exact c.ok k _ _ hk ha
    | succ j => simp at e1
theorem Cells.lent {k : Nat} {a : Addr} {ds es : List PyData} (c : Cells K G H As κ) (hk : κ[k]? = some (.l ds)) (ha : As[k]? = some a) (s : Step G H [a] G' H' [a]) (c1 : Cells K G' H' [a] [.l es]) : Cells K G' H' As (κ.set k (.l es)) where
  ext := c1.ext
  tab := c1.tab
  len := by rw [List.length_set]; exact c.len
  nd := c.nd
  al := fun b h => by
    obtain ⟨o, q⟩ := c.al b h
    cases z : H' b with
    | none => rw [s.dom b z] at q; cases q
    | some u => exact ⟨u, rfl⟩
  ok := fun j x b e1 e2 => by
    by_cases hj : j = k
    · subst hj
      rw [ha] at e2; cases e2
      rw [List.getElem?_set_self (List.getElem?_eq_some_iff.mp hk).1] at e1
      cases e1
      exact c1.ok 0 _ _ rfl rfl
    · rw [List.getElem?_set_ne (fun z => hj z.symm)] at e1
      have w := c.ok j x b e1 e2
      have ne : b ≠ a := fun z => hj (by
        subst z
        obtain ⟨l1, q1⟩ := List.getElem?_eq_some_iff.mp e2
        obtain ⟨l2, q2⟩ := List.getElem?_eq_some_iff.mp ha
        exact (List.getElem_inj c.nd).mp (q1.trans q2.symm))
      have ni : b ∉ [a] := by rw [List.mem_singleton]; exact ne
      cases x with
      | l ds' =>
        obtain ⟨w1, ws, w2, w3⟩ := w
        refine ⟨?_, ws, s.fr b _ ni (wo_lst ws).1 w2, RpA.mono s.ex _ _ w3⟩
        rcases s.gn b w1 with z | z | z | ⟨ys, z⟩
        · exact z
        · rw [w2] at z; cases z
        · exact absurd z ni
        · have q := s.fr b _ ni (wo_lst ws).1 w2
          rw [z] at q
          cases q
      | m es' =>
        obtain ⟨w1, ws, w2, w3⟩ := w
        refine ⟨?_, ws, s.fr b _ ni (wo_dK ws).1 w2, w3.mono s.ex ⟨[], by simp⟩⟩
        rcases s.gn b w1 with z | z | z | ⟨ys, z⟩
        · exact z
        · rw [w2] at z; cases z
        · exact absurd z ni
        · have q := s.fr b _ ni (wo_dK ws).1 w2
          rw [z] at q
          cases q
      | z x => exact Rp.mono s.ex _ _ w
      | k es => exact ItH.mono s.ex w
      | n nw es' =>
        obtain ⟨w1, ws, w2, w3⟩ := w
        refine ⟨?_, ws, s.fr b _ ni wo_HN.1 w2, w3.mono s.ex ⟨[], by simp⟩⟩
        rcases s.gn b w1 with z | z | z | ⟨ys, z⟩
        · exact z
        · rw [w2] at z; cases z
        · exact absurd z ni
        · have q := s.fr b _ ni wo_HN.1 w2
          rw [z] at q
          cases q
      | e ks =>
        obtain ⟨w1, ws, w2, w3⟩ := w
        refine ⟨?_, ws, s.fr b _ ni (wo_lst ws).1 w2, w3.mono s.ex ⟨[], by simp⟩⟩
        rcases s.gn b w1 with z | z | z | ⟨ys, z⟩
        · exact z
        · rw [w2] at z; cases z
        · exact absurd z ni
        · have q := s.fr b _ ni (wo_lst ws).1 w2
          rw [z] at q
          cases q
      | x u =>
        obtain ⟨w1, w2, w3⟩ := w
        refine ⟨?_, s.fr b _ ni w3.1 w2, w3⟩
        rcases s.gn b w1 with z | z | z | ⟨ys, z⟩
        · exact z
        · rw [w2] at z; cases z
        · exact absurd z ni
        · have q := s.fr b _ ni w3.1 w2
          rw [z] at q
          exact (w3.2.2 ys (Option.some.inj q).symm).elim
theorem Step.lent {a : Addr} (hm : a ∈ As) (s : Step G H [a] G' H' [a]) : Step G H As G' H' As :=
  ⟨s.ex, ⟨[], by simp⟩, fun _ h => .inl h, fun b o hb nt h => s.fr b o (fun z => hb (by rw [List.mem_singleton] at z; rw [z]; exact hm)) nt h, s.dom, (fun b h => by
    rcases s.gn b h with z | z | z | z
    · exact .inl z
    · exact .inr (.inl z)
    · exact .inr (.inr (.inl (by rw [List.mem_singleton] at z; rw [z]; exact hm)))
    · exact .inr (.inr (.inr z)))⟩
theorem Rv.lent {k : Nat} {a : Addr} (c : Cells K G H As κ) (ha : As[k]? = some a) (h : Rv K H G' H' [a] v r) : Rv K H G' H' As v (r.lab k) := by
  cases r with
  | f xs =>
    obtain ⟨p, vs, e, h0, g0, _, q⟩ := h
    exact ⟨p, vs, e, h0, g0, c.notin h0, q⟩
  | d x => exact h
  | h es => exact h
  | g es => exact h
  | q es => exact h
  | o u => exact h
  | xe cn fs => exact h
  | t y j =>
    obtain ⟨q, w, c1, h1, h2, h3, h4⟩ := h
    cases j with
    | zero =>
      cases h4
      exact ⟨q, w, _, h1, h2, h3, ha⟩
    | succ j => simp at h4
  | s ns => exact h
  | b ks =>
    obtain ⟨p, vs, h1, h2, h3, h4⟩ := h
    refine ⟨p, vs, h1, h2, by rw [h3, List.length_map], fun i j hk => ?_⟩
    rw [List.getElem?_map] at hk
    cases q : ks[i]? with
    | none => rw [q] at hk; cases hk
    | some j' =>
      rw [q] at hk
      cases hk
      obtain ⟨b, e1, e2⟩ := h4 i j' q
      cases j' with
      | zero => cases e1; exact ⟨a, ha, e2⟩
      | succ j' => simp at e1
  | p ks =>
    obtain ⟨p, vs, h1, h2, h3, h4⟩ := h
    refine ⟨p, vs, h1, h2, by rw [h3, List.length_map], fun i j hk => ?_⟩
    rw [List.getElem?_map] at hk
    cases q : ks[i]? with
    | none => rw [q] at hk; cases hk
    | some j' =>
      rw [q] at hk
      cases hk
      obtain ⟨b, e1, e2⟩ := h4 i j' q
      cases j' with
      | zero => cases e1; exact ⟨a, ha, e2⟩
      | succ j' => simp at e1
  | c j =>
    obtain ⟨b, e1, e2⟩ := h
    cases j with
    | zero => cases e1; exact ⟨a, ha, e2⟩
    | succ j => simp at e1
end
section
variable {X : Cx} {CX : CXT} {k : Nat} {f : Addr} {fd : FuncData} {ps : List Str} {n : Nat} {E : XK} {x : Str} {p pos : Pos} {e : Expr} {es : List Expr} {wr : DTA}
theorem de_call {Φ : List R → (R → Prop) → Prop} (F : FnG X.prog X.w X.K X.mg X.base CX k f fd ps (spD X.K n Φ)) (hr : RoomG k X.A) (hm : X.mg x = some (.ref f)) (hk : PySem.W.keepIn X.K (.ref f) = true) (hb : Binds X.K fd ps []) (hx : Passes CX X E)
    (hn : n = (e :: es).length) (ha : DA X (e :: es) wr) (hg : Gl X x := by rfl) (hdb : (x == ("__debug__" : Str)) = false := by decide) (he : starEach (e :: es) X.env = (false, eval e X.env) :: starEach es X.env := by rfl) (hpl : (backTo pos (starEach es X.env)).any (·.1) = false := by rfl) :
    DE X (.Call (.Name x p) (e :: es) [] pos) (wCall Φ wr) := by
  obtain ⟨t, pt, h⟩ := ha
  refine ⟨_, pe_callG F hr hg hm hk hb .nil hx pt hdb he hpl, fun G H As σ ρ κ P Q c pl w kk => ?_⟩
  refine h G H As σ ρ κ _ _ c pl w fun vs rs G1 H1 As1 κ1 s1 c1 p1 i1 el w1 => ?_
  obtain ⟨⟨xs, κ2⟩, ea, w2⟩ := w1.ex
  obtain ⟨G2, s2, c2, i2⟩ := args_ok c1 i1 ea
  rw [List.append_nil]
  refine ⟨by rw [Paired.length i1, hn]; exact el, G2, xs, _, c2.xt, i2, w2, fun v r G' H' hP hE s3 rv => ?_⟩
  have st : Step G H As G' H' As1 := (s1.trans s2).trans s3.wide
  exact kk v r G' H' As1 κ2 st (c2.call s3 hE) (pl.step st) ((rv.wide c2).back (s1.trans s2)) hP
theorem de_callL {Φ : List PyData → List R → (R → List PyData → Prop) → Prop} (F : FnG X.prog X.w X.K X.mg X.base CX k f fd ps (spL X.K n Φ)) (hr : RoomG k X.A) (hm : X.mg x = some (.ref f)) (hk : PySem.W.keepIn X.K (.ref f) = true) (hb : Binds X.K fd ps []) (hx : Passes CX X E)
    (hn : n = (e :: es).length) (ha : DA X (e :: es) wr) (hg : Gl X x := by rfl) (hdb : (x == ("__debug__" : Str)) = false := by decide) (he : starEach (e :: es) X.env = (false, eval e X.env) :: starEach es X.env := by rfl) (hpl : (backTo pos (starEach es X.env)).any (·.1) = false := by rfl) :
    DE X (.Call (.Name x p) (e :: es) [] pos) (wCallL Φ wr) := by
  obtain ⟨t, pt, h⟩ := ha
  refine ⟨_, pe_callG F hr hg hm hk hb .nil hx pt hdb he hpl, fun G H As σ ρ κ P Q c pl w kk => ?_⟩
  refine h G H As σ ρ κ _ _ c pl w fun vs rs G1 H1 As1 κ1 s1 c1 p1 i1 el w1 => ?_
  obtain ⟨⟨kc, bs, xs, κ2⟩, ea, w2⟩ := w1.ex
  cases rs with
  | nil => cases ea
  | cons r rs =>
    cases r with
    | d y => cases ea
    | f y => cases ea
    | s y => cases ea
    | b y => cases ea
    | p y => cases ea
    | h y => cases ea
    | g y => cases ea
    | q y => cases ea
    | o y => cases ea
    | t y1 y2 => cases ea
    | xe y1 y2 => cases ea
    | c kk' =>
      cases i1 with
      | cons i1 i1r =>
        unfold lend at ea
        simp only at ea
        cases q2 : args κ1 rs with
        | none => rw [q2] at ea; cases ea
        | some pp =>
          obtain ⟨ys, κ3⟩ := pp
          rw [q2] at ea
          simp only at ea
          cases q3 : κ3[kk']? with
          | none => rw [q3] at ea; cases ea
          | some c3 =>
            cases c3 with
            | z y => rw [q3] at ea; cases ea
            | m y => rw [q3] at ea; cases ea
            | k y => rw [q3] at ea; cases ea
            | x y => rw [q3] at ea; cases ea
            | n y1 y2 => rw [q3] at ea; cases ea
            | e ks => rw [q3] at ea; cases ea
            | l ds =>
              rw [q3] at ea
              cases ea
              obtain ⟨G2, s2, c2, i2⟩ := args_ok c1 i1r q2
              obtain ⟨a, ha1, rfl⟩ := i1
              rw [List.append_nil]
              refine ⟨by rw [List.length_cons, Paired.length i1r, hn]; exact el, G2, a, _, _, _, _, rfl, c2.one q3 ha1, i2, w2, fun v r bs' G' H' hP hE s3 rv => ?_⟩
              have st : Step G H As G' H' As1 := (s1.trans s2).trans (s3.lent (List.mem_of_getElem? ha1))
              exact kk v _ G' H' As1 _ st (c2.lent q3 ha1 s3 hE) (pl.step st) ((rv.lent c2 ha1).back (s1.trans s2)) hP
end
end DL
namespace DL
open PySem PySem.Spec PyProof.Rows L2
def sto (m : Bool) (r : R) (κ : Kap) : R × Kap := match m, r with
  | true, .f xs => (.c κ.length, κ ++ [.l xs])
  | _, r => (r.st, κ)
section
variable {K : PySem.W.Frag} {G H G' H' G1 H1 H0 : Hp} {As As' As1 : List Addr} {σ : L2.St} {ρ : Rho} {κ κ' : Kap} {v : V} {r : R}
theorem sto_ok (m : Bool) (s : Step G1 H1 As1 G H As) (c : Cells K G H As κ) (h : Rv K H1 G H As v r) : ∃ G' As', Step G1 H1 As1 G' H As' ∧ Cells K G' H As' (sto m r κ).2 ∧ It K G' As' v (sto m r κ).1 ∧ Ex G G' ∧ ∃ bs, As' = As ++ bs := by
  have dflt : (sto m r κ) = (r.st, κ) → ∃ G' As', Step G1 H1 As1 G' H As' ∧ Cells K G' H As' (sto m r κ).2 ∧ It K G' As' v (sto m r κ).1 ∧ Ex G G' ∧ ∃ bs, As' = As ++ bs := fun e => by
    obtain ⟨G', s', c', _, i', e'⟩ := settle (σ := []) (ρ := []) s c ⟨rfl, fun i r h => by simp at h⟩ h
    rw [e]
    exact ⟨G', As, s', c', i', e', [], by simp⟩
  cases m with
  | false => exact dflt (by cases r <;> rfl)
  | true =>
    cases r with
    | d x => exact dflt rfl
    | c k => exact dflt rfl
    | s ns => exact dflt rfl
    | b ks => exact dflt rfl
    | p ks => exact dflt rfl
    | h ks => exact dflt rfl
    | g ks => exact dflt rfl
    | q ks => exact dflt rfl
    | o u => exact dflt rfl
    | t y j => exact dflt rfl
    | xe cn fs => exact dflt rfl
    | f xs =>
      obtain ⟨q, vs, rfl, h0, g0, nin, hq, rp⟩ := h
      refine ⟨G, As ++ [q], ?_, c.more g0 nin hq rp, ⟨q, ?_, rfl⟩, Ex.refl G, [q], rfl⟩
      · obtain ⟨bs, e⟩ := s.pre
        refine ⟨s.ex, ⟨bs ++ [q], by rw [e, List.append_assoc]⟩, fun a ha => ?_, s.fr, s.dom, s.gn⟩
        rcases List.mem_append.mp ha with z | z
        · exact s.new a z
        · rw [List.mem_singleton] at z
          subst z; exact .inr h0
      · show (As ++ [q])[κ.length]? = some q
        rw [← c.len, List.getElem?_append_right (Nat.le_refl _), Nat.sub_self]
        rfl
theorem Places.mono (p : Places K G As σ ρ) (e : Ex G G') (hp : ∃ bs, As' = As ++ bs) : Places K G' As' σ ρ :=
  ⟨p.len, fun i r h => by
    obtain ⟨v, h1, h2⟩ := p.ok i r h
    exact ⟨v, h1, h2.mono e hp⟩⟩
theorem Places.put (p : Places K G As σ ρ) (i : Nat) (h : It K G As v r) : Places K G As (σ.set i (some v)) (ρ.set i (some r)) :=
  ⟨by rw [List.length_set, List.length_set]; exact p.len, fun j q e => by
    by_cases hj : i = j
    · subst hj
      by_cases hi : i < ρ.length
      · rw [List.getElem?_set_self hi] at e
        cases e
        exact ⟨v, List.getElem?_set_self (by rw [p.len]; exact hi), h⟩
      · rw [List.getElem?_eq_none (by rw [List.length_set]; omega)] at e; cases e
    · rw [List.getElem?_set_ne hj] at e ⊢
      exact p.ok j q e⟩
end
def wConsM (m : Bool) (wa : DTE) (wr : DTA) : DTA := fun ρ κ P => wa ρ κ fun r κ1 => wr ρ (sto m r κ1).2 fun rs κ2 => P ((sto m r κ1).1 :: rs) κ2
section
variable {X : Cx} {e a b : Expr} {es : List Expr} {wa wb : DTE} {wr : DTA} {pos : Pos} {wt wu : DTT}
theorem da_consM (m : Bool) (ha : DE X e wa) (hr : DA X es wr) (hs : starEach (e :: es) X.env = (false, eval e X.env) :: starEach es X.env := by rfl) : DA X (e :: es) (wConsM m wa wr) := by
  obtain ⟨ta, pa, ha⟩ := ha
  obtain ⟨tr, pr, hr⟩ := hr
  refine ⟨_, pa_cons pa pr hs, fun G H As σ ρ κ P Q c p w k => ?_⟩
  refine ha G H As σ ρ κ _ _ c p w fun v1 r1 G1 H1 As1 κ1 s1 c1 p1 i1 w1 => ?_
  obtain ⟨G1', As1', s1', c1', i1', e1, e2⟩ := sto_ok m s1 c1 i1
  refine hr G1' H1 As1' σ ρ _ _ _ c1' (p1.mono e1 e2) w1 fun vs rs G2 H2 As2 κ2 s2 c2 p2 i2 l2 w2 => ?_
  exact k _ _ G2 H2 As2 κ2 (s1'.trans s2) c2 p2 (.cons (s2.it i1') i2) (congrArg (· + 1) l2) w2
def truth : PyData → Option Bool
  | .none => some false
  | .bool b => some b
  | .int i => some (i != 0)
  | .str z => if z.length ≤ sizeLine then some ((z.length : Int) != 0) else none
  | .list xs => some (!xs.isEmpty)
  | .tuple xs => some (!xs.isEmpty)
  | .dict _ => none
def wTru (wa : DTE) : DTT := fun ρ κ P => wa ρ κ fun r κ1 => Opt (val κ1 r.st) fun x => Opt (truth x) fun b => P b κ1
def wB (wa : DTE) : DTT := fun ρ κ P => wa ρ κ fun r κ1 => match r with
  | .d (.bool b) => P b κ1
  | _ => False
theorem tru_of {K : PySem.W.Frag} {G H : Hp} {v : V} {x : PyData} {b : Bool} (ext : Ex G H) (h : Vw K G H v x) (e : truth x = some b) : TruV K v H b := by
  have emp : ∀ {vs : List V} {ds : List PyData}, RpA K G vs ds → (!vs.isEmpty) = !ds.isEmpty := fun r => by cases r <;> rfl
  cases x with
  | none => cases e; cases h; rfl
  | bool c => cases e; cases h; rfl
  | int i => cases e; cases h; rfl
  | str z =>
    cases h
    unfold truth at e
    simp only at e
    split at e
    · cases e; exact ⟨by assumption, rfl⟩
    · cases e
  | list xs =>
    cases e
    obtain ⟨a, vs, rfl, h1, h2⟩ := h
    exact .inl ⟨vs, sql_of h1, (emp h2).symm⟩
  | tuple xs =>
    cases e
    obtain ⟨a, vs, rfl, h1, h2⟩ := h.tup ext
    exact .inr (.inl ⟨vs, h1, (emp h2).symm⟩)
  | dict _ => cases e
theorem dt_tru (ha : DE X a wa) (he : ∀ whole, isTrue a X.env whole = (do let v ← whole; standAt a.pos; holding [v] (truthy v)) := by intro _; rfl) : DT X a (wTru wa) := by
  obtain ⟨ta, pa, ha⟩ := ha
  refine ⟨_, pt_truth pa he, fun G H As σ ρ κ P Q c p w k => ?_⟩
  refine ha G H As σ ρ κ _ _ c p w fun v1 r1 G1 H1 As1 κ1 s1 c1 p1 i1 w1 => ?_
  obtain ⟨G1', s1', c1', p1', i1', _⟩ := settle s1 c1 p1 i1
  obtain ⟨x, ex, w2⟩ := w1.ex
  obtain ⟨b, eb, w3⟩ := w2.ex
  exact ⟨b, tru_of c1'.ext (i1'.vw c1' ex) eb, k b G1' H1 As1 κ1 s1' c1' p1' w3⟩
theorem dt_cmp {op : CmpOp} {r2 : R2} {g : PyData → PyData → Option Out} (ho : OpR X (compareOp op) r2) (hg : OpD X.K r2 g) (ha : DE X a wa) (hb : DE X b wb) (hm : behindInMarks op b = false) : DT X (.Compare a [op] [b] pos) (wB (wBin g wa wb)) := by
  obtain ⟨ta, pa, ha⟩ := ha
  obtain ⟨tb, pb, hb⟩ := hb
  refine ⟨_, pt_cmpR ho pa pb hm, fun G H As σ ρ κ P Q c p w k => ?_⟩
  refine bin_reads hg ha hb G H As σ ρ κ _ _ c p w fun v r G1 H1 As1 κ1 s1 c1 p1 i1 w1 => ?_
  cases r with
  | d x =>
    cases x with
    | bool z =>
      have i1 : Rp X.K G1 v (.bool z) := i1
      cases i1
      exact ⟨z, rfl, k z G1 H1 As1 κ1 s1 c1 p1 w1⟩
    | _ => exact w1.elim
  | _ => exact w1.elim
def wNot (wt : DTT) : DTT := fun ρ κ P => wt ρ κ fun b κ1 => P (!b) κ1
def wAnd (wt wu : DTT) : DTT := fun ρ κ P => wt ρ κ fun b κ1 => if b = true then wu ρ κ1 P else P false κ1
def wOr (wt wu : DTT) : DTT := fun ρ κ P => wt ρ κ fun b κ1 => if b = true then P true κ1 else wu ρ κ1 P
theorem dt_not (h : DT X a wt) : DT X (.UnaryOp .Not a pos) (wNot wt) := by
  obtain ⟨t, pt, h⟩ := h
  exact ⟨_, pt_not pt, fun G H As σ ρ κ P Q c p w k => h G H As σ ρ κ _ _ c p w fun b => k (!b)⟩
theorem dw_pt (h : DW X a wt) : DT X a wt := by
  obtain ⟨t, pt, h⟩ := h
  exact ⟨_, pt.pt, h⟩
theorem dw_and1 (h : DT X a wt) : DW X (.BoolOp .And [a] pos) wt := by
  obtain ⟨t, pt, h⟩ := h
  exact ⟨_, pw_and1 pt, h⟩
theorem dw_or1 (h : DT X a wt) : DW X (.BoolOp .Or [a] pos) wt := by
  obtain ⟨t, pt, h⟩ := h
  exact ⟨_, pw_or1 pt, h⟩
theorem dw_and (h : DT X a wt) (hb : DW X (.BoolOp .And (b :: es) pos) wu) : DW X (.BoolOp .And (a :: b :: es) pos) (wAnd wt wu) := by
  obtain ⟨t, pt, h⟩ := h
  obtain ⟨u, pu, hb⟩ := hb
  refine ⟨_, pw_and pt pu, fun G H As σ ρ κ P Q c p w k => ?_⟩
  refine h G H As σ ρ κ _ _ c p w fun z G1 H1 As1 κ1 s1 c1 p1 w1 => ?_
  cases z with
  | true =>
    rw [if_pos rfl] at w1 ⊢
    exact hb G1 H1 As1 σ ρ κ1 _ _ c1 p1 w1 fun y G2 H2 As2 κ2 s2 c2 p2 w2 => k y G2 H2 As2 κ2 (s1.trans s2) c2 p2 w2
  | false =>
    rw [if_neg (by decide)] at w1 ⊢
    exact k false G1 H1 As1 κ1 s1 c1 p1 w1
theorem dw_or (h : DT X a wt) (hb : DW X (.BoolOp .Or (b :: es) pos) wu) : DW X (.BoolOp .Or (a :: b :: es) pos) (wOr wt wu) := by
  obtain ⟨t, pt, h⟩ := h
  obtain ⟨u, pu, hb⟩ := hb
  refine ⟨_, pw_or pt pu, fun G H As σ ρ κ P Q c p w k => ?_⟩
  refine h G H As σ ρ κ _ _ c p w fun z G1 H1 As1 κ1 s1 c1 p1 w1 => ?_
  cases z with
  | false =>
    rw [if_neg (by decide)] at w1 ⊢
    exact hb G1 H1 As1 σ ρ κ1 _ _ c1 p1 w1 fun y G2 H2 As2 κ2 s2 c2 p2 w2 => k y G2 H2 As2 κ2 (s1.trans s2) c2 p2 w2
  | true =>
    rw [if_pos rfl] at w1 ⊢
    exact k true G1 H1 As1 κ1 s1 c1 p1 w1
def wAndV (wa wb : DTE) : DTE := fun ρ κ P => wa ρ κ fun r κ1 => match r with
  | .d (.bool z) => if z = true then wb ρ κ1 P else P (.d (.bool false)) κ1
  | _ => False
def wOrV (wa wb : DTE) : DTE := fun ρ κ P => wa ρ κ fun r κ1 => match r with
  | .d (.bool z) => if z = true then P (.d (.bool true)) κ1 else wb ρ κ1 P
  | _ => False
def wNotV (wa : DTE) : DTE := fun ρ κ P => wa ρ κ fun r κ1 => match r with
  | .d (.bool z) => P (.d (.bool (!z))) κ1
  | _ => False
def wIf (wt : DTT) (wa wb : DTE) : DTE := fun ρ κ P => wt ρ κ fun z κ1 => if z = true then wa ρ κ1 P else wb ρ κ1 P
theorem de_one {op : BoolOp} (h : DE X a wa) : DE X (.BoolOp op [a] pos) wa := by
  obtain ⟨t, pt, h⟩ := h
  exact ⟨_, pe_one pt, h⟩
theorem de_and (ha : DE X a wa) (hb : DE X (.BoolOp .And (b :: es) pos) wb) : DE X (.BoolOp .And (a :: b :: es) pos) (wAndV wa wb) := by
  obtain ⟨t, pt, ha⟩ := ha
  obtain ⟨u, pu, hb⟩ := hb
  refine ⟨_, pe_and pt pu, fun G H As σ ρ κ P Q c p w k => ?_⟩
  refine ha G H As σ ρ κ _ _ c p w fun v r G1 H1 As1 κ1 s1 c1 p1 i1 w1 => ?_
  cases r with
  | d x =>
    cases x with
    | bool z =>
      have i1 : Rp X.K G1 v (.bool z) := i1
      cases i1
      refine ⟨z, rfl, ?_⟩
      cases z with
      | true =>
        simp only [if_pos] at w1
        rw [if_pos rfl]
        exact hb G1 H1 As1 σ ρ κ1 _ _ c1 p1 w1 fun y r2 G2 H2 As2 κ2 s2 c2 p2 i2 w2 => k y r2 G2 H2 As2 κ2 (s1.trans s2) c2 p2 (i2.back s1) w2
      | false =>
        simp only [if_neg (show ¬ false = true by decide)] at w1
        rw [if_neg (by decide)]
        exact k _ (.d (.bool false)) G1 H1 As1 κ1 s1 c1 p1 (.bl false) w1
    | _ => exact w1.elim
  | _ => exact w1.elim
theorem de_not (ha : DE X a wa) : DE X (.UnaryOp .Not a pos) (wNotV wa) := by
  obtain ⟨t, pt, ha⟩ := ha
  refine ⟨_, pe_not pt, fun G H As σ ρ κ P Q c p w k => ?_⟩
  refine ha G H As σ ρ κ _ _ c p w fun v r G1 H1 As1 κ1 s1 c1 p1 i1 w1 => ?_
  cases r with
  | d x =>
    cases x with
    | bool z =>
      have i1 : Rp X.K G1 v (.bool z) := i1
      cases i1
      exact ⟨z, rfl, k _ (.d (.bool (!z))) G1 H1 As1 κ1 s1 c1 p1 (.bl (!z)) w1⟩
    | _ => exact w1.elim
  | _ => exact w1.elim
theorem de_ifx {t : Expr} (ht : DT X t wt) (ha : DE X a wa) (hb : DE X b wb) : DE X (.IfExp t a b pos) (wIf wt wa wb) := by
  obtain ⟨tt, pt, ht⟩ := ht
  obtain ⟨ta, pa, ha⟩ := ha
  obtain ⟨tb, pb, hb⟩ := hb
  refine ⟨_, pe_ifExp pt pa pb, fun G H As σ ρ κ P Q c p w k => ?_⟩
  refine ht G H As σ ρ κ _ _ c p w fun z G1 H1 As1 κ1 s1 c1 p1 w1 => ?_
  cases z with
  | true =>
    rw [if_pos rfl] at w1 ⊢
    exact ha G1 H1 As1 σ ρ κ1 _ _ c1 p1 w1 fun y r2 G2 H2 As2 κ2 s2 c2 p2 i2 w2 => k y r2 G2 H2 As2 κ2 (s1.trans s2) c2 p2 (i2.back s1) w2
  | false =>
    rw [if_neg (by decide)] at w1 ⊢
    exact hb G1 H1 As1 σ ρ κ1 _ _ c1 p1 w1 fun y r2 G2 H2 As2 κ2 s2 c2 p2 i2 w2 => k y r2 G2 H2 As2 κ2 (s1.trans s2) c2 p2 (i2.back s1) w2
end
def Wr (js : List Nat) (σ σ' : L2.St) : Prop := σ'.length = σ.length ∧ ∀ i, i ∉ js → σ'[i]? = σ[i]?
def DG (X : Cx) (e : Expr) (js : List Nat) (w : DTG) : Prop := ∃ g, PG X e g ∧ ∀ (G H : Hp) (As : List Addr) (σ : L2.St) (ρ : Rho) (κ : Kap) (v : V) (r : R) (P : Rho → Kap → Prop) (Q : L2.St → Hp → Prop), Cells X.K G H As κ → Places X.K G As σ ρ → It X.K G As v r → w r ρ κ P →
  (∀ σ' ρ' G' H' As' κ', Wr js σ σ' → Step G H As G' H' As' → Cells X.K G' H' As' κ' → Places X.K G' As' σ' ρ' → P ρ' κ' → Q σ' H') → g v σ H Q
def DGs (X : Cx) (es : List Expr) (js : List Nat) (w : List PyData → Rho → Kap → (Rho → Kap → Prop) → Prop) : Prop := ∃ g, PGs X es g ∧ ∀ (G H : Hp) (As : List Addr) (σ : L2.St) (ρ : Rho) (κ : Kap) (vs : List V) (xs : List PyData) (P : Rho → Kap → Prop) (Q : L2.St → Hp → Prop), Cells X.K G H As κ → Places X.K G As σ ρ → RpA X.K G vs xs → w xs ρ κ P →
  (∀ σ' ρ' G' H' As' κ', Wr js σ σ' → Step G H As G' H' As' → Cells X.K G' H' As' κ' → Places X.K G' As' σ' ρ' → P ρ' κ' → Q σ' H') → g vs σ H Q
theorem Wr.refl {js : List Nat} {σ : L2.St} : Wr js σ σ := ⟨rfl, fun _ _ => rfl⟩
theorem Wr.trans {js is : List Nat} {σ σ1 σ2 : L2.St} (a : Wr js σ σ1) (b : Wr is σ1 σ2) : Wr (js ++ is) σ σ2 :=
  ⟨b.1.trans a.1, fun i h => (b.2 i fun z => h (List.mem_append_right _ z)).trans (a.2 i fun z => h (List.mem_append_left _ z))⟩
theorem wipe_in {σ : L2.St} {i : Nat} : ∀ {vs : List Nat}, i ∈ vs → (wipe σ vs)[i]? = if i < σ.length then some none else none
  | [], h => by cases h
  | v :: vs, h => by
    unfold wipe
    by_cases e : v = i
    · subst e
      by_cases hl : v < σ.length
      · rw [if_pos hl, List.getElem?_set_self (by rw [wipe_length]; exact hl)]
      · rw [if_neg hl, List.getElem?_eq_none (by rw [List.length_set, wipe_length]; omega)]
    · rw [List.getElem?_set_ne e]
      rcases List.mem_cons.mp h with z | z
      · exact absurd z.symm e
      · exact wipe_in z
theorem Wr.wipe {js vs : List Nat} {σ σ' : L2.St} (w : Wr js σ σ') (h : ∀ j, j ∈ js → j ∈ vs) : wipe σ' vs = wipe σ vs := by
  refine List.ext_getElem? fun i => ?_
  by_cases hi : i ∈ vs
  · rw [wipe_in hi, wipe_in hi, w.1]
  · rw [wipe_out hi, wipe_out hi]
    exact w.2 i fun z => hi (h i z)
def wName (i : Nat) : DTG := fun r ρ κ P => P (ρ.set i (some r)) κ
def wgNil : List PyData → Rho → Kap → (Rho → Kap → Prop) → Prop := fun xs ρ κ P => match xs with
  | [] => P ρ κ
  | _ => False
def wgCons (g : DTG) (gs : List PyData → Rho → Kap → (Rho → Kap → Prop) → Prop) : List PyData → Rho → Kap → (Rho → Kap → Prop) → Prop := fun xs ρ κ P => match xs with
  | x :: xs => g (.d x) ρ κ fun ρ1 κ1 => gs xs ρ1 κ1 P
  | [] => False
def wTupG (n : Nat) (gs : List PyData → Rho → Kap → (Rho → Kap → Prop) → Prop) : DTG := fun r ρ κ P => match r with
  | .d (.tuple xs) => xs.length = n ∧ gs xs ρ κ P
  | _ => False
section
variable {X : Cx} {pos : Pos} {e : Expr} {es : List Expr} {js is : List Nat} {wg : DTG} {gs : List PyData → Rho → Kap → (Rho → Kap → Prop) → Prop}
theorem dg_name (i : Nat) {x : Str} (hN : X.N.Nodup) (hi : X.N[i]? = some x := by rfl) (hx : Loc X.env.scope x := by first | exact Or.inl rfl | exact Or.inr rfl) (hf : X.fn x = true ∨ X.env.scope.names.lookup x = some .local := by first | exact .inl rfl | exact .inr rfl) : DG X (.Name x pos) [i] (wName i) := by
  refine ⟨_, pg_name hN hi hx hf, fun G H As σ ρ κ v r P Q c p h w k => ?_⟩
  refine k _ _ G H As κ ⟨by rw [List.length_set], fun j hj => List.getElem?_set_ne fun z => hj (by rw [z]; exact List.mem_singleton.mpr rfl)⟩ Step.refl c (p.put i h) w
theorem dgs_nil : DGs X [] [] wgNil := by
  refine ⟨_, pgs_nil, fun G H As σ ρ κ vs xs P Q c p h w k => ?_⟩
  cases h with
  | nil => exact ⟨rfl, k σ ρ G H As κ Wr.refl Step.refl c p w⟩
  | cons _ _ => exact w.elim
theorem dgs_cons (h1 : DG X e js wg) (h2 : DGs X es is gs) (hs : (assignEach (e :: es) X.env).map (·.2) = assign e X.env :: (assignEach es X.env).map (·.2) := by rfl) : DGs X (e :: es) (js ++ is) (wgCons wg gs) := by
  obtain ⟨g, pg, h1⟩ := h1
  obtain ⟨u, pu, h2⟩ := h2
  refine ⟨_, pgs_cons pg pu hs, fun G H As σ ρ κ vs xs P Q c p h w k => ?_⟩
  cases h with
  | nil => exact w.elim
  | cons r1 r2 =>
    refine ⟨_, _, rfl, ?_⟩
    refine h1 G H As σ ρ κ _ (.d _) _ _ c p r1 w fun σ1 ρ1 G1 H1 As1 κ1 a1 s1 c1 p1 w1 => ?_
    refine h2 G1 H1 As1 σ1 ρ1 κ1 _ _ _ _ c1 p1 (RpA.mono s1.ex _ _ r2) w1 fun σ2 ρ2 G2 H2 As2 κ2 a2 s2 c2 p2 w2 => ?_
    exact k σ2 ρ2 G2 H2 As2 κ2 (a1.trans a2) (s1.trans s2) c2 p2 w2
theorem dg_tup {k n : Nat} (hc : X.calm = true) (h : DGs X es js gs) (hn : (assignEach es X.env).length = n := by rfl) (hst : (assignEach es X.env).findIdx? (·.1) = none := by rfl) : DG X (.Tuple es k pos) js (wTupG n gs) := by
  obtain ⟨g, pg, h⟩ := h
  refine ⟨_, pg_tup hc pg hn hst, fun G H As σ ρ κ v r P Q c p i w k => ?_⟩
  unfold wTupG at w
  split at w
  · rename_i xs
    obtain ⟨hl, w⟩ := w
    have i : Rp X.K G v (.tuple xs) := i
    cases i with
    | tup h1 h2 => exact ⟨_, _, rfl, sqt_of (c.ext _ _ h1), h2.len.trans hl, h G H As σ ρ κ _ _ P Q c p h2 w k⟩
  · exact w.elim
end
def wNext : DTS := fun E ρ κ => E.nx ρ κ
def wSeq (a b : DTS) : DTS := fun E ρ κ => a { E with nx := b E } ρ κ
def wAsg (we : DTE) (wg : DTG) : DTS := fun E ρ κ => we ρ κ fun r κ1 => wg r.st ρ κ1 E.nx
def wSet (m : Bool) (i : Nat) (we : DTE) : DTS := fun E ρ κ => we ρ κ fun r κ1 => E.nx (ρ.set i (some (sto m r κ1).1)) (sto m r κ1).2
def wPar (i j : Nat) (wa : DTA) : DTS := fun E ρ κ => wa ρ κ fun rs κ1 => match rs with
  | [r, q] => E.nx ((ρ.set i (some r)).set j (some q)) κ1
  | _ => False
def wDrop (we : DTE) : DTS := fun E ρ κ => we ρ κ fun _ κ1 => E.nx ρ κ1
def wRet (we : DTE) : DTS := fun E ρ κ => we ρ κ E.rt
def wRetN : DTS := fun E _ κ => E.rt (.d .none) κ
def wIfS (wt : DTT) (a b : DTS) : DTS := fun E ρ κ => wt ρ κ fun z κ1 => if z = true then a E ρ κ1 else b E ρ κ1
def wBrk : DTS := fun E ρ κ => E.bk ρ κ
def wCnt : DTS := fun E ρ κ => E.ct ρ κ
section
variable {X : Cx} {pos : Pos} {e a b tg : Expr} {es : List Expr} {st : Stmt} {sts sts2 : List Stmt} {w u : DTS} {we wa : DTE} {wr : DTA} {wt : DTT} {wg : DTG} {js : List Nat}
theorem dss_nil : DSs X [] wNext := ⟨_, pss_nil, fun G H As σ ρ κ E D c p w r => r.nx σ ρ G H As κ Step.refl c p w⟩
theorem dss_cons (h1 : DS X st w) (h2 : DSs X sts u) : DSs X (st :: sts) (wSeq w u) := by
  obtain ⟨t1, p1, h1⟩ := h1
  obtain ⟨t2, p2, h2⟩ := h2
  refine ⟨_, pss_cons p1 p2, fun G H As σ ρ κ E D c p w r => ?_⟩
  refine h1 G H As σ ρ κ { E with nx := u E } _ c p w ⟨fun σ1 ρ1 G1 H1 As1 κ1 s1 c1 pl1 w1 => ?_, r.bk, r.ct, r.rt⟩
  exact h2 G1 H1 As1 σ1 ρ1 κ1 E D c1 pl1 w1 (r.step s1)
theorem dss_one (h1 : DS X st w) : DSs X [st] w := by
  obtain ⟨t1, p1, h1⟩ := h1
  exact ⟨_, pss_one p1, h1⟩
theorem ds_asg (he : DE X e we) (hg : DG X tg js wg) (hs : swapsWithSole [tg] e pos.line X.env = pure false := by rfl) (hw : swappedStores [tg] e X.env = pure none := by rfl) (h1 : (assignEach [tg] X.env).map (·.2) = [assign tg X.env] := by rfl) : DS X (.Assign [tg] e pos) (wAsg we wg) := by
  obtain ⟨t, pt, he⟩ := he
  obtain ⟨g, pg, hg⟩ := hg
  refine ⟨_, ps_asg pt pg hs hw h1, fun G H As σ ρ κ E D c p w r => ?_⟩
  refine he G H As σ ρ κ _ _ c p w fun v q G1 H1 As1 κ1 s1 c1 p1 i1 w1 => ?_
  obtain ⟨G1', s1', c1', p1', i1', _⟩ := settle s1 c1 p1 i1
  refine hg G1' H1 As1 σ ρ κ1 _ _ _ _ c1' p1' i1' w1 fun σ2 ρ2 G2 H2 As2 κ2 _ s2 c2 p2 w2 => ?_
  exact r.nx σ2 ρ2 G2 H2 As2 κ2 (s1'.trans s2) c2 p2 w2
theorem ds_set (m : Bool) (i : Nat) {x : Str} {pos' : Pos} (hN : X.N.Nodup) (he : DE X e we) (hi : X.N[i]? = some x := by rfl) (hx : Loc X.env.scope x := by first | exact Or.inl rfl | exact Or.inr rfl) (hs : swapsWith e (some (.Name x pos')) pos.line X.env = pure false := by rfl)
    (hf : X.fn x = true ∨ X.env.scope.names.lookup x = some .local := by first | exact .inl rfl | exact .inr rfl) : DS X (.Assign [.Name x pos'] e pos) (wSet m i we) := by
  obtain ⟨t, pt, he⟩ := he
  refine ⟨_, ps_set hN hi hx pt hs hf, fun G H As σ ρ κ E D c p w r => ?_⟩
  refine he G H As σ ρ κ _ _ c p w fun v q G1 H1 As1 κ1 s1 c1 p1 i1 w1 => ?_
  obtain ⟨G1', As1', s1', c1', i1', e1, e2⟩ := sto_ok m s1 c1 i1
  exact r.nx _ _ G1' H1 As1' _ s1' c1' ((p1.mono e1 e2).put i i1') w1
theorem ds_par (i j : Nat) {x y : Str} {px py pt : Pos} {kt k2 : Nat} {pt2 : Pos} (hc : X.calm = true) (hN : X.N.Nodup) (ha : DA X [a, b] wr) (hi : X.N[i]? = some x := by rfl) (hj : X.N[j]? = some y := by rfl) (hij : i ≠ j := by decide)
    (hx : X.env.scope.names.lookup x = some .local := by rfl) (hy : X.env.scope.names.lookup y = some .local := by rfl)
    (hw : swappedStores [.Tuple [.Name x px, .Name y py] kt pt] (.Tuple [a, b] k2 pt2) X.env = pure (some [x, y]) := by rfl)
    (hs : swapsWithSole [.Tuple [.Name x px, .Name y py] kt pt] (.Tuple [a, b] k2 pt2) pos.line X.env = pure false := by rfl) :
    DS X (.Assign [.Tuple [.Name x px, .Name y py] kt pt] (.Tuple [a, b] k2 pt2) pos) (wPar i j wr) := by
  obtain ⟨t, ptt, ha⟩ := ha
  refine ⟨_, ps_par hc hN hi hj hij hx hy ptt hw hs, fun G H As σ ρ κ E D c p w r => ?_⟩
  refine ha G H As σ ρ κ _ _ c p w fun vs rs G1 H1 As1 κ1 s1 c1 p1 i1 l1 w1 => ?_
  match rs, vs, i1, w1 with
  | [q1, q2], _, .cons h1 (.cons h2 .nil), w1 => exact ⟨_, _, rfl, r.nx _ _ G1 H1 As1 κ1 s1 c1 ((p1.put i h1).put j h2) w1⟩
  | [], _, _, w1 => exact w1.elim
  | [_], _, _, w1 => exact w1.elim
  | _ :: _ :: _ :: _, _, _, w1 => exact w1.elim
theorem ds_expr (he : DE X e we) (hs : swapsWith e none pos.line X.env = pure false := by rfl) : DS X (.Expr e pos) (wDrop we) := by
  obtain ⟨t, pt, he⟩ := he
  refine ⟨_, ps_expr pt hs, fun G H As σ ρ κ E D c p w r => ?_⟩
  exact he G H As σ ρ κ _ _ c p w fun v q G1 H1 As1 κ1 s1 c1 p1 i1 w1 => r.nx σ ρ G1 H1 As1 κ1 s1 c1 p1 w1
theorem ds_ret (he : DE X e we) : DS X (.Return (some e) pos) (wRet we) := by
  obtain ⟨t, pt, he⟩ := he
  refine ⟨_, ps_ret pt, fun G H As σ ρ κ E D c p w r => ?_⟩
  exact he G H As σ ρ κ _ _ c p w fun v q G1 H1 As1 κ1 s1 c1 p1 i1 w1 => r.rt v q G1 H1 As1 κ1 s1 c1 i1 w1
theorem ds_if {t : Expr} (ht : DT X t wt) (ha : DSs X sts w) (hb : DSs X sts2 u) : DS X (.If t sts sts2 pos) (wIfS wt w u) := by
  obtain ⟨tt, pt, ht⟩ := ht
  obtain ⟨ta, pa, ha⟩ := ha
  obtain ⟨tb, pb, hb⟩ := hb
  refine ⟨_, ps_if pt pa pb, fun G H As σ ρ κ E D c p w r => ?_⟩
  refine ht G H As σ ρ κ _ _ c p w fun z G1 H1 As1 κ1 s1 c1 p1 w1 => ?_
  cases z with
  | true =>
    rw [if_pos rfl] at w1 ⊢
    exact ha G1 H1 As1 σ ρ κ1 E D c1 p1 w1 (r.step s1)
  | false =>
    rw [if_neg (by decide)] at w1 ⊢
    exact hb G1 H1 As1 σ ρ κ1 E D c1 p1 w1 (r.step s1)
end
end DL
namespace DL
open PySem PySem.Spec PyProof.Rows L2
def WalkOk (K : PySem.W.Frag) (G : Hp) (As : List Addr) (J : L2.It) (xs : List PyData) (ok : Kap → Prop) : Prop := ∀ (G' H' : Hp) (As' : List Addr) (κ' : Kap), Ex G G' → (∃ bs, As' = As ++ bs) → Cells K G' H' As' κ' → ok κ' →
  (∀ i, i < xs.length → J.go i H') ∧ J.stop xs.length H' ∧ ∀ i v H'' x, J.yld i H' v H'' → xs[i]? = some x → ∃ G'', Step G' H' As' G'' H'' As' ∧ Cells K G'' H'' As' κ' ∧ Rp K G'' v x
abbrev DTI := Rho → Kap → (List PyData → (Kap → Prop) → Kap → Prop) → Prop
def DI (X : Cx) (tg it : Expr) (w : DTI) : Prop := ∃ t, PI X tg it t ∧ ∀ (G H : Hp) (As : List Addr) (σ : L2.St) (ρ : Rho) (κ : Kap) (P : List PyData → (Kap → Prop) → Kap → Prop) (R : L2.It → Hp → Prop), Cells X.K G H As κ → Places X.K G As σ ρ → w ρ κ P →
  (∀ J xs ok G' H' As' κ', Step G H As G' H' As' → Cells X.K G' H' As' κ' → Places X.K G' As' σ ρ → WalkOk X.K G' As' J xs ok → ok κ' → P xs ok κ' → R J H') → t σ H R
/-- a list, a tuple, a text -/
def iSeq (K : PySem.W.Frag) (tl : TE) : TI := fun σ H R => tl σ H fun x H1 => (∃ a xs, x = .ref a ∧ SqL K H1 a xs ∧ R (Itl K a) H1) ∨ (∃ a xs, x = .ref a ∧ SqT K H1 a xs ∧ R (Itt K a) H1) ∨ ∃ z, x = .str z ∧ R (Its z) H1
section
variable {X : Cx} {tg l : Expr}
theorem pi_seq {tl : TE} (hl : PE X l tl) : PI X tg l (iSeq X.K tl) := by
  refine ⟨fun pins s σ H R I h => ?_⟩
  refine thn (hl.run pins s σ H _ I h) fun v s1 ⟨x, H1, I1, r1, q1⟩ => ?_
  rcases q1 with ⟨a, xs, ex, hq, q⟩ | ⟨a, xs, ex, hq, q⟩ | ⟨z, ex, q⟩
  · subst ex
    cases r1
    obtain ⟨its, rv, pl, hz⟩ := I1.list hq
    refine wpAny_pyIter_list pl.isList ⟨s1.heap.objs.size, [s1.heap.objs.size], _, _, H1, rfl, I1.kept (t' := s1.toks) fun b o e => Heap.get?_push_of_some _ e, turn_list a _, ⟨_, Heap.get?_push_size _ rfl, rfl, rfl⟩, fun b hb => ?_, q⟩
    have e : b = s1.heap.objs.size := by simpa using hb
    subst e
    exact I1.fpOk (Nat.le_refl _) (I1.hok.fresh (Nat.le_refl _))
  · subst ex
    cases r1
    obtain ⟨its, rv, pl, hz⟩ := I1.tuple hq
    refine wpAny_pyIter_tuple (show s1.heap.IsTuple a its.toArray from pl) ⟨s1.heap.objs.size, [s1.heap.objs.size], _, _, H1, rfl, I1.kept (t' := s1.toks) fun b o e => Heap.get?_push_of_some _ e, turn_tuple a _, ⟨_, Heap.get?_push_size _ rfl, rfl, rfl⟩, fun b hb => ?_, q⟩
    have e : b = s1.heap.objs.size := by simpa using hb
    subst e
    exact I1.fpOk (Nat.le_refl _) (I1.hok.fresh (Nat.le_refl _))
  · subst ex
    obtain ⟨t, rfl⟩ := r1
    cases ha : z.cps.all (· < 128)
    · exact wpAny_pyIter_wide ha (pi_one (tk := s1.toks) I1 _ (turn_str _ z t "str_iterator" (.inr rfl)) ⟨_, Heap.get?_push_size _ rfl, rfl, rfl⟩ q)
    · exact wpAny_pyIter_ascii ha (pi_one (tk := s1.toks) I1 _ (turn_str _ z t "str_ascii_iterator" (.inl rfl)) ⟨_, Heap.get?_push_size _ rfl, rfl, rfl⟩ q)
end
def wSq (we : DTE) : DTI := fun ρ κ P => we ρ κ fun r κ1 => Opt (val κ1 r.st) fun x => match x with
  | .list xs => P xs (fun κ' => val κ' r.st = some (.list xs)) κ1
  | .tuple xs => P xs (fun κ' => val κ' r.st = some (.tuple xs)) κ1
  | .str z => P (z.cps.toList.map fun c => .str ⟨#[c]⟩) (fun _ => True) κ1
  | _ => False
section
variable {K : PySem.W.Frag} {G H G' H' : Hp} {As As' : List Addr} {κ : Kap} {v : V} {r : R}
theorem walk_list {a : Addr} {xs : List PyData} (i0 : It K G As (.ref a) r) : WalkOk K G As (Itl K a) xs fun κ' => val κ' r = some (.list xs) := by
  intro G' H' As' κ' e p c h
  obtain ⟨b, vs, ev, h1, h2⟩ := (i0.mono e p).vw c h
  cases ev
  refine ⟨fun i hi => ?_, ⟨vs, sql_of h1, by rw [h2.len]; exact Nat.le_refl _⟩, fun i v H'' x y hx => ?_⟩
  · obtain ⟨v, e1, _⟩ := h2.get (List.getElem?_eq_getElem hi)
    exact ⟨vs, v, sql_of h1, e1⟩
  · obtain ⟨rfl, y⟩ := y
    obtain ⟨d, e1, e2⟩ := h2.getV (y vs (sql_of h1))
    rw [e1] at hx
    cases hx
    exact ⟨G', Step.refl, c, e2⟩
theorem walk_tuple {a : Addr} {xs : List PyData} (i0 : It K G As (.ref a) r) : WalkOk K G As (Itt K a) xs fun κ' => val κ' r = some (.tuple xs) := by
  intro G' H' As' κ' e p c h
  obtain ⟨b, vs, ev, h1, h2⟩ := (i0.mono e p).vw c h |>.tup c.ext
  cases ev
  refine ⟨fun i hi => ?_, ⟨vs, h1, by rw [h2.len]; exact Nat.le_refl _⟩, fun i v H'' x y hx => ?_⟩
  · obtain ⟨v, e1, _⟩ := h2.get (List.getElem?_eq_getElem hi)
    exact ⟨vs, v, h1, e1⟩
  · obtain ⟨rfl, y⟩ := y
    obtain ⟨d, e1, e2⟩ := h2.getV (y vs h1)
    rw [e1] at hx
    cases hx
    exact ⟨G', Step.refl, c, e2⟩
theorem walk_str {z : Str} : WalkOk K G As (Its z) (z.cps.toList.map fun c => .str ⟨#[c]⟩) fun _ => True := by
  intro G' H' As' κ' e p c _
  refine ⟨fun i hi => by simpa [Its] using hi, by simp [Its], fun i v H'' x y hx => ?_⟩
  obtain ⟨rfl, c0, e1, rfl⟩ := y
  rw [List.getElem?_map, Array.getElem?_toList, e1] at hx
  cases hx
  exact ⟨G', Step.refl, c, .str _⟩
theorem walk_range {lo : Int} {n : Nat} : WalkOk K G As (Itr lo n) ((List.range n).map fun (i : Nat) => .int (lo + (i : Int))) fun _ => True := by
  intro G' H' As' κ' e p c _
  refine ⟨fun i hi => by simpa [Itr] using hi, by simp [Itr], fun i v H'' x y hx => ?_⟩
  obtain ⟨rfl, rfl⟩ := y
  rw [List.getElem?_map] at hx
  cases q : (List.range n)[i]? with
  | none => rw [q] at hx; cases hx
  | some j =>
    rw [q] at hx
    have : j = i := by
      obtain ⟨h1, h2⟩ := List.getElem?_eq_some_iff.mp q
      rw [List.getElem_range] at h2
      exact h2.symm
    subst this
    cases hx
    exact ⟨G', Step.refl, c, .int _⟩
def zipD : List PyData → List PyData → List PyData
  | x :: xs, y :: ys => .tuple [x, y] :: zipD xs ys
  | _, _ => []
theorem zipD_get : ∀ {xs ys : List PyData} {i : Nat} {d : PyData}, (zipD xs ys)[i]? = some d → ∃ x y, xs[i]? = some x ∧ ys[i]? = some y ∧ d = .tuple [x, y]
  | [], _, _, _, h => by simp [zipD] at h
  | _ :: _, [], _, _, h => by simp [zipD] at h
  | x :: xs, y :: ys, 0, d, h => by
    simp [zipD] at h
    exact ⟨x, y, rfl, rfl, h.symm⟩
  | x :: xs, y :: ys, i + 1, d, h => by
    obtain ⟨a, b, h1, h2, h3⟩ := zipD_get (xs := xs) (ys := ys) (i := i) (by simpa [zipD] using h)
    exact ⟨a, b, by simpa using h1, by simpa using h2, h3⟩
theorem zipD_len : ∀ (xs ys : List PyData), (zipD xs ys).length = min xs.length ys.length
  | [], _ => by simp [zipD]
  | _ :: _, [] => by simp [zipD]
  | x :: xs, y :: ys => by
    show (zipD xs ys).length + 1 = min (xs.length + 1) (ys.length + 1)
    rw [zipD_len xs ys]; omega
/-- a new pair that a walk hands over -/
theorem pair_new {T : Addr} {u w : V} {x y : PyData} {H' : Hp} (c : Cells K G H As κ) (hT : H T = none) (hu : Rp K G u x) (hw : Rp K G w y) : ∃ G'', Step G H As G'' (upd H T (.tup [u, w])) As ∧ Cells K G'' (upd H T (.tup [u, w])) As κ ∧ Rp K G'' (.ref T) (.tuple [x, y]) := by
  have eG : Ex G (upd G T (.tup [u, w])) := Ex.new (c.ext.free hT)
  exact ⟨upd G T (.tup [u, w]), Step.laid c.ext hT, c.laid hT, .tup upd_same (.cons (Rp.mono eG _ _ hu) (.cons (Rp.mono eG _ _ hw) .nil))⟩
theorem walk_zipL {r2 : R} {a b : Addr} {xs ys : List PyData} (i1 : It K G As (.ref a) r) (i2 : It K G As (.ref b) r2) : WalkOk K G As (Itz K a b) (zipD xs ys) fun κ' => val κ' r = some (.list xs) ∧ val κ' r2 = some (.list ys) := by
  intro G' H' As' κ' e p c ⟨h, h'⟩
  obtain ⟨_, vs, ev, h1, h2⟩ := (i1.mono e p).vw c h
  cases ev
  obtain ⟨_, ws, ev, h3, h4⟩ := (i2.mono e p).vw c h'
  cases ev
  have l1 := h2.len
  have l2 := h4.len
  refine ⟨fun i hi => ?_, ⟨vs, ws, sql_of h1, sql_of h3, ?_⟩, fun i v H'' x y hx => ?_⟩
  · rw [zipD_len] at hi
    have q1 : i < vs.length := by omega
    have q2 : i < ws.length := by omega
    exact ⟨vs, ws, _, _, sql_of h1, sql_of h3, List.getElem?_eq_getElem q1, List.getElem?_eq_getElem q2⟩
  · rw [zipD_len]; omega
  · obtain ⟨T, u, w, rfl, hT, rfl, f1, f2⟩ := y
    obtain ⟨d1, e1, r1⟩ := h2.getV (f1 vs (sql_of h1))
    obtain ⟨d2, e2, r2⟩ := h4.getV (f2 ws (sql_of h3))
    obtain ⟨x1, x2, g1, g2, rfl⟩ := zipD_get hx
    rw [e1] at g1; cases g1
    rw [e2] at g2; cases g2
    exact pair_new (H' := H') c hT r1 r2
theorem walk_zipT {r2 : R} {a b : Addr} {xs ys : List PyData} (i1 : It K G As (.ref a) r) (i2 : It K G As (.ref b) r2) : WalkOk K G As (RZ.ItzT K a b) (zipD xs ys) fun κ' => val κ' r = some (.tuple xs) ∧ val κ' r2 = some (.tuple ys) := by
  intro G' H' As' κ' e p c ⟨h, h'⟩
  obtain ⟨_, vs, ev, h1, h2⟩ := (i1.mono e p).vw c h |>.tup c.ext
  cases ev
  obtain ⟨_, ws, ev, h3, h4⟩ := (i2.mono e p).vw c h' |>.tup c.ext
  cases ev
  have l1 := h2.len
  have l2 := h4.len
  refine ⟨fun i hi => ?_, ⟨vs, ws, h1, h3, ?_⟩, fun i v H'' x y hx => ?_⟩
  · rw [zipD_len] at hi
    have q1 : i < vs.length := by omega
    have q2 : i < ws.length := by omega
    exact ⟨vs, ws, _, _, h1, h3, List.getElem?_eq_getElem q1, List.getElem?_eq_getElem q2⟩
  · rw [zipD_len]; omega
  · obtain ⟨T, u, w, rfl, hT, rfl, f1, f2⟩ := y
    obtain ⟨d1, e1, r1⟩ := h2.getV (f1 vs h1)
    obtain ⟨d2, e2, r2⟩ := h4.getV (f2 ws h3)
    obtain ⟨x1, x2, g1, g2, rfl⟩ := zipD_get hx
    rw [e1] at g1; cases g1
    rw [e2] at g2; cases g2
    exact pair_new (H' := H') c hT r1 r2
def enumD : Nat → List PyData → List PyData
  | _, [] => []
  | i, x :: xs => .tuple [.int i, x] :: enumD (i + 1) xs
end
section
variable {X : Cx} {tg l : Expr} {we : DTE} {pos p : Pos}
theorem di_seq (he : DE X l we) : DI X tg l (wSq we) := by
  obtain ⟨t, pt, he⟩ := he
  refine ⟨_, pi_seq pt, fun G H As σ ρ κ P R c p w k => ?_⟩
  refine he G H As σ ρ κ _ _ c p w fun v r G1 H1 As1 κ1 s1 c1 p1 i1 w1 => ?_
  obtain ⟨G1', s1', c1', p1', i1', _⟩ := settle s1 c1 p1 i1
  obtain ⟨x, ex, w2⟩ := w1.ex
  cases x with
  | list xs =>
    obtain ⟨a, vs, rfl, h1, h2⟩ := i1'.vw c1' ex
    exact .inl ⟨a, vs, rfl, sql_of h1, k _ xs _ G1' H1 As1 κ1 s1' c1' p1' (walk_list i1') ex w2⟩
  | tuple xs =>
    obtain ⟨a, vs, rfl, h1, h2⟩ := i1'.vw c1' ex |>.tup c1'.ext
    exact .inr (.inl ⟨a, vs, rfl, h1, k _ xs _ G1' H1 As1 κ1 s1' c1' p1' (walk_tuple i1') ex w2⟩)
  | str z =>
    have h := i1'.vw c1' ex
    cases h
    exact .inr (.inr ⟨z, rfl, k _ _ _ G1' H1 As1 κ1 s1' c1' p1' walk_str trivial w2⟩)
  | none => exact w2.elim
  | bool _ => exact w2.elim
  | int _ => exact w2.elim
  | dict _ => exact w2.elim
def wRng1 (wa : DTA) : DTI := fun ρ κ P => wa ρ κ fun rs κ1 => match rs with
  | [.d (.int n)] => -(2 ^ 62) ≤ n ∧ n < 2 ^ 62 ∧ P ((List.range n.toNat).map fun (i : Nat) => .int (0 + (i : Int))) (fun _ => True) κ1
  | _ => False
def wRev (wa : DTA) : DTI := fun ρ κ P => wa ρ κ fun rs κ1 => match rs with
  | [r] => Opt (val κ1 r) fun x => match x with
    | .list xs => P xs.reverse (fun κ' => val κ' r = some (.list xs)) κ1
    | _ => False
  | _ => False
def wEnum (wa : DTA) : DTI := fun ρ κ P => wa ρ κ fun rs κ1 => match rs with
  | [r] => Opt (val κ1 r) fun x => match x with
    | .list xs => P (enumD 0 xs) (fun κ' => val κ' r = some (.list xs)) κ1
    | .tuple xs => P (enumD 0 xs) (fun κ' => val κ' r = some (.tuple xs)) κ1
    | _ => False
  | _ => False
def wZip (wa : DTA) : DTI := fun ρ κ P => wa ρ κ fun rs κ1 => match rs with
  | [r, q] => Opt (val κ1 r) fun x => Opt (val κ1 q) fun y => match x, y with
    | .list xs, .list ys => P (zipD xs ys) (fun κ' => val κ' r = some (.list xs) ∧ val κ' q = some (.list ys)) κ1
    | .tuple xs, .tuple ys => P (zipD xs ys) (fun κ' => val κ' r = some (.tuple xs) ∧ val κ' q = some (.tuple ys)) κ1
    | _, _ => False
  | _ => False
variable {wr : DTA} {a b : Expr}
theorem di_range1 (hm : X.mg "range" = none) (ha : DA X [a] wr) (hg : Gl X "range" := by rfl) (hs : starEach [a] X.env = [(false, eval a X.env)] := by rfl) : DI X tg (.Call (.Name "range" p) [a] [] pos) (wRng1 wr) := by
  obtain ⟨t, pt, ha⟩ := ha
  refine ⟨_, pi_range1 hg hm pt hs, fun G H As σ ρ κ P R c p w k => ?_⟩
  refine ha G H As σ ρ κ _ _ c p w fun vs rs G1 H1 As1 κ1 s1 c1 p1 i1 l1 w1 => ?_
  split at w1
  · rename_i n
    obtain ⟨h1, h2, w1⟩ := w1
    match vs, i1 with
    | [_], .cons z .nil =>
      have z : Rp X.K G1 _ (.int n) := z
      cases z
      exact ⟨n, rfl, h1, h2, k _ _ _ G1 H1 As1 κ1 s1 c1 p1 walk_range trivial w1⟩
  · exact w1.elim
theorem di_zip {elts : List Expr} {kk : Nat} {tpos : Pos} (hm : X.mg "zip" = none) (ha : DA X [a, b] wr) (hg : Gl X "zip" := by rfl) (hs : starEach [a, b] X.env = (false, eval a X.env) :: starEach [b] X.env := by rfl) (hpl : (backTo pos (starEach [b] X.env)).any (·.1) = false := by rfl) :
    DI X (.Tuple elts kk tpos) (.Call (.Name "zip" p) [a, b] [] pos) (wZip wr) := by
  obtain ⟨t, pt, ha⟩ := ha
  refine ⟨_, RZ.pi_zipA hg hm pt hs hpl, fun G H As σ ρ κ P R c p w k => ?_⟩
  refine ha G H As σ ρ κ _ _ c p w fun vs rs G1 H1 As1 κ1 s1 c1 p1 i1 l1 w1 => ?_
  split at w1
  · rename_i r q
    obtain ⟨x, ex, w2⟩ := w1.ex
    obtain ⟨y, ey, w2⟩ := w2.ex
    match vs, i1 with
    | [_, _], .cons z1 (.cons z2 .nil) =>
      split at w2
      · obtain ⟨a, ws, rfl, h1, h2⟩ := z1.vw c1 ex
        obtain ⟨b, us, rfl, h3, h4⟩ := z2.vw c1 ey
        exact ⟨a, b, ws, us, rfl, .inl ⟨sql_of h1, sql_of h3, k _ _ _ G1 H1 As1 κ1 s1 c1 p1 (walk_zipL z1 z2) ⟨ex, ey⟩ w2⟩⟩
      · obtain ⟨a, ws, rfl, h1, h2⟩ := z1.vw c1 ex |>.tup c1.ext
        obtain ⟨b, us, rfl, h3, h4⟩ := z2.vw c1 ey |>.tup c1.ext
        exact ⟨a, b, ws, us, rfl, .inr ⟨h1, h3, k _ _ _ G1 H1 As1 κ1 s1 c1 p1 (walk_zipT z1 z2) ⟨ex, ey⟩ w2⟩⟩
      · exact w2.elim
  · exact w1.elim
end
def forL (ok : Kap → Prop) (g : DTG) (b : DTS) (E : DEnds) : List PyData → Rho → Kap → Prop
  | [], ρ, κ => E.nx ρ κ
  | x :: xs, ρ, κ => g (.d x) ρ κ fun ρ1 κ1 => b { nx := fun ρ2 κ2 => ok κ2 ∧ forL ok g b E xs ρ2 κ2, rt := E.rt, bk := E.nx, ct := fun ρ2 κ2 => ok κ2 ∧ forL ok g b E xs ρ2 κ2 } ρ1 κ1
def wFor (wi : DTI) (g : DTG) (b : DTS) : DTS := fun E ρ κ => wi ρ κ fun xs ok κ1 => forL ok g b E xs ρ κ1
section
variable {X : Cx} {tg it c : Expr} {body : List Stmt} {wi : DTI} {g : DTG} {b : DTS} {js : List Nat} {pos : Pos} {wt : DTT}
theorem ds_for (hp : PassesOwn (model X.prog X.w) X.A X.env X.xe) (hc : X.calm = true) (hi : DI X tg it wi) (hg : DG X tg js g) (hb : DSs X body b) (hs : ∀ x, foldedSetIterable it X.env x = pure x := by intro _; rfl) : DS X (.For tg it body [] pos) (wFor wi g b) := by
  obtain ⟨ti, pi, hi⟩ := hi
  obtain ⟨tg', pg, hg⟩ := hg
  obtain ⟨tb, pb, hb⟩ := hb
  refine ⟨_, ps_for hp hc pi pg pb hs, fun G H As σ ρ κ E D cc p w r => ?_⟩
  refine hi G H As σ ρ κ _ _ cc p w fun J xs ok G1 H1 As1 κ1 s1 c1 p1 wk o1 w1 => ?_
  refine ⟨fun i m σ' H' => i + m = xs.length ∧ ∃ G' As' ρ' κ', Step G1 H1 As1 G' H' As' ∧ Cells X.K G' H' As' κ' ∧ Places X.K G' As' σ' ρ' ∧ ok κ' ∧ forL ok g b E (xs.drop i) ρ' κ',
    ⟨xs.length, by omega, G1, As1, ρ, κ1, Step.refl, c1, p1, o1, w1⟩, fun i m σ' H' hW => ?_⟩
  obtain ⟨em, G', As', ρ', κ', s', c', p', o', f⟩ := hW
  obtain ⟨wgo, wst, wyl⟩ := wk G' H' As' κ' s'.ex s'.pre c' o'
  cases m with
  | zero =>
    have ei : i = xs.length := by omega
    subst ei
    rw [List.drop_length] at f
    exact .inl ⟨wst, r.nx _ _ G' H' As' κ' (s1.trans s') c' p' f⟩
  | succ m =>
    have hi' : i < xs.length := by omega
    rw [List.drop_eq_getElem_cons hi'] at f
    refine .inr ⟨wgo i hi', fun σ2 H2 => ∃ G2 As2 ρ2 κ2, Step G1 H1 As1 G2 H2 As2 ∧ Cells X.K G2 H2 As2 κ2 ∧ Places X.K G2 As2 σ2 ρ2 ∧ ok κ2 ∧ forL ok g b E (xs.drop (i + 1)) ρ2 κ2,
      fun σ2 H2 ⟨G2, As2, ρ2, κ2, q⟩ => ⟨m, by omega, by omega, G2, As2, ρ2, κ2, q⟩, fun v H2 hy => ?_⟩
    obtain ⟨G2, s2, c2, r2⟩ := wyl i v H2 _ hy (List.getElem?_eq_getElem hi')
    refine hg G2 H2 As' σ' ρ' κ' v (.d xs[i]) _ _ c2 (p'.step s2) r2 f fun σ3 ρ3 G3 H3 As3 κ3 _ s3 c3 p3 w3 => ?_
    have st : Step G1 H1 As1 G3 H3 As3 := (s'.trans s2).trans s3
    refine hb G3 H3 As3 σ3 ρ3 κ3 _ _ c3 p3 w3 ⟨fun a b' c d e f' x y z q => ⟨c, e, b', f', st.trans x, y, z, q.1, q.2⟩, fun a b' c d e f' x y z q => r.nx a b' c d e f' ((s1.trans st).trans x) y z q, fun a b' c d e f' x y z q => ⟨c, e, b', f', st.trans x, y, z, q.1, q.2⟩, fun a b' c d e f' x y z q => r.rt a b' c d e f' ((s1.trans st).trans x) y (z.back (s1.trans st)) q⟩
end
def wipeR (ρ : Rho) : List Nat → Rho
  | [] => ρ
  | v :: vs => (wipeR ρ vs).set v none
theorem wipeR_some {ρ : Rho} {i : Nat} {x : R} : ∀ {vs : List Nat}, (wipeR ρ vs)[i]? = some (some x) → ρ[i]? = some (some x) ∧ i ∉ vs
  | [], h => ⟨h, by simp⟩
  | v :: vs, h => by
    unfold wipeR at h
    by_cases hi : v = i
    · subst hi
      by_cases hv : v < (wipeR ρ vs).length
      · rw [List.getElem?_set_self hv] at h; cases h
      · rw [List.getElem?_eq_none (by rw [List.length_set]; omega)] at h; cases h
    · rw [List.getElem?_set_ne hi] at h
      obtain ⟨h1, h2⟩ := wipeR_some h
      exact ⟨h1, by simp only [List.mem_cons, not_or]; exact ⟨fun e => hi e.symm, h2⟩⟩
theorem wipeR_len (ρ : Rho) : ∀ vs : List Nat, (wipeR ρ vs).length = ρ.length
  | [] => rfl
  | v :: vs => by unfold wipeR; rw [List.length_set, wipeR_len ρ vs]
theorem Places.wipe {K : PySem.W.Frag} {G : Hp} {As : List Addr} {σ : L2.St} {ρ : Rho} (p : Places K G As σ ρ) (vs : List Nat) : Places K G As (wipe σ vs) (wipeR ρ vs) :=
  ⟨by rw [wipe_length, wipeR_len]; exact p.len, fun i r h => by
    obtain ⟨h1, h2⟩ := wipeR_some h
    obtain ⟨v, e, q⟩ := p.ok i r h1
    exact ⟨v, by rw [wipe_out h2]; exact e, q⟩⟩
def lcL (ok : Kap → Prop) (g : DTG) (t : DTT) (e : DTE) (ρw : Rho) (P : R → Kap → Prop) : List PyData → List PyData → Kap → Prop
  | [], acc, κ => P (.f acc) κ
  | x :: xs, acc, κ => g (.d x) ρw κ fun ρ1 κ1 => t ρ1 κ1 fun b κ2 => if b = true then e ρ1 κ2 fun r κ3 => Opt (dat κ3 r.st) fun q => acc.length < sizeLine ∧ ok q.2 ∧ lcL ok g t e ρw P xs (acc ++ [q.1]) q.2 else ok κ2 ∧ lcL ok g t e ρw P xs acc κ2
def wLc (wi : DTI) (g : DTG) (t : DTT) (e : DTE) (vs : List Nat) : DTE := fun ρ κ P => wi ρ κ fun xs ok κ1 => lcL ok g t e (wipeR ρ vs) P xs [] κ1
def wYes : DTT := fun _ κ P => P true κ
def DTs (X : Cx) (ifs : List Expr) (w : DTT) : Prop := ∃ t, PTs X ifs t ∧ ∀ (G H : Hp) (As : List Addr) (σ : L2.St) (ρ : Rho) (κ : Kap) (P : Bool → Kap → Prop) (Q : Bool → Hp → Prop), Cells X.K G H As κ → Places X.K G As σ ρ → w ρ κ P →
  (∀ b G' H' As' κ', Step G H As G' H' As' → Cells X.K G' H' As' κ' → Places X.K G' As' σ ρ → P b κ' → Q b H') → t σ H Q
section
variable {X : Cx}
theorem dts_nil : DTs X [] wYes := ⟨_, pts_nil, fun G H As σ ρ κ P Q c p w k => k true G H As κ Step.refl c p w⟩
theorem dts_one {c : Expr} {wt : DTT} (h : DT X c wt) : DTs X [c] wt := by
  obtain ⟨t, pt, h⟩ := h
  exact ⟨_, pts_one pt, h⟩
/-- where a block's parts are read: its context, whatever it is -/
structure BI where
  s : Shared
  H : Hp
  C : Addr
  cl : List (Str × Addr)
  fp : List Addr
abbrev BI.cx (i : BI) (X : Cx) (scope : Scope) : Cx := X.blk i.s i.H scope (compEnvC scope i.cl i.C X.env) i.fp
/-- one reading for all contexts -/
theorem uni_G {scope : Scope} {tg : Expr} {js : List Nat} {w : DTG} (h : ∀ i : BI, DG (i.cx X scope) tg js w) : ∃ g, (∀ i : BI, PG (i.cx X scope) tg g) ∧ ∀ (G H : Hp) (As : List Addr) (σ : L2.St) (ρ : Rho) (κ : Kap) (v : V) (r : R) (P : Rho → Kap → Prop) (Q : L2.St → Hp → Prop), Cells X.K G H As κ → Places X.K G As σ ρ → It X.K G As v r → w r ρ κ P →
    (∀ σ' ρ' G' H' As' κ', Wr js σ σ' → Step G H As G' H' As' → Cells X.K G' H' As' κ' → Places X.K G' As' σ' ρ' → P ρ' κ' → Q σ' H') → g v σ H Q := by
  obtain ⟨f, hf⟩ := Classical.skolem.mp h
  exact ⟨fun v σ H Q => ∀ i, f i v σ H Q, fun i => ⟨fun pins s σ H v u Q I r q => (hf i).1.run pins s σ H v u Q I r (q i)⟩, fun G H As σ ρ κ v r P Q c p i0 w k i => (hf i).2 G H As σ ρ κ v r P Q c p i0 w k⟩
theorem uni_T {scope : Scope} {ifs : List Expr} {w : DTT} (h : ∀ i : BI, DTs (i.cx X scope) ifs w) : ∃ t, (∀ i : BI, PTs (i.cx X scope) ifs t) ∧ ∀ (G H : Hp) (As : List Addr) (σ : L2.St) (ρ : Rho) (κ : Kap) (P : Bool → Kap → Prop) (Q : Bool → Hp → Prop), Cells X.K G H As κ → Places X.K G As σ ρ → w ρ κ P →
    (∀ b G' H' As' κ', Step G H As G' H' As' → Cells X.K G' H' As' κ' → Places X.K G' As' σ ρ → P b κ' → Q b H') → t σ H Q := by
  obtain ⟨f, hf⟩ := Classical.skolem.mp h
  exact ⟨fun σ H Q => ∀ i, f i σ H Q, fun i => ⟨fun pins s σ H Q I q => (hf i).1.run pins s σ H Q I (q i)⟩, fun G H As σ ρ κ P Q c p w k i => (hf i).2 G H As σ ρ κ P Q c p w k⟩
theorem uni_E {scope : Scope} {e : Expr} {w : DTE} (h : ∀ i : BI, DE (i.cx X scope) e w) : ∃ t, (∀ i : BI, PE (i.cx X scope) e t) ∧ ∀ (G H : Hp) (As : List Addr) (σ : L2.St) (ρ : Rho) (κ : Kap) (P : R → Kap → Prop) (Q : VK), Cells X.K G H As κ → Places X.K G As σ ρ → w ρ κ P →
    (∀ v r G' H' As' κ', Step G H As G' H' As' → Cells X.K G' H' As' κ' → Places X.K G' As' σ ρ → Rv X.K H G' H' As' v r → P r κ' → Q v H') → t σ H Q := by
  obtain ⟨f, hf⟩ := Classical.skolem.mp h
  exact ⟨fun σ H Q => ∀ i, f i σ H Q, fun i => ⟨fun pins s σ H Q I q => (hf i).1.run pins s σ H Q I (q i)⟩, fun G H As σ ρ κ P Q c p w k i => (hf i).2 G H As σ ρ κ P Q c p w k⟩
variable {elt tg iter : Expr} {ifs : List Expr} {scope : Scope} {own : List (Str × Nat)} {pos : Pos} {wi : DTI} {g : DTG} {wt : DTT} {we : DTE} {js : List Nat}
theorem lc_reads {ti : TI} {gg : TG} {tt : TT} {te : TE} {vs : List Nat} (hj : ∀ j, j ∈ js → j ∈ vs)
    (hi : ∀ (G H : Hp) (As : List Addr) (σ : L2.St) (ρ : Rho) (κ : Kap) (P : List PyData → (Kap → Prop) → Kap → Prop) (R : L2.It → Hp → Prop), Cells X.K G H As κ → Places X.K G As σ ρ → wi ρ κ P → (∀ J xs ok G' H' As' κ', Step G H As G' H' As' → Cells X.K G' H' As' κ' → Places X.K G' As' σ ρ → WalkOk X.K G' As' J xs ok → ok κ' → P xs ok κ' → R J H') → ti σ H R)
    (hg : ∀ (G H : Hp) (As : List Addr) (σ : L2.St) (ρ : Rho) (κ : Kap) (v : V) (r : R) (P : Rho → Kap → Prop) (Q : L2.St → Hp → Prop), Cells X.K G H As κ → Places X.K G As σ ρ → It X.K G As v r → g r ρ κ P → (∀ σ' ρ' G' H' As' κ', Wr js σ σ' → Step G H As G' H' As' → Cells X.K G' H' As' κ' → Places X.K G' As' σ' ρ' → P ρ' κ' → Q σ' H') → gg v σ H Q)
    (ht : ∀ (G H : Hp) (As : List Addr) (σ : L2.St) (ρ : Rho) (κ : Kap) (P : Bool → Kap → Prop) (Q : Bool → Hp → Prop), Cells X.K G H As κ → Places X.K G As σ ρ → wt ρ κ P → (∀ b G' H' As' κ', Step G H As G' H' As' → Cells X.K G' H' As' κ' → Places X.K G' As' σ ρ → P b κ' → Q b H') → tt σ H Q)
    (he : ∀ (G H : Hp) (As : List Addr) (σ : L2.St) (ρ : Rho) (κ : Kap) (P : R → Kap → Prop) (Q : VK), Cells X.K G H As κ → Places X.K G As σ ρ → we ρ κ P → (∀ v r G' H' As' κ', Step G H As G' H' As' → Cells X.K G' H' As' κ' → Places X.K G' As' σ ρ → Rv X.K H G' H' As' v r → P r κ' → Q v H') → te σ H Q)
    (G H : Hp) (As : List Addr) (σ : L2.St) (ρ : Rho) (κ : Kap) (P : R → Kap → Prop) (Q : VK) (c : Cells X.K G H As κ) (p : Places X.K G As σ ρ) (w : wLc wi g wt we vs ρ κ P)
    (k : ∀ v r G' H' As' κ', Step G H As G' H' As' → Cells X.K G' H' As' κ' → Places X.K G' As' σ ρ → Rv X.K H G' H' As' v r → P r κ' → Q v H') : tLc ti gg tt te vs σ H Q := by
  refine hi G H As σ ρ κ _ _ c p w fun J xs ok G1 H1 As1 κ1 s1 c1 p1 wk o1 w1 => fun D hD => ?_
  have gD1 : G1 D = none := c1.ext.free hD
  have nD1 : D ∉ As1 := c1.notin hD
  -- the list that is made stands at D, is known to nobody, and only the turns change it
  let W : Nat → Hp → Prop := fun i H' => ∃ G' As' κ' acc vs', Step G1 H1 As1 G' H' As' ∧ Cells X.K G' H' As' κ' ∧ G' D = none ∧ D ∉ As' ∧ H' D = some (.lst vs') ∧ RpA X.K G' vs' acc ∧ ok κ' ∧ lcL ok g wt we (wipeR ρ vs) P (xs.drop i) acc κ'
  -- a step keeps the list at D as it is
  have keep : ∀ {Ga Ha Asa Gb Hb Asb} {vs' : List V}, Step Ga Ha Asa Gb Hb Asb → Ga D = none → D ∉ Asa → Ha D = some (.lst vs') → Gb D = none ∧ D ∉ Asb ∧ Hb D = some (.lst vs') := fun s g0 n0 h0 => by
    refine ⟨?_, fun hm => ?_, s.fr D _ n0 (wo_lst _).1 h0⟩
    · rcases s.gn D g0 with z | z | z | ⟨ys, z⟩
      · exact z
      · rw [h0] at z; cases z
      · exact absurd z n0
      · have q := s.fr D _ n0 (wo_lst _).1 h0
        rw [z] at q
        cases q
    · rcases s.new D hm with z | z
      · exact n0 z
      · rw [h0] at z; cases z
  -- a turn's end: the item goes onto the list
  have grow : ∀ {G' H' As' κ' acc vs' v y i}, Step G1 H1 As1 G' H' As' → Cells X.K G' H' As' κ' → G' D = none → D ∉ As' → H' D = some (.lst vs') → RpA X.K G' vs' acc → Rp X.K G' v y → ok κ' → lcL ok g wt we (wipeR ρ vs) P (xs.drop i) (acc ++ [y]) κ' → W i (upd H' D (.lst (vs' ++ [v]))) := fun {G' H' As' κ' acc vs' v y i} s c g0 n0 h0 rp rv o f => by
    refine ⟨G', As', κ', acc ++ [y], vs' ++ [v], ⟨s.ex, s.pre, s.new, fun b u hb nt e => ?_, fun b e => ?_, s.gnU h0 (wo_lst _)⟩, ⟨c.ext.mut g0, c.len, c.nd, fun a ha => ?_, fun j x a e1 e2 => ?_, c.tab.put (wo_at h0 (wo_lst _))⟩, g0, n0, upd_same, rp.app (.cons rv .nil), o, f⟩
    · by_cases q : b = D
      · subst q; rw [hD] at e; cases e
      · rw [upd_ne q]; exact s.fr b u hb nt e
    · by_cases q : b = D
      · subst q; rw [upd_same] at e; cases e
      · rw [upd_ne q] at e; exact s.dom b e
    · by_cases q : a = D
      · subst q; exact ⟨_, upd_same⟩
      · rw [upd_ne q]; exact c.al a ha
    · have z := c.ok j x a e1 e2
      cases x with
      | l ds =>
        obtain ⟨z1, ws, z2, z3⟩ := z
        have ne : a ≠ D := fun q => n0 (by rw [← q]; exact List.mem_of_getElem? e2)
        exact ⟨z1, ws, by rw [upd_ne ne]; exact z2, z3⟩
      | m ds =>
        obtain ⟨z1, ws, z2, z3⟩ := z
        have ne : a ≠ D := fun q => n0 (by rw [← q]; exact List.mem_of_getElem? e2)
        exact ⟨z1, ws, by rw [upd_ne ne]; exact z2, z3⟩
      | z x => exact z
      | k es => exact z
      | n nw ds =>
        obtain ⟨z1, ws, z2, z3⟩ := z
        have ne : a ≠ D := fun q => n0 (by rw [← q]; exact List.mem_of_getElem? e2)
        exact ⟨z1, ws, by rw [upd_ne ne]; exact z2, z3⟩
      | e ks =>
        obtain ⟨z1, ws, z2, z3⟩ := z
        have ne : a ≠ D := fun q => n0 (by rw [← q]; exact List.mem_of_getElem? e2)
        exact ⟨z1, ws, by rw [upd_ne ne]; exact z2, z3⟩
      | x u =>
        obtain ⟨z1, z2, z3⟩ := z
        have ne : a ≠ D := fun q => n0 (by rw [← q]; exact List.mem_of_getElem? e2)
        exact ⟨z1, by rw [upd_ne ne]; exact z2, z3⟩
  refine ⟨fun i m H' => i + m = xs.length ∧ W i H', ⟨xs.length, by omega, G1, As1, κ1, [], [], Step.fresh hD, c1.fresh hD, gD1, nD1, upd_same, .nil, o1, w1⟩, fun i m H' hW => ?_⟩
  obtain ⟨em, G', As', κ', acc, vs', s', c', g', n', h', rp, o', f⟩ := hW
  obtain ⟨wgo, wst, wyl⟩ := wk G' H' As' κ' s'.ex s'.pre c' o'
  cases m with
  | zero =>
    have ei : i = xs.length := by omega
    subst ei
    rw [List.drop_length] at f
    have st := s1.trans s'
    exact .inl ⟨wst, k _ (.f acc) G' H' As' κ' st c' (p.step st) ⟨D, vs', rfl, s1.dom D hD, g', n', h', rp⟩ f⟩
  | succ m =>
    have hi' : i < xs.length := by omega
    rw [List.drop_eq_getElem_cons hi'] at f
    refine .inr ⟨wgo i hi', W (i + 1), fun H2 q => ⟨m, by omega, by omega, q⟩, fun v H2 hy => ?_⟩
    obtain ⟨G2, s2, c2, r2⟩ := wyl i v H2 _ hy (List.getElem?_eq_getElem hi')
    obtain ⟨g2, n2, h2⟩ := keep s2 g' n' h'
    refine hg G2 H2 As' (wipe σ vs) (wipeR ρ vs) κ' v (.d xs[i]) _ _ c2 ((p.step ((s1.trans s').trans s2)).wipe vs) r2 f fun σ3 ρ3 G3 H3 As3 κ3 a3 s3 c3 p3 w3 => ⟨?_, ?_⟩
    · have hw : wipe (wipe σ vs) vs = wipe σ vs := by
        refine List.ext_getElem? fun j => ?_
        by_cases hj : j ∈ vs
        · rw [wipe_in hj, wipe_in hj, wipe_length]
        · rw [wipe_out hj]
      rw [← hw]
      have q := a3.wipe hj
      rw [q]
    · obtain ⟨g3, n3, h3⟩ := keep s3 g2 n2 h2
      refine ht G3 H3 As3 σ3 ρ3 κ3 _ _ c3 p3 w3 fun z G4 H4 As4 κ4 s4 c4 p4 w4 => ?_
      obtain ⟨g4, n4, h4⟩ := keep s4 g3 n3 h3
      have st4 : Step G1 H1 As1 G4 H4 As4 := ((s'.trans s2).trans s3).trans s4
      cases z with
      | false =>
        rw [if_neg (by decide)] at w4 ⊢
        exact ⟨G4, As4, κ4, acc, vs', st4, c4, g4, n4, h4, RpA.mono (((s2.trans s3).trans s4)).ex _ _ rp, w4.1, w4.2⟩
      | true =>
        rw [if_pos rfl] at w4 ⊢
        refine he G4 H4 As4 σ3 ρ3 κ4 _ _ c4 p4 w4 fun v5 r5 G5 H5 As5 κ5 s5 c5 p5 i5 w5 => ?_
        obtain ⟨G5', s5', c5', p5', i5', _⟩ := settle s5 c5 p5 i5
        obtain ⟨⟨y, κ6⟩, e6, hl, ho, w6⟩ := w5.ex
        obtain ⟨G6, s6, c6, r6⟩ := dat_ok c5' i5' e6
        have st6 := s5'.trans s6
        obtain ⟨g6, n6, h6⟩ := keep st6 g4 n4 h4
        have rp6 := RpA.mono ((((s2.trans s3).trans s4)).trans st6).ex _ _ rp
        refine ⟨vs', h6, by rw [rp6.len]; exact hl, ?_⟩
        exact grow (st4.trans st6) c6 g6 n6 h6 rp6 r6 ho w6
theorem de_lc (hc : X.calm = true) (hN : X.N.Nodup) (hi : DI X tg iter wi) (ok : BlkOk X.N X.env.scope scope own) (hg : ∀ i : BI, DG (i.cx X scope) tg js g) (ht : ∀ i : BI, DTs (i.cx X scope) ifs wt) (he : ∀ i : BI, DE (i.cx X scope) elt we)
    (hj : ∀ j, j ∈ js → j ∈ own.map (·.2) := by decide) (hs : ∀ x, foldedSetIterable iter X.env x = pure x := by intro _; rfl) : DE X (.ListComp elt [⟨tg, iter, ifs, 0⟩] scope pos) (wLc wi g wt we (own.map (·.2))) := by
  obtain ⟨ti, pi, hi⟩ := hi
  obtain ⟨gg, pg, hg⟩ := uni_G hg
  obtain ⟨tt, pt, ht⟩ := uni_T ht
  obtain ⟨te, pe, he⟩ := uni_E he
  exact ⟨_, pe_lc hc hN pi ok (fun s H C cl fp => pg ⟨s, H, C, cl, fp⟩) (fun s H C cl fp => pt ⟨s, H, C, cl, fp⟩) (fun s H C cl fp => pe ⟨s, H, C, cl, fp⟩) hs, lc_reads hj hi hg ht he⟩
/-- name = [..] -/
theorem ds_setLc (m : Bool) (i : Nat) {y : Str} {py spos : Pos} (hc : X.calm = true) (hN : X.N.Nodup) (hsw : swapsWith (.ListComp elt [⟨tg, iter, ifs, 0⟩] scope pos) (some (.Name y py)) spos.line X.env = pure true) (hi : DI X tg iter wi) (ok : BlkOk X.N X.env.scope scope own) (hg : ∀ i : BI, DG (i.cx X scope) tg js g) (ht : ∀ i : BI, DTs (i.cx X scope) ifs wt) (he : ∀ i : BI, DE (i.cx X scope) elt we)
    (hy : X.N[i]? = some y := by rfl) (hyl : X.env.scope.names.lookup y = some .local := by rfl) (hj : ∀ j, j ∈ js → j ∈ own.map (·.2) := by decide) (hs : ∀ x, foldedSetIterable iter X.env x = pure x := by intro _; rfl) :
    DS X (.Assign [.Name y py] (.ListComp elt [⟨tg, iter, ifs, 0⟩] scope pos) spos) (wSet m i (wLc wi g wt we (own.map (·.2)))) := by
  obtain ⟨ti, pi, hi⟩ := hi
  obtain ⟨gg, pg, hg⟩ := uni_G hg
  obtain ⟨tt, pt, ht⟩ := uni_T ht
  obtain ⟨te, pe, he⟩ := uni_E he
  refine ⟨_, ps_setLc hc hN hy hyl hsw pi ok (fun s H C cl fp => pg ⟨s, H, C, cl, fp⟩) (fun s H C cl fp => pt ⟨s, H, C, cl, fp⟩) (fun s H C cl fp => pe ⟨s, H, C, cl, fp⟩) hs, fun G H As σ ρ κ E D c p w r => ?_⟩
  refine lc_reads hj hi hg ht he G H As σ ρ κ _ _ c p w fun v q G1 H1 As1 κ1 s1 c1 p1 i1 w1 => ?_
  obtain ⟨G1', As1', s1', c1', i1', e1, e2⟩ := sto_ok m s1 c1 i1
  exact r.nx _ _ G1' H1 As1' _ s1' c1' ((p1.mono e1 e2).put i i1') w1
end
def wAppend (wo wa : DTE) : DTE := fun ρ κ P => wo ρ κ fun ro κ1 => (match ro with
  | .c k => (∃ zs, κ1[k]? = some (.l zs)) ∧ wa ρ κ1 fun r κ2 => Opt (dat κ2 r.st) fun q => match q.2[k]? with
    | some (.l xs) => xs.length < sizeLine ∧ P (.d .none) (q.2.set k (.l (xs ++ [q.1])))
    | _ => False
  | _ => False)
/-- o[i] = v -/
def wSub (wo wi : DTE) : DTG := fun r ρ κ P => Opt (dat κ r) fun q => wo ρ q.2 fun ro κ1 => match ro with
  | .c k => wi ρ κ1 fun ri κ2 => match ri, κ2[k]? with
    | .d (.int i), some (.l xs) => Opt (ixN xs.length i) fun j => P ρ (κ2.set k (.l (xs.set j q.1)))
    | _, _ => False
  | _ => False
section
variable {X : Cx} {o a i : Expr} {wo wa wi : DTE} {apos cpos pos : Pos}
theorem de_append (ho : DE X o wo) (ha : DE X a wa) (hbase : attributeBase o "append" X.env (eval o X.env) = eval o X.env := by rfl)
    (hfew : ((backTo cpos (starEach [a] X.env)).all (fun x => !x.1) && (backToKw cpos (keywordEach [] X.env)).all (fun x => x.1.isSome) && decide (([a] : List Expr).length + ([] : List Keyword).length + (if ([] : List Keyword).isEmpty then 0 else 1) < 30)) = true := by rfl)
    (hline : (apos.endLine == cpos.line) = true := by rfl) (hs : starEach [a] X.env = (false, eval a X.env) :: starEach [] X.env := by rfl) (hplain : (backTo cpos (starEach [] X.env)).any (·.1) = false := by rfl) :
    DE X (.Call (.Attribute o "append" apos) [a] [] cpos) (wAppend wo wa) := by
  obtain ⟨to, po, ho⟩ := ho
  obtain ⟨ta, pa, ha⟩ := ha
  refine ⟨_, pe_bm PySem.F.plainAttrs_list PySem.F.slot_list_append PySem.F.type_list_append mt_append po (pa_cons pa pa_nil hs) hbase hfew hline hs hplain, fun G H As σ ρ κ P Q c p w k => ?_⟩
  refine ho G H As σ ρ κ _ _ c p w fun v1 r1 G1 H1 As1 κ1 s1 c1 p1 i1 w1 => ?_
  cases r1 with
  | c kk =>
    obtain ⟨l, hl, rfl⟩ := i1
    obtain ⟨⟨zs, ez⟩, w1⟩ := w1
    obtain ⟨_, zv, z2, _⟩ := c1.ok kk _ l ez hl
    refine ⟨.inl ⟨rfl, zv, sql_of z2⟩, ?_⟩
    refine ha G1 H1 As1 σ ρ κ1 _ _ c1 p1 w1 fun v2 r2 G2 H2 As2 κ2 s2 c2 p2 i2 w2 => ?_
    obtain ⟨G2', s2', c2', p2', i2', _⟩ := settle s2 c2 p2 i2
    obtain ⟨⟨x, κ3⟩, e3, w3⟩ := w2.ex
    obtain ⟨G3, s3, c3, r3⟩ := dat_ok c2' i2' e3
    have st := s2'.trans s3
    obtain ⟨bs, eb⟩ := st.pre
    have hl3 : As2[kk]? = some l := by rw [eb, List.getElem?_append_left (List.getElem?_eq_some_iff.mp hl).1]; exact hl
    simp only at w3
    cases q : κ3[kk]? with
    | none => rw [q] at w3; exact w3.elim
    | some cc =>
      rw [q] at w3
      cases cc with
      | z y => exact w3.elim
      | m y => exact w3.elim
      | k y => exact w3.elim
      | x y => exact w3.elim
      | n y1 y2 => exact w3.elim
      | e ks => exact w3.elim
      | l xs =>
        obtain ⟨w4, w5⟩ := w3
        obtain ⟨g0, vs, hq, rp⟩ := c3.ok kk _ l q hl3
        refine ⟨l, vs, v2, rfl, rfl, hq, by rw [rp.len]; exact w4, ?_⟩
        have sw : Step G3 H2 As2 G3 (upd H2 l (.lst (vs ++ [v2]))) As2 := Step.write (List.mem_of_getElem? hl3) hq
        have sa := (s1.trans st).trans sw
        exact k .non (.d .none) G3 _ As2 _ sa (c3.write q hl3 (rp.app (.cons r3 .nil))) (p.step sa) .non w5
  | _ => exact w1.elim
theorem dg_sub (ho : DE X o wo) (hi : DE X i wi) (hx : ∀ v, assign (.Subscript o i pos) X.env v = (do
      let ov ← holding [v] (eval o X.env)
      let iv ← holding [v, ov] (eval i X.env)
      standAt pos
      holding [v, ov, iv] (setItem ov iv v)
      release [v, ov, iv] []) := by intro _; rfl) : DG X (.Subscript o i pos) [] (wSub wo wi) := by
  obtain ⟨to, po, ho⟩ := ho
  obtain ⟨ti, pi, hi⟩ := hi
  refine ⟨_, pg_sub po pi set_list hx, fun G H As σ ρ κ v r P Q c p i0 w k => ?_⟩
  obtain ⟨⟨x, κ0⟩, e0, w⟩ := w.ex
  obtain ⟨G0, s0, c0, r0⟩ := dat_ok c i0 e0
  refine ho G0 H As σ ρ κ0 _ _ c0 (p.step s0) w fun v1 r1 G1 H1 As1 κ1 s1 c1 p1 i1 w1 => ?_
  cases r1 with
  | c kk =>
    obtain ⟨l, hl, rfl⟩ := i1
    refine hi G1 H1 As1 σ ρ κ1 _ _ c1 p1 w1 fun v2 r2 G2 H2 As2 κ2 s2 c2 p2 i2 w2 => ?_
    split at w2
    · rename_i o1 o2 ii xs hk
      obtain ⟨j, ej, w3⟩ := w2.ex
      have i2 : Rp X.K G2 v2 (.int ii) := i2
      cases i2
      obtain ⟨bs, eb⟩ := s2.pre
      have hl2 : As2[kk]? = some l := by rw [eb, List.getElem?_append_left (List.getElem?_eq_some_iff.mp hl).1]; exact hl
      obtain ⟨g0, vs, hq, rp⟩ := c2.ok kk _ l hk hl2
      refine ⟨l, vs, ii, j, rfl, rfl, hq, by rw [rp.len]; exact ej, ?_⟩
      have sw : Step G2 H2 As2 G2 (upd H2 l (.lst (vs.set j v))) As2 := Step.write (List.mem_of_getElem? hl2) hq
      have sa := ((s0.trans s1).trans s2).trans sw
      exact k σ ρ G2 _ As2 _ Wr.refl sa (c2.write hk hl2 (rp.set (Rp.mono (s1.trans s2).ex _ _ r0) j)) (p.step sa) w3
    · exact w2.elim
  | _ => exact w1.elim
end
def outR (κ : Kap) (n : Nat) : R → Option R
  | .c k => if k < n then some (.c k) else match κ[k]? with
    | some (.l xs) => some (.f xs)
    | some (.z x) => some (.d x)
    | some (.m _) => none
    | some (.k es) => some (.h es)
    | some (.x _) => none
    | some (.n _ _) => none
    | some (.e _) => none
    | none => none
  | .b _ => none
  | .p _ => none
  | .t _ _ => none
  | .xe _ _ => none
  | r => some r
/-- a def's end: what its cell holds then, what it hands back -/
def endL (κ : Kap) (r : R) (Pd : R → List PyData → Prop) : Prop := match (κ[(0 : Nat)]? : Option Cell) with
  | some (.l bs) => Opt (outR κ 1 r) fun r' => Pd r' bs
  | _ => False
theorem endL_ex {κ : Kap} {r : R} {Pd : R → List PyData → Prop} (h : endL κ r Pd) : ∃ bs r', κ[(0 : Nat)]? = some (.l bs) ∧ outR κ 1 r = some r' ∧ Pd r' bs := by
  unfold endL at h
  split at h
  · rename_i bs e
    obtain ⟨r', e', q⟩ := h.ex
    exact ⟨bs, r', e, e', q⟩
  · exact h.elim
section
variable {P : Program} {w : World} {K : PySem.W.Frag} {mg : Str → Option Value} {base : Heap} {x qual : Str} {st : Stmt} {f : Addr} {fd : FuncData} {N ps : List Str} {k : Nat}
theorem out_rv {K : PySem.W.Frag} {G0 H0 G H : Hp} {As0 As : List Addr} {κ : Kap} {v : V} {r r' : R} {n : Nat} (hn : As0.length = n) (s : Step G0 H0 As0 G H As) (c : Cells K G H As κ) (h : Rv K H0 G H As v r) (e : outR κ n r = some r') : Rv K H0 G H As0 v r' := by
  obtain ⟨bs, eb⟩ := s.pre
  cases r with
  | d x => cases e; exact h
  | s ns => cases e; exact h
  | h ns => cases e; exact h
  | g ns => cases e; exact h
  | q ns => cases e; exact h
  | o u => cases e; exact h
  | t y j => cases e
  | xe cn fs => cases e
  | b ks => cases e
  | p ks => cases e
  | f xs =>
    cases e
    obtain ⟨p, vs, ev, h0, g0, nin, q⟩ := h
    exact ⟨p, vs, ev, h0, g0, fun z => nin (by rw [eb]; exact List.mem_append_left _ z), q⟩
  | c j =>
    obtain ⟨a, ha, rfl⟩ := h
    unfold outR at e
    simp only at e
    split at e
    · rename_i hj
      cases e
      refine ⟨a, ?_, rfl⟩
      rw [eb, List.getElem?_append_left (by omega)] at ha
      exact ha
    · rename_i hj
      have hna : a ∉ As0 := fun hm => by
        have nd := c.nd
        rw [eb] at nd ha
        obtain ⟨i, hi, ei⟩ := List.getElem_of_mem hm
        have h1 : (As0 ++ bs)[i]? = some a := by rw [List.getElem?_append_left hi, List.getElem?_eq_getElem hi, ei]
        obtain ⟨l1, q1⟩ := List.getElem?_eq_some_iff.mp h1
        obtain ⟨l2, q2⟩ := List.getElem?_eq_some_iff.mp ha
        have := (List.getElem_inj nd).mp (q1.trans q2.symm)
        omega
      split at e
      · rename_i xs hk
        cases e
        obtain ⟨g0, vs, hq, rp⟩ := c.ok j _ a hk ha
        refine ⟨a, vs, rfl, ?_, g0, hna, hq, rp⟩
        rcases s.new a (List.mem_of_getElem? ha) with z | z
        · exact absurd z hna
        · exact z
      · rename_i x hk
        cases e
        exact c.ok j _ a hk ha
      · cases e
      · rename_i es hk
        cases e
        exact c.ok j _ a hk ha
      · cases e
      · cases e
      · cases e
      · cases e
theorem Step.short {G0 H0 G H : Hp} {As0 As : List Addr} (s : Step G0 H0 As0 G H As) : Step G0 H0 As0 G H As0 :=
  ⟨s.ex, ⟨[], by simp⟩, fun _ h => .inl h, s.fr, s.dom, s.gn⟩
/-- the slots at the entry -/
theorem places_start {K : PySem.W.Frag} {G : Hp} {As : List Addr} {vs : List V} {rs : List R} (h : Paired (It K G As) vs rs) (m : Nat) : Places K G As (vs.map some ++ List.replicate m none) (rs.map some ++ List.replicate m none) := by
  have hl := Paired.length h
  refine ⟨by rw [List.length_append, List.length_append, List.length_map, List.length_map, List.length_replicate, List.length_replicate, hl], fun i r e => ?_⟩
  by_cases hi : i < rs.length
  · rw [List.getElem?_append_left (by rw [List.length_map]; exact hi), List.getElem?_map, List.getElem?_eq_getElem hi] at e
    cases e
    have get : ∀ {vs : List V} {rs : List R} {i : Nat} (hi : i < rs.length), Paired (It K G As) vs rs → ∃ v, vs[i]? = some v ∧ It K G As v rs[i] := fun {vs} => by
      induction vs with
      | nil => intro rs i hi h; cases h; exact absurd hi (by simp)
      | cons v vs ih =>
        intro rs i hi h
        cases h with
        | cons r t =>
          cases i with
          | zero => exact ⟨v, rfl, r⟩
          | succ i => exact ih (i := i) (by simpa using hi) t
    obtain ⟨v, e1, e2⟩ := get hi h
    refine ⟨v, ?_, e2⟩
    rw [List.getElem?_append_left (by rw [List.length_map, hl]; exact hi), List.getElem?_map, e1]
    rfl
  · rw [List.getElem?_append_right (by rw [List.length_map]; omega), List.getElem?_replicate] at e
    split at e <;> cases e
theorem dfn {Φ : List R → (R → Prop) → Prop} (F : Fun K x qual st f fd) (S : FnScope N ps (defScope st))
    (hb : ∀ (cdv : Value) (A : Around) (outer : List Env) (s : Shared) (H : Hp) (E : XK), RoomG k (A.deeper (envOfC qual (defScope st) s.heap.objs.size f cdv)) →
      ∃ wd, DSs (cxOf CX0 P w K mg base N qual (defScope st) f cdv A outer s H E).nox (defBody st) wd ∧ ∀ rs Pd, Φ rs Pd → rs.length = ps.length → wd { nx := fun _ _ => Pd (.d .none), rt := fun r κ => Opt (outR κ 0 r) Pd } (rs.map some ++ List.replicate (N.length - ps.length) none) []) :
    FnG P w K mg base CX0 (k + 1) f fd ps (spD K ps.length Φ) := by
  refine Fun.okG F S (fun vs H Q E h => h.1) (fun cdv A outer s H vs Q E hr h => ?_)
  obtain ⟨hl, G, rs, Pd, ext, i0, hΦ, kk⟩ := h
  obtain ⟨wd, ⟨t, pt, ht⟩, hw⟩ := hb cdv A outer s H E hr
  have hl2 : rs.length = ps.length := (Paired.length i0).symm.trans hl
  refine ⟨t, pt, ?_⟩
  have c0 : Cells K G H [] [] := ⟨ext.1, rfl, by simp, fun a h => (List.not_mem_nil h).elim, fun j c a h => by simp at h, ext.2⟩
  have p0 := places_start i0 (N.length - ps.length)
  unfold L2.start
  rw [hl]
  refine ht G H [] _ _ [] _ _ c0 p0 (hw rs Pd hΦ hl2) ⟨fun σ' ρ' G' H' As' κ' s' c' _ q => ?_, fun _ _ _ _ _ _ _ _ _ q => q.elim, fun _ _ _ _ _ _ _ _ _ q => q.elim, fun v r G' H' As' κ' s' c' rv q => ?_⟩
  · exact kk .non (.d .none) G' H' q c'.xt s'.short .non
  · obtain ⟨r', e, q⟩ := q.ex
    exact kk v r' G' H' q c'.xt s'.short (out_rv rfl s' c' rv e)
theorem dfnL {Φ : List PyData → List R → (R → List PyData → Prop) → Prop} {n : Nat} (F : Fun K x qual st f fd) (S : FnScope N ps (defScope st)) (hn : ps.length = n + 1)
    (hb : ∀ (cdv : Value) (A : Around) (outer : List Env) (s : Shared) (H : Hp) (E : XK), RoomG k (A.deeper (envOfC qual (defScope st) s.heap.objs.size f cdv)) →
      ∃ wd, DSs (cxOf CX0 P w K mg base N qual (defScope st) f cdv A outer s H E).nox (defBody st) wd ∧ ∀ bs rs Pd, Φ bs rs Pd → rs.length = n → wd { nx := fun _ κ => endL κ (.d .none) Pd, rt := fun r κ => endL κ r Pd } (some (.c 0) :: (rs.map some ++ List.replicate (N.length - ps.length) none)) [.l bs]) :
    FnG P w K mg base CX0 (k + 1) f fd ps (spL K ps.length Φ) := by
  refine Fun.okG F S (fun vs H Q E h => h.1) (fun cdv A outer s H vs Q E hr h => ?_)
  obtain ⟨hl, G, a, ws, bs, rs, Pd, rfl, c0, i0, hΦ, kk⟩ := h
  obtain ⟨wd, ⟨t, pt, ht⟩, hw⟩ := hb cdv A outer s H E hr
  have hl2 : rs.length = n := by
    have e1 := Paired.length i0
    rw [List.length_cons] at hl
    omega
  refine ⟨t, pt, ?_⟩
  have i1 : Paired (It K G [a]) (V.ref a :: ws) (R.c 0 :: rs) := .cons ⟨a, rfl, rfl⟩ (Paired.mapP i0 fun _ _ z => z.mono (Ex.refl G) ⟨[a], rfl⟩)
  have p0 := places_start i1 (N.length - ps.length)
  have one : ∀ {G' H' As' κ' bs'}, Step G H [a] G' H' As' → Cells K G' H' As' κ' → κ'[0]? = some (.l bs') → Cells K G' H' [a] [.l bs'] := fun s' c' e => by
    obtain ⟨zs, ez⟩ := s'.pre
    exact c'.one e (by rw [ez]; rfl)
  unfold L2.start
  rw [hl]
  refine ht G H [a] _ _ [.l bs] _ _ c0 p0 (hw bs rs Pd hΦ hl2) ⟨fun σ' ρ' G' H' As' κ' s' c' _ q => ?_, fun _ _ _ _ _ _ _ _ _ q => q.elim, fun _ _ _ _ _ _ _ _ _ q => q.elim, fun v r G' H' As' κ' s' c' rv q => ?_⟩
  · obtain ⟨bs', r', e, e', q⟩ := endL_ex q
    cases e'
    exact kk .non (.d .none) bs' G' H' q (one s' c' e) s'.short .non
  · obtain ⟨bs', r', e0, e, q⟩ := endL_ex q
    exact kk v r' bs' G' H' q (one s' c' e0) s'.short (out_rv rfl s' c' rv e)
end
end DL
namespace DL
open PySem PySem.Spec PyProof.Rows L2
section
variable {K : PySem.W.Frag} {G H : Hp} {v : V}
theorem vw_int {i : Int} (h : Vw K G H v (.int i)) : v = .int i := by
  have h : Rp K G v (.int i) := h
  cases h; rfl
theorem vw_str {z : Str} (h : Vw K G H v (.str z)) : v = .str z := by
  have h : Rp K G v (.str z) := h
  cases h; rfl
theorem vw_bool {b : Bool} (h : Vw K G H v (.bool b)) : v = .bl b := by
  have h : Rp K G v (.bool b) := h
  cases h; rfl
theorem vw_none (h : Vw K G H v .none) : v = .non := by
  have h : Rp K G v .none := h
  cases h; rfl
end
def addD : PyData → PyData → Option Out
  | .int i, .int j => some (.v (.int (i + j)))
  | .str x, .str y => if x.length + y.length ≤ sizeLine then some (.v (.str (x ++ y))) else none
  | .list xs, .list ys => if xs.length + ys.length ≤ sizeLine then some (.n (xs ++ ys)) else none
  | .tuple xs, .tuple ys => if xs.length + ys.length ≤ sizeLine then some (.t (xs ++ ys)) else none
  | _, _ => none
def rAddD (K : PySem.W.Frag) : R2 := fun x y H Q => (∃ i j, x = .int i ∧ y = .int j ∧ Q (.int (i + j)) H) ∨ (∃ i j, x = .str i ∧ y = .str j ∧ i.length + j.length ≤ sizeLine ∧ Q (.str (i ++ j)) H) ∨ rCat x y H Q ∨ rCatA K x y H Q
theorem op_addD {X : Cx} : OpR X (binaryOp .Add) (rAddD X.K) := by
  intro pins s σ H x y v u Q I rx ry h
  rcases h with h | h | h | h
  · exact op_add pins s σ H x y v u Q I rx ry h
  · exact op_add_str pins s σ H x y v u Q I rx ry h
  · exact op_cat pins s σ H x y v u Q I rx ry h
  · exact op_catA pins s σ H x y v u Q I rx ry h
theorem add_ok {K : PySem.W.Frag} : OpD K (rAddD K) addD := by
  intro G H v u x y o Q ext hx hy e k
  unfold addD at e
  split at e
  · cases e
    rw [vw_int hx, vw_int hy]
    exact .inl ⟨_, _, rfl, rfl, k _ (.int _)⟩
  · split at e
    · cases e
      rw [vw_str hx, vw_str hy]
      exact .inr (.inl ⟨_, _, rfl, rfl, by assumption, k _ (.str _)⟩)
    · cases e
  · split at e
    · cases e
      obtain ⟨a, vs, rfl, h1, h2⟩ := hx
      obtain ⟨b, ws, rfl, h3, h4⟩ := hy
      exact .inr (.inr (.inl ⟨a, b, vs, ws, rfl, rfl, h1, h3, by rw [h2.len, h4.len]; assumption, fun p hp => k p _ hp (h2.app h4)⟩))
    · cases e
  · split at e
    · cases e
      have hx' := hx
      have hy' := hy
      obtain ⟨a, vs, rfl, h1, h2⟩ := hx.tup ext
      obtain ⟨b, ws, rfl, h3, h4⟩ := hy.tup ext
      refine .inr (.inr (.inr ⟨a, b, vs, ws, rfl, rfl, h1, h3, by rw [h2.len, h4.len]; assumption, fun z => ?_, fun _ z => ?_, fun _ _ p hp => k.1 p _ hp (h2.app h4)⟩))
      · subst z
        cases h2
        exact k.2 _ hy'
      · subst z
        cases h4
        rw [List.append_nil] at k
        exact k.2 _ hx'
    · cases e
  · cases e
def intD (f : Int → Int → Option PyData) : PyData → PyData → Option Out
  | .int i, .int j => (f i j).map .v
  | _, _ => none
theorem int_ok {K : PySem.W.Frag} {r : R2} {f : Int → Int → Option PyData} (h : ∀ (i j : Int) (z : PyData) (H : Hp) (Q : VK), f i j = some z → (∀ w, (∀ G, Rp K G w z) → Q w H) → r (.int i) (.int j) H Q) : OpD K r (intD f) := by
  intro G H v u x y o Q ext hx hy e k
  unfold intD at e
  split at e
  · rename_i i j
    cases q : f i j with
    | none => rw [q] at e; cases e
    | some z =>
      rw [q] at e
      cases e
      rw [vw_int hx, vw_int hy]
      exact h i j z H Q q fun w hw => k w (hw G)
  · cases e
def subD := intD fun i j => some (.int (i - j))
theorem sub_ok {K : PySem.W.Frag} : OpD K (rI0 fun i j => .int (i - j)) subD := int_ok fun i j z H Q e k => by
  cases e; exact ⟨i, j, rfl, rfl, k _ fun _ => .int _⟩
open Classical in
noncomputable def modD := intD fun i j => if 0 < j then some (.int (i % j)) else none
theorem mod_ok {K : PySem.W.Frag} : OpD K (rI (fun _ j => 0 < j) fun i j => .int (i % j)) modD := int_ok fun i j z H Q e k => by
  split at e
  · cases e; exact ⟨i, j, rfl, rfl, by assumption, k _ fun _ => .int _⟩
  · cases e
open Classical in
noncomputable def fdivD := intD fun i j => if 0 < j ∧ j < 1073741824 then some (.int (i / j)) else none
theorem fdiv_ok {K : PySem.W.Frag} : OpD K (rI CDiv fun i j => .int (i / j)) fdivD := int_ok fun i j z H Q e k => by
  split at e
  · cases e; exact ⟨i, j, rfl, rfl, by assumption, k _ fun _ => .int _⟩
  · cases e
open Classical in
noncomputable def powD := intD fun i j => if 0 ≤ j ∧ j ≤ 1000000 ∧ i.natAbs < 2 ^ 64 then some (.int (i ^ j.toNat)) else none
theorem pow_ok {K : PySem.W.Frag} : OpD K (rI CPow fun i j => .int (i ^ j.toNat)) powD := int_ok fun i j z H Q e k => by
  split at e
  · cases e; exact ⟨i, j, rfl, rfl, by assumption, k _ fun _ => .int _⟩
  · cases e
open Classical in
/-- ints, and a list so many times -/
noncomputable def mulD : PyData → PyData → Option Out
  | .int i, .int j => if CMul i j then some (.v (.int (i * j))) else none
  | .list xs, .int k => @ite _ (-(2 ^ 63) ≤ k ∧ k < 2 ^ 63 ∧ xs.length * k.toNat ≤ sizeLine) (propDecidable _) (some (.n (List.replicate k.toNat xs).flatten)) none
  | _, _ => none
def rMulD : R2 := fun x y H Q => rI CMul (fun i j => .int (i * j)) x y H Q ∨ rRep x y H Q
theorem op_mulD {X : Cx} : OpR X (binaryOp .Mult) rMulD := by
  intro pins s σ H x y v u Q I rx ry h
  rcases h with h | h
  · exact op_mul pins s σ H x y v u Q I rx ry h
  · exact op_rep pins s σ H x y v u Q I rx ry h
theorem RpA.rep {K : PySem.W.Frag} {H : Hp} {vs : List V} {ds : List PyData} (h : RpA K H vs ds) : ∀ n : Nat, RpA K H (List.replicate n vs).flatten (List.replicate n ds).flatten
  | 0 => .nil
  | n + 1 => by
    rw [List.replicate_succ, List.replicate_succ, List.flatten_cons, List.flatten_cons]
    exact h.app (RpA.rep h n)
theorem mul_ok {K : PySem.W.Frag} : OpD K rMulD mulD := by
  intro G H v u x y o Q ext hx hy e k
  unfold mulD at e
  split at e
  · split at e
    · cases e
      rw [vw_int hx, vw_int hy]
      exact .inl ⟨_, _, rfl, rfl, by assumption, k _ (.int _)⟩
    · cases e
  · split at e
    · rename_i hc
      cases e
      obtain ⟨a, vs, rfl, h1, h2⟩ := hx
      rw [vw_int hy]
      refine .inr ⟨a, _, vs, rfl, rfl, h1, hc.1, hc.2.1, by rw [h2.len]; exact hc.2.2, fun p hp => k p _ hp ?_⟩
      exact h2.rep _
    · cases e
  · cases e
def negD : PyData → Option Out
  | .int i => some (.v (.int (-i)))
  | _ => none
theorem neg_ok {K : PySem.W.Frag} : UnD K (rU fun i => .int (-i)) negD := by
  intro G H v x o Q ext hx e k
  unfold negD at e
  split at e
  · cases e
    rw [vw_int hx]
    exact ⟨_, rfl, k _ (.int _)⟩
  · cases e
def eqD (neg : Bool) (x y : PyData) : Option Out := match x, y with
  | .str a, .str b => some (.v (.bool (if neg then !decide (a = b) else decide (a = b))))
  | x, y => if SeqAt.shaped x = true ∧ SeqAt.shaped y = true then some (.v (.bool (if neg then !PyData.eqv x y else PyData.eqv x y))) else none
def rEqS (K : PySem.W.Frag) : R2 := fun x y H Q => rEqD K x y H Q ∨ rEq x y H Q
def rNeS (K : PySem.W.Frag) : R2 := fun x y H Q => rNeD K x y H Q ∨ rNe x y H Q
theorem op_eqS {X : Cx} (hu : X.A.units + 64 < cLine) : OpR X (compareOp .Eq) (rEqS X.K) := fun pins s σ H x y v u Q I rx ry h => h.elim (op_eqD hu pins s σ H x y v u Q I rx ry) (op_eq pins s σ H x y v u Q I rx ry)
theorem op_neS {X : Cx} (hu : X.A.units + 64 < cLine) : OpR X (compareOp .NotEq) (rNeS X.K) := fun pins s σ H x y v u Q I rx ry h => h.elim (op_neD hu pins s σ H x y v u Q I rx ry) (op_ne pins s σ H x y v u Q I rx ry)
theorem eq_ok {K : PySem.W.Frag} : OpD K (rEqS K) (eqD false) := by
  intro G H v u x y o Q ext hx hy e k
  unfold eqD at e
  split at e
  · cases e
    rw [vw_str hx, vw_str hy]
    refine .inr ⟨rfl, ?_⟩
    have := k _ (.bl _)
    simpa using this
  · split at e
    · rename_i hs
      cases e
      exact .inl ⟨_, _, Rp.dp _ _ (hx.rp ext), Rp.dp _ _ (hy.rp ext), hs.1, hs.2, k _ (.bl _)⟩
    · cases e
theorem ne_ok {K : PySem.W.Frag} : OpD K (rNeS K) (eqD true) := by
  intro G H v u x y o Q ext hx hy e k
  unfold eqD at e
  split at e
  · cases e
    rw [vw_str hx, vw_str hy]
    refine .inr ⟨rfl, ?_⟩
    have := k _ (.bl _)
    simpa using this
  · split at e
    · rename_i hs
      cases e
      exact .inl ⟨_, _, Rp.dp _ _ (hx.rp ext), Rp.dp _ _ (hy.rp ext), hs.1, hs.2, k _ (.bl _)⟩
    · cases e
/-- <, <=, >, >= of ints and of texts -/
def ordD (fi : Int → Int → Bool) (fs : List Nat → List Nat → Bool) : PyData → PyData → Option Out
  | .int i, .int j => some (.v (.bool (fi i j)))
  | .str x, .str y => some (.v (.bool (fs x.cps.toList y.cps.toList)))
  | _, _ => none
def rOrdD (fi : Int → Int → Bool) (fs : List Nat → List Nat → Bool) : R2 := fun x y H Q => (∃ i j, x = .int i ∧ y = .int j ∧ Q (.bl (fi i j)) H) ∨ ∃ i j, x = .str i ∧ y = .str j ∧ Q (.bl (fs i.cps.toList j.cps.toList)) H
theorem ord_ok {K : PySem.W.Frag} {fi : Int → Int → Bool} {fs : List Nat → List Nat → Bool} : OpD K (rOrdD fi fs) (ordD fi fs) := by
  intro G H v u x y o Q ext hx hy e k
  unfold ordD at e
  split at e
  · cases e
    rw [vw_int hx, vw_int hy]
    exact .inl ⟨_, _, rfl, rfl, k _ (.bl _)⟩
  · cases e
    rw [vw_str hx, vw_str hy]
    exact .inr ⟨_, _, rfl, rfl, k _ (.bl _)⟩
  · cases e
def ltI (i j : Int) : Bool := decide (i < j)
def leI (i j : Int) : Bool := decide (i ≤ j)
def gtI (i j : Int) : Bool := decide (j < i)
def geI (i j : Int) : Bool := decide (j ≤ i)
def ltS (i j : List Nat) : Bool := decide (i < j)
section
variable {X : Cx}
theorem op_ltD : OpR X (compareOp .Lt) (rOrdD ltI ltS) := by
  intro pins s σ H x y v u Q I rx ry h
  rcases h with h | h
  · exact op_lt pins s σ H x y v u Q I rx ry h
  · exact op_lt_str pins s σ H x y v u Q I rx ry h
end
/-- <=, >, >= of ints -/
def ciD (f : Int → Int → Bool) := intD fun i j => some (.bool (f i j))
theorem ci_ok {K : PySem.W.Frag} {f : Int → Int → Bool} : OpD K (rI0 fun i j => .bl (f i j)) (ciD f) := int_ok fun i j z H Q e k => by
  cases e; exact ⟨i, j, rfl, rfl, k _ fun _ => .bl _⟩
section
variable {X : Cx}
theorem op_leI : OpR X (compareOp .LtE) (rI0 fun i j => .bl (leI i j)) := op_le
theorem op_gtI : OpR X (compareOp .Gt) (rI0 fun i j => .bl (gtI i j)) := op_gt
theorem op_geI : OpR X (compareOp .GtE) (rI0 fun i j => .bl (geI i j)) := op_ge
end
/-- is None, is not None -/
def isND (neg : Bool) : PyData → PyData → Option Out
  | x, .none => some (.v (.bool (match x with
    | .none => !neg
    | _ => neg)))
  | .bool a, .bool b => some (.v (.bool (if neg then !decide (a = b) else decide (a = b))))
  | _, _ => none
def rIsS (neg : Bool) : R2 := fun x y H Q => (y = .non ∧ Q (.bl (if neg then !decide (x = .non) else decide (x = .non))) H) ∨ ∃ a b, x = .bl a ∧ y = .bl b ∧ Q (.bl (if neg then !decide (a = b) else decide (a = b))) H
theorem isN_ok {K : PySem.W.Frag} {neg : Bool} : OpD K (rIsS neg) (isND neg) := by
  intro G H v u x y o Q ext hx hy e k
  unfold isND at e
  split at e
  · cases e
    refine .inl ⟨vw_none hy, ?_⟩
    have nr : ∀ {a : Addr}, decide (V.ref a = V.non) = false := fun {a} => decide_eq_false fun q => nomatch q
    cases x with
    | none =>
      rw [vw_none hx]
      cases neg
      · exact k _ (.bl _)
      · exact k _ (.bl _)
    | bool b => rw [vw_bool hx]; cases neg <;> exact k _ (.bl _)
    | int i => rw [vw_int hx]; cases neg <;> exact k _ (.bl _)
    | str z => rw [vw_str hx]; cases neg <;> exact k _ (.bl _)
    | list xs =>
      obtain ⟨a, vs, rfl, _⟩ := hx
      rw [nr]
      cases neg <;> exact k _ (.bl _)
    | tuple xs =>
      obtain ⟨a, vs, rfl, _⟩ := hx.tup ext
      rw [nr]
      cases neg <;> exact k _ (.bl _)
    | dict xs =>
      have hx : Rp K G v (.dict xs) := hx
      cases hx
  · cases e
    exact .inr ⟨_, _, vw_bool hx, vw_bool hy, k _ (.bl _)⟩
  · cases e
section
variable {X : Cx}
theorem op_isND : OpR X (compareOp .Is) (rIsS false) := fun pins s σ H x y v u Q I rx ry h => h.elim (op_isN pins s σ H x y v u Q I rx ry) (op_is_bl pins s σ H x y v u Q I rx ry)
end
/-- x in a list of data, in a tuple of flat data, in a text -/
def flatD : PyData → Bool
  | .none => true
  | .bool _ => true
  | .int _ => true
  | .str _ => true
  | _ => false
def inD (neg : Bool) : PyData → PyData → Option Out
  | x, .list ys => if SeqAt.shaped x = true ∧ SeqAt.shaped (.list ys) = true then some (.v (.bool (if neg then !ys.any fun z => PyData.eqv z x else ys.any fun z => PyData.eqv z x))) else none
  | x, .tuple ys => if flatD x = true ∧ ys.all flatD = true then some (.v (.bool (if neg then !ys.any fun z => PyData.eqv z x else ys.any fun z => PyData.eqv z x))) else none
  | .str i, .str j => some (.v (.bool (if neg then !(!(Builtin.Str.occurrences j i 0 j.length 1).isEmpty) else !(Builtin.Str.occurrences j i 0 j.length 1).isEmpty)))
  | _, _ => none
def rInA (K : PySem.W.Frag) (neg : Bool) : R2 := fun x y H Q => (∃ d ds, Dp K H x d ∧ Dp K H y (.list ds) ∧ SeqAt.shaped d = true ∧ SeqAt.shaped (.list ds) = true ∧ Q (.bl (if neg then !ds.any fun z => PyData.eqv z d else ds.any fun z => PyData.eqv z d)) H) ∨ rIn K neg x y H Q ∨
  ∃ i j, x = .str i ∧ y = .str j ∧ Q (.bl (if neg then !(!(Builtin.Str.occurrences j i 0 j.length 1).isEmpty) else !(Builtin.Str.occurrences j i 0 j.length 1).isEmpty)) H
section
variable {X : Cx}
theorem op_inA (hu : X.A.units + 65 < cLine) : OpR X (compareOp .In) (rInA X.K false) := by
  intro pins s σ H x y v u Q I rx ry h
  rcases h with h | h | h
  · exact op_inD hu pins s σ H x y v u Q I rx ry h
  · exact op_in_seq pins s σ H x y v u Q I rx ry h
  · exact op_in_str pins s σ H x y v u Q I rx ry h
theorem op_notInA (hu : X.A.units + 65 < cLine) : OpR X (compareOp .NotIn) (rInA X.K true) := by
  intro pins s σ H x y v u Q I rx ry h
  rcases h with h | h | h
  · exact op_notInD hu pins s σ H x y v u Q I rx ry h
  · exact op_notIn_seq pins s σ H x y v u Q I rx ry h
  · exact op_notIn_str pins s σ H x y v u Q I rx ry h
end
theorem flat_V {K : PySem.W.Frag} {G : Hp} {v : V} {x : PyData} (h : Rp K G v x) (f : flatD x = true) : flatV v = true := by
  cases h <;> first | rfl | cases f
theorem flat_eq {K : PySem.W.Frag} {G : Hp} {v u : V} {x y : PyData} (h : Rp K G v x) (f : flatD x = true) (h' : Rp K G u y) (f' : flatD y = true) : eqV v u = PyData.eqv x y := by
  cases h <;> first | (cases f; done) | (cases h' <;> first | (cases f'; done) | (simp [eqV, PyData.eqv]))
theorem flat_any {K : PySem.W.Frag} {G : Hp} {u : V} {y : PyData} (h' : Rp K G u y) (f' : flatD y = true) : ∀ {vs : List V} {ds : List PyData}, RpA K G vs ds → ds.all flatD = true → (vs.all flatV = true ∧ inV u vs = ds.any fun z => PyData.eqv z y)
  | _, _, .nil, _ => ⟨rfl, rfl⟩
  | _, _, .cons r t, f => by
    rw [List.all_cons, Bool.and_eq_true] at f
    obtain ⟨h1, h2⟩ := flat_any h' f' t f.2
    refine ⟨by rw [List.all_cons, flat_V r f.1, h1]; rfl, ?_⟩
    unfold inV at h2 ⊢
    rw [List.any_cons, List.any_cons, flat_eq r f.1 h' f', h2]
theorem in_ok {K : PySem.W.Frag} {neg : Bool} : OpD K (rInA K neg) (inD neg) := by
  intro G H v u x y o Q ext hx hy e k
  unfold inD at e
  split at e
  · split at e
    · rename_i hs
      cases e
      exact .inl ⟨_, _, Rp.dp _ _ (hx.rp ext), Rp.dp _ _ (hy.rp ext), hs.1, hs.2, k _ (.bl _)⟩
    · cases e
  · rename_i ys
    split at e
    · rename_i hs
      cases e
      obtain ⟨a, vs, rfl, h1, h2⟩ := hy.tup ext
      have hx' : Rp K G v x := by
        cases x <;> first | exact hx | exact absurd hs.1 (by simp [flatD])
      obtain ⟨q1, q2⟩ := flat_any hx' hs.1 h2 hs.2
      refine .inr (.inl ⟨a, vs, rfl, .inr h1, flat_V hx' hs.1, q1, ?_⟩)
      rw [q2]
      exact k _ (.bl _)
    · cases e
  · cases e
    rw [vw_str hx, vw_str hy]
    exact .inr (.inr ⟨_, _, rfl, rfl, k _ (.bl _)⟩)
  · cases e
def ixD : PyData → PyData → Option Out
  | .list xs, .int i => (atI xs i).map .v
  | .tuple xs, .int i => (atI xs i).map .v
  | .str z, .int i => if z.length ≤ sizeLine then (atI z.cps.toList i).map fun c => .v (.str ⟨#[c]⟩) else none
  | _, _ => none
theorem RpA.at {K : PySem.W.Frag} {G : Hp} {vs : List V} {ds : List PyData} {i : Int} {x : PyData} (h : RpA K G vs ds) (e : atI ds i = some x) : ∃ v, atI vs i = some v ∧ Rp K G v x := by
  unfold atI at e ⊢
  rw [h.len]
  cases q : ixN ds.length i with
  | none => rw [q] at e; cases e
  | some j =>
    rw [q] at e
    exact h.get e
theorem ix_ok {K : PySem.W.Frag} : OpD K (rIx K) ixD := by
  intro G H v u x y o Q ext hx hy e k
  unfold ixD at e
  split at e
  · rename_i xs i
    cases q : atI xs i with
    | none => rw [q] at e; cases e
    | some z =>
      rw [q] at e
      cases e
      obtain ⟨a, vs, rfl, h1, h2⟩ := hx
      obtain ⟨w, e1, e2⟩ := h2.at q
      rw [vw_int hy]
      exact .inl ⟨a, vs, i, w, rfl, rfl, sql_of h1, e1, k w e2⟩
  · rename_i xs i
    cases q : atI xs i with
    | none => rw [q] at e; cases e
    | some z =>
      rw [q] at e
      cases e
      obtain ⟨a, vs, rfl, h1, h2⟩ := hx.tup ext
      obtain ⟨w, e1, e2⟩ := h2.at q
      rw [vw_int hy]
      exact .inr (.inl ⟨a, vs, i, w, rfl, rfl, h1, e1, k w e2⟩)
  · rename_i z i
    split at e
    · cases q : atI z.cps.toList i with
      | none => rw [q] at e; cases e
      | some c =>
        rw [q] at e
        cases e
        rw [vw_str hx, vw_int hy]
        exact .inr (.inr ⟨z, i, c, rfl, rfl, by assumption, q, k _ (.str _)⟩)
    · cases e
  · cases e
/-- the script at a place -/
def wScr (wa wb : DTE) : DTE := fun ρ κ P => wa ρ κ fun r κ1 => match r with
  | .s ns => wb ρ κ1 fun q κ2 => match q with
    | .d (.int i) => Opt (atI ns i) fun n => P (.d (.int n)) κ2
    | _ => False
  | _ => False
def cut {α : Type} (xs : List α) (lo hi : Option Int) : List α := (xs.drop (HT.sIx xs.length 0 lo)).take (HT.sIx xs.length xs.length hi - HT.sIx xs.length 0 lo)
theorem RpA.cut {K : PySem.W.Frag} {G : Hp} {vs : List V} {ds : List PyData} (h : RpA K G vs ds) (lo hi : Option Int) : RpA K G (cutV vs lo hi) (cut ds lo hi) := by
  unfold cutV DL.cut
  rw [h.len]
  exact (h.drop _).take _
def slD : PyData → Option Int → Option Int → Option Out
  | .list xs, lo, hi => some (.n (cut xs lo hi))
  | .tuple xs, lo, hi => some (.t (cut xs lo hi))
  | .str z, lo, hi => if z.length ≤ sizeLine then some (.v (.str (cutS z lo hi))) else none
  | _, _, _ => none
def rSlD (K : PySem.W.Frag) : V → Option Int → Option Int → Hp → VK → Prop := fun x lo hi H Q => rSlL K x lo hi H Q ∨ rSlA K x lo hi H Q ∨ rSlS x lo hi H Q
theorem sl_any {X : Cx} : SlR X (rSlD X.K) := by
  intro pins s σ H x v vl vu lo hi sl Q I rx hs pl pu h
  rcases h with h | h | h
  · exact sl_list pins s σ H x v vl vu lo hi sl Q I rx hs pl pu h
  · exact sl_tupA pins s σ H x v vl vu lo hi sl Q I rx hs pl pu h
  · exact sl_str pins s σ H x v vl vu lo hi sl Q I rx hs pl pu h
theorem cut_all {xs : List PyData} {lo hi : Option Int} (h : HT.sIx xs.length 0 lo = 0 ∧ HT.sIx xs.length xs.length hi = xs.length) : cut xs lo hi = xs := by
  unfold cut
  rw [h.1, h.2]
  simp
abbrev DTO := Rho → Kap → (Option Int → Kap → Prop) → Prop
def DO (X : Cx) (e : Option Expr) (w : DTO) : Prop := ∃ t, PO X e t ∧ ∀ (G H : Hp) (As : List Addr) (σ : L2.St) (ρ : Rho) (κ : Kap) (P : Option Int → Kap → Prop) (Q : Option Int → Hp → Prop), Cells X.K G H As κ → Places X.K G As σ ρ → w ρ κ P →
  (∀ o G' H' As' κ', Step G H As G' H' As' → Cells X.K G' H' As' κ' → Places X.K G' As' σ ρ → P o κ' → Q o H') → t σ H Q
def wNoP : DTO := fun _ κ P => P none κ
def wP (we : DTE) : DTO := fun ρ κ P => we ρ κ fun r κ1 => match r with
  | .d (.int i) => P (some i) κ1
  | _ => False
def wSl (we : DTE) (wl wh : DTO) : DTE := fun ρ κ P => we ρ κ fun r κ1 => wl ρ κ1 fun lo κ2 => wh ρ κ2 fun hi κ3 => Opt (val κ3 r.st) fun x => Opt (slD x lo hi) fun o => P o.r κ3
section
variable {X : Cx} {e : Expr} {lo hi : Option Expr} {we : DTE} {wl wh : DTO} {pos p2 : Pos}
theorem do_none : DO X none wNoP := ⟨_, po_none, fun G H As σ ρ κ P Q c p w k => k none G H As κ Step.refl c p w⟩
theorem do_some (he : DE X e we) : DO X (some e) (wP we) := by
  obtain ⟨t, pt, he⟩ := he
  refine ⟨_, po_some pt, fun G H As σ ρ κ P Q c p w k => ?_⟩
  refine he G H As σ ρ κ _ _ c p w fun v r G1 H1 As1 κ1 s1 c1 p1 i1 w1 => ?_
  cases r with
  | d x =>
    cases x with
    | int i =>
      have i1 : Rp X.K G1 v (.int i) := i1
      cases i1
      exact ⟨i, rfl, k _ G1 H1 As1 κ1 s1 c1 p1 w1⟩
    | _ => exact w1.elim
  | _ => exact w1.elim
theorem de_sl (he : DE X e we) (hl : DO X lo wl) (hh : DO X hi wh) : DE X (.Subscript e (.Slice lo hi none p2) pos) (wSl we wl wh) := by
  obtain ⟨t, pt, he⟩ := he
  obtain ⟨tl, pl, hl⟩ := hl
  obtain ⟨th, ph, hh⟩ := hh
  refine ⟨_, pe_slice sl_any pt pl ph, fun G H As σ ρ κ P Q c p w k => ?_⟩
  refine he G H As σ ρ κ _ _ c p w fun v r G1 H1 As1 κ1 s1 c1 p1 i1 w1 => ?_
  obtain ⟨G1', s1', c1', p1', i1', _⟩ := settle s1 c1 p1 i1
  refine hl G1' H1 As1 σ ρ κ1 _ _ c1' p1' w1 fun o2 G2 H2 As2 κ2 s2 c2 p2 w2 => ?_
  refine hh G2 H2 As2 σ ρ κ2 _ _ c2 p2 w2 fun o3 G3 H3 As3 κ3 s3 c3 p3 w3 => ?_
  obtain ⟨x, ex, w4⟩ := w3.ex
  obtain ⟨o, eo, w5⟩ := w4.ex
  have st := (s1'.trans s2).trans s3
  have vw := ((s2.trans s3).it i1').vw c3 ex
  have ok := out_ok (P := P) st c3 p3 o w5 k
  unfold slD at eo
  split at eo
  · cases eo
    obtain ⟨a, vs, rfl, h1, h2⟩ := vw
    exact .inl ⟨a, vs, rfl, sql_of h1, fun q hq => ok q _ hq (h2.cut _ _)⟩
  · cases eo
    have vw' := vw
    obtain ⟨a, vs, rfl, h1, h2⟩ := vw.tup c3.ext
    refine .inr (.inl ⟨a, vs, rfl, h1, fun z => ?_, fun _ q hq => ok.1 q _ hq (h2.cut _ _)⟩)
    rw [h2.len] at z
    rw [cut_all z] at ok
    exact ok.2 _ vw'
  · split at eo
    · cases eo
      rw [vw_str vw]
      exact .inr (.inr ⟨_, rfl, by assumption, ok _ (.str _)⟩)
    · cases eo
  · cases eo
end
end DL
namespace DL
open PySem PySem.Spec PyProof.Rows L2
section
variable {prog : Program} {w : World} {A : Around} {E : Value → Shared → Prop} {s : Shared}
end
section
variable {K : PySem.W.Frag} {G H G' H' : Hp} {As As' : List Addr} {κ : Kap} {v : V} {r : R}
end
section
variable {X : Cx} {a : Expr} {wr : DTA} {pos p : Pos}
end
end DL
namespace DL
open PySem PySem.Spec PyProof.Rows L2
/-- a def of the text that may be called by its name -/
structure Cal (P : Program) (w : World) (K : PySem.W.Frag) (mg : Str → Option Value) (base : Heap) (x : Str) (k : Nat) (ps : List Str) (sp : Sp) : Prop where
  ex : ∃ (f : Addr) (fd : FuncData), FnG P w K mg base CX0 k f fd ps sp ∧ mg x = some (.ref f) ∧ PySem.W.keepIn K (.ref f) = true ∧ Binds K fd ps []
theorem Cal.mono {P : Program} {w : World} {K : PySem.W.Frag} {mg : Str → Option Value} {base : Heap} {x : Str} {k j : Nat} {ps : List Str} {sp : Sp} (C : Cal P w K mg base x j ps sp) (h : j ≤ k) : Cal P w K mg base x k ps sp := by
  obtain ⟨f, fd, F, a, b, c⟩ := C.ex
  exact ⟨f, fd, F.mono h, a, b, c⟩
/-- what a list has at these places -/
def pick {α : Type} (p : List Nat) (xs : List α) : List α := p.filterMap fun i => xs[i]?
structure CalK (P : Program) (w : World) (K : PySem.W.Frag) (mg : Str → Option Value) (base : Heap) (x : Str) (k : Nat) (ps : List Str) (n : Nat) (ks : List Str) (p : List Nat) (sp : Sp) : Prop where
  ex : ∃ (f : Addr) (fd : FuncData), FnG P w K mg base CX0 k f fd ps sp ∧ mg x = some (.ref f) ∧ PySem.W.keepIn K (.ref f) = true ∧ KBn K fd ps n ks (fun us ws => pick p (us ++ ws)) (fun us ws => pick p (us ++ ws))
theorem CalK.mono {P : Program} {w : World} {K : PySem.W.Frag} {mg : Str → Option Value} {base : Heap} {x : Str} {k j : Nat} {ps : List Str} {n : Nat} {ks : List Str} {p : List Nat} {sp : Sp} (C : CalK P w K mg base x j ps n ks p sp) (h : j ≤ k) : CalK P w K mg base x k ps n ks p sp := by
  obtain ⟨f, fd, F, a, b, c⟩ := C.ex
  exact ⟨f, fd, F.mono h, a, b, c⟩
theorem Paired.pick {α β : Type} {R : α → β → Prop} {xs : List α} {ys : List β} (h : Paired R xs ys) : ∀ p : List Nat, Paired R (DL.pick p xs) (DL.pick p ys)
  | [] => .nil
  | i :: p => by
    have ih := Paired.pick h p
    have get : ∀ {xs : List α} {ys : List β} (i : Nat), Paired R xs ys → (xs[i]? = none ∧ ys[i]? = none) ∨ ∃ x y, xs[i]? = some x ∧ ys[i]? = some y ∧ R x y := fun {xs} => by
      induction xs with
      | nil => intro ys i h; cases h; exact .inl ⟨rfl, rfl⟩
      | cons x xs ih =>
        intro ys i h
        cases h with
        | cons r t =>
          cases i with
          | zero => exact .inr ⟨_, _, rfl, rfl, r⟩
          | succ i => simpa using ih i t
    unfold DL.pick at ih ⊢
    rcases get i h with ⟨e1, e2⟩ | ⟨x, y, e1, e2, r⟩
    · rw [List.filterMap_cons_none e1, List.filterMap_cons_none e2]; exact ih
    · rw [List.filterMap_cons_some e1, List.filterMap_cons_some e2]; exact .cons r ih
theorem Paired.app {α β : Type} {R : α → β → Prop} : ∀ {xs xs' : List α} {ys ys' : List β}, Paired R xs ys → Paired R xs' ys' → Paired R (xs ++ xs') (ys ++ ys')
  | _, _, _, _, .nil, q => q
  | _, _, _, _, .cons r t, q => .cons r (Paired.app t q)
theorem Fun.kbn {K : PySem.W.Frag} {x qual : Str} {st : Stmt} {f : Addr} {fd : FuncData} {ps : List Str} (F : Fun K x qual st f fd) (n : Nat) (ks : List Str) (p : List Nat)
    (h : ∀ (kV doc pm : Value) (an : Option Addr) (cdv ct : Value) (us ws : List Value), us.length = n → ws.length = ks.length → bindArgs (PySem.W.fnOf x qual (defArgs st) (defBody st) (defScope st) .none kV doc pm an cdv ct) ⟨us, ks.zip ws⟩ = pure (ps.zip (pick p (us ++ ws)))) :
    KBn K fd ps n ks (fun us ws => pick p (us ++ ws)) (fun us ws => pick p (us ++ ws)) := by
  obtain ⟨oc, od, kV, doc, pm, an, cdv, ct, osl, rfl, lk, hcd⟩ := F.ex
  exact ⟨fun s us ws _ h1 h2 => .of_eq (h kV doc pm an cdv ct us ws h1 h2), fun r1 r2 => Paired.pick (r1.append r2) p⟩
section
variable {X : Cx} {k j n : Nat} {ps : List Str} {x : Str} {p pos : Pos} {e : Expr} {es : List Expr} {wr : DTA}
theorem de_callC {Φ : List R → (R → Prop) → Prop} (C : Cal X.prog X.w X.K X.mg X.base x k ps (spD X.K n Φ)) (hr : RoomG k X.A) (hn : n = (e :: es).length) (ha : DA X (e :: es) wr) (hg : Gl X x := by rfl) (hdb : (x == ("__debug__" : Str)) = false := by decide)
    (he : starEach (e :: es) X.env = (false, eval e X.env) :: starEach es X.env := by rfl) (hpl : (backTo pos (starEach es X.env)).any (·.1) = false := by rfl) : DE X (.Call (.Name x p) (e :: es) [] pos) (wCall Φ wr) := by
  obtain ⟨f, fd, F, hm, hk, hb⟩ := C.ex
  exact de_call F hr hm hk hb pass0 hn ha hg hdb he hpl
theorem de_callC_L {Φ : List PyData → List R → (R → List PyData → Prop) → Prop} (C : Cal X.prog X.w X.K X.mg X.base x k ps (spL X.K n Φ)) (hr : RoomG k X.A) (hn : n = (e :: es).length) (ha : DA X (e :: es) wr) (hg : Gl X x := by rfl) (hdb : (x == ("__debug__" : Str)) = false := by decide)
    (he : starEach (e :: es) X.env = (false, eval e X.env) :: starEach es X.env := by rfl) (hpl : (backTo pos (starEach es X.env)).any (·.1) = false := by rfl) : DE X (.Call (.Name x p) (e :: es) [] pos) (wCallL Φ wr) := by
  obtain ⟨f, fd, F, hm, hk, hb⟩ := C.ex
  exact de_callL F hr hm hk hb pass0 hn ha hg hdb he hpl
def DK (X : Cx) (kws : List Keyword) (w : DTA) : Prop := ∃ t, PK X kws t ∧ ∀ (G H : Hp) (As : List Addr) (σ : L2.St) (ρ : Rho) (κ : Kap) (P : List R → Kap → Prop) (Q : List V → Hp → Prop), Cells X.K G H As κ → Places X.K G As σ ρ → w ρ κ P →
  (∀ vs rs G' H' As' κ', Step G H As G' H' As' → Cells X.K G' H' As' κ' → Places X.K G' As' σ ρ → Paired (It X.K G' As') vs rs → rs.length = kws.length → P rs κ' → Q vs H') → t σ H Q
theorem dk_nil : DK X [] wNil := ⟨_, pk_nil, fun G H As σ ρ κ P Q c p w k => k [] [] G H As κ Step.refl c p .nil rfl w⟩
theorem dk_cons {wa : DTE} {kws : List Keyword} {nm : Option Str} {kpos : Pos} (ha : DE X e wa) (hr : DK X kws wr) : DK X (⟨nm, e, kpos⟩ :: kws) (wCons wa wr) := by
  obtain ⟨ta, pa, ha⟩ := ha
  obtain ⟨tr, pr, hr⟩ := hr
  refine ⟨_, pk_cons pa pr, fun G H As σ ρ κ P Q c p w k => ?_⟩
  refine ha G H As σ ρ κ _ _ c p w fun v1 r1 G1 H1 As1 κ1 s1 c1 p1 i1 w1 => ?_
  obtain ⟨G1', s1', c1', p1', i1', _⟩ := settle s1 c1 p1 i1
  refine hr G1' H1 As1 σ ρ κ1 _ _ c1' p1' w1 fun vs rs G2 H2 As2 κ2 s2 c2 p2 i2 l2 w2 => ?_
  exact k _ _ G2 H2 As2 κ2 (s1'.trans s2) c2 p2 (.cons (s2.it i1') i2) (congrArg (· + 1) l2) w2
def wCallK (Φ : List R → (R → Prop) → Prop) (q : List Nat) (wa wk : DTA) : DTE := fun ρ κ P => wa ρ κ fun rs κ1 => wk ρ κ1 fun ks κ2 => Opt (args κ2 (rs ++ ks)) fun z => Φ (pick q z.1) fun r => P r z.2
theorem kw_reads {Φ : List R → (R → Prop) → Prop} {q : List Nat} {t tk : TA} {wa wk : DTA} {n m l : Nat}
    (h : ∀ (G H : Hp) (As : List Addr) (σ : L2.St) (ρ : Rho) (κ : Kap) (P : List R → Kap → Prop) (Q : List V → Hp → Prop), Cells X.K G H As κ → Places X.K G As σ ρ → wa ρ κ P → (∀ vs rs G' H' As' κ', Step G H As G' H' As' → Cells X.K G' H' As' κ' → Places X.K G' As' σ ρ → Paired (It X.K G' As') vs rs → rs.length = n → P rs κ' → Q vs H') → t σ H Q)
    (hk : ∀ (G H : Hp) (As : List Addr) (σ : L2.St) (ρ : Rho) (κ : Kap) (P : List R → Kap → Prop) (Q : List V → Hp → Prop), Cells X.K G H As κ → Places X.K G As σ ρ → wk ρ κ P → (∀ vs rs G' H' As' κ', Step G H As G' H' As' → Cells X.K G' H' As' κ' → Places X.K G' As' σ ρ → Paired (It X.K G' As') vs rs → rs.length = m → P rs κ' → Q vs H') → tk σ H Q)
    (hq : ∀ {α : Type} (xs : List α), xs.length = n + m → (pick q xs).length = l)
    (G H : Hp) (As : List Addr) (σ : L2.St) (ρ : Rho) (κ : Kap) (P : R → Kap → Prop) (Q : VK) (E : XK) (c : Cells X.K G H As κ) (pl : Places X.K G As σ ρ) (w : wCallK Φ q wa wk ρ κ P)
    (kk : ∀ v r G' H' As' κ', Step G H As G' H' As' → Cells X.K G' H' As' κ' → Places X.K G' As' σ ρ → Rv X.K H G' H' As' v r → P r κ' → Q v H') : tCallN n m (spD X.K l Φ) (fun us ws => pick q (us ++ ws)) E t tk σ H Q := by
  refine h G H As σ ρ κ _ _ c pl w fun vs rs G1 H1 As1 κ1 s1 c1 p1 i1 l1 w1 => ?_
  refine hk G1 H1 As1 σ ρ κ1 _ _ c1 p1 w1 fun ws ks G2 H2 As2 κ2 s2 c2 p2 i2 l2 w2 => ?_
  obtain ⟨⟨xs, κ3⟩, ea, w3⟩ := w2.ex
  have e1 : vs.length = n := (Paired.length i1).trans l1
  have e2 : ws.length = m := (Paired.length i2).trans l2
  obtain ⟨G3, s3, c3, i3⟩ := args_ok c2 (Paired.app (Paired.mapP i1 fun _ _ z => s2.it z) i2) ea
  refine ⟨e1, e2, hq _ (by rw [List.length_append, e1, e2]), G3, _, _, c3.xt, Paired.pick i3 q, w3, fun v r G' H' hP hE s4 rv => ?_⟩
  have st0 : Step G H As G3 H2 As2 := (s1.trans s2).trans s3
  have st : Step G H As G' H' As2 := st0.trans s4.wide
  exact kk v r G' H' As2 κ3 st (c3.call s4 hE) (pl.step st) ((rv.wide c3).back st0) hP
/-- f(k = v, ..) -/
theorem de_callK0 {Φ : List R → (R → Prop) → Prop} {ks : List Str} {q : List Nat} {kws : List Keyword} {wk : DTA} {l : Nat} (C : CalK X.prog X.w X.K X.mg X.base x k ps 0 ks q (spD X.K l Φ)) (hr : RoomG k X.A) (hm : ks.length = kws.length) (hkw : DK X kws wk)
    (hq : ∀ {α : Type} (xs : List α), xs.length = 0 + ks.length → (pick q xs).length = l)
    (hall : (backToKw pos (keywordEach kws X.env)).all (·.1.isSome) = true := by rfl) (hks : (backToKw pos (keywordEach kws X.env)).filterMap (·.1) = ks := by rfl) (hg : Gl X x := by rfl) (hdb : (x == ("__debug__" : Str)) = false := by decide)
    (hpl : ((backTo pos (starEach [] X.env)).any (·.1) || (backToKw pos (keywordEach kws X.env)).any (·.1.isNone)) = false := by rfl) :
    DE X (.Call (.Name x p) [] kws pos) (wCallK Φ q wNil wk) := by
  obtain ⟨f, fd, F, hmg, hk, hb⟩ := C.ex
  obtain ⟨tk, ptk, hk2⟩ := hkw
  refine ⟨_, pe_callN0G F hr hg hmg hk hb pass0 ptk hall hks hdb hpl, fun G H As σ ρ κ P Q c pl w kk => ?_⟩
  refine kw_reads (n := 0) (t := tNil) ?_ (by rw [hm]; exact hk2) hq G H As σ ρ κ P Q _ c pl w kk
  exact fun G H As σ ρ κ P Q c p w k => k [] [] G H As κ Step.refl c p .nil rfl w
def wRevS (wa : DTE) : DTE := fun ρ κ P => wa ρ κ fun r κ1 => Opt (val κ1 r.st) fun y => match y with
  | .list xs => P (.f xs.reverse) κ1
  | _ => False
theorem de_revS {wa : DTE} {kk : Nat} {p1 p2 p3 : Pos} (ha : DE X e wa) : DE X (.Subscript e (.Slice none none (some (.UnaryOp .USub (.Constant (.int 1) kk p1) p2)) p3) pos) (wRevS wa) := by
  obtain ⟨t, pt, ha⟩ := ha
  refine ⟨_, pe_revL pt, fun G H As σ ρ κ P Q c p w k => ?_⟩
  refine ha G H As σ ρ κ _ _ c p w fun v r G1 H1 As1 κ1 s1 c1 p1 i1 w1 => ?_
  obtain ⟨G1', s1', c1', p1', i1', _⟩ := settle s1 c1 p1 i1
  obtain ⟨y, ey, w2⟩ := w1.ex
  cases y with
  | list xs =>
    obtain ⟨a, vs, rfl, h1, h2⟩ := i1'.vw c1' ey
    exact ⟨a, vs, rfl, sql_of h1, fun q hq => out_ok (P := P) s1' c1' p1' (.n xs.reverse) w2 k q _ hq h2.rev⟩
  | _ => exact w2.elim
end
end DL
namespace DL
open PySem PySem.Spec PyProof.Rows L2
section
variable {K : PySem.W.Frag}
theorem one_of {G H : Hp} {vs : List V} {x : PyData} (h : Paired (Vw K G H) vs [x]) : ∃ v, vs = [v] ∧ Vw K G H v x := by
  cases h with
  | cons r t => cases t; exact ⟨_, rfl, r⟩
theorem two_of {G H : Hp} {vs : List V} {x y : PyData} (h : Paired (Vw K G H) vs [x, y]) : ∃ v u, vs = [v, u] ∧ Vw K G H v x ∧ Vw K G H u y := by
  cases h with
  | cons r t =>
    cases t with
    | cons r2 t => cases t; exact ⟨_, _, rfl, r, r2⟩
def lenD : List PyData → Option Out
  | [.str z] => if z.length ≤ sizeLine then some (.v (.int z.length)) else none
  | [.list xs] => some (.v (.int xs.length))
  | [.tuple xs] => some (.v (.int xs.length))
  | _ => none
theorem len_ok : CallD K (fun xs H Q => ∃ x n, xs = [x] ∧ LenV K x H n ∧ Q (.int n) H) lenD := by
  intro G H vs xs o Q ext h0 e k
  unfold lenD at e
  split at e
  · split at e
    · cases e
      obtain ⟨v, rfl, h⟩ := one_of h0
      rw [vw_str h]
      exact ⟨_, _, rfl, ⟨by assumption, rfl⟩, k _ (.int _)⟩
    · cases e
  · cases e
    obtain ⟨v, rfl, h⟩ := one_of h0
    obtain ⟨a, ws, rfl, h1, h2⟩ := h
    refine ⟨_, _, rfl, .inl ⟨ws, sql_of h1, rfl⟩, ?_⟩
    rw [h2.len]
    exact k _ (.int _)
  · cases e
    obtain ⟨v, rfl, h⟩ := one_of h0
    obtain ⟨a, ws, rfl, h1, h2⟩ := h.tup ext
    refine ⟨_, _, rfl, .inr ⟨ws, h1, rfl⟩, ?_⟩
    rw [h2.len]
    exact k _ (.int _)
  · cases e
def absD : List PyData → Option Out
  | [.int i] => some (.v (.int (if i < 0 then -i else i)))
  | _ => none
theorem abs_ok : CallD K (fun xs H Q => ∃ i, xs = [.int i] ∧ Q (.int (if i < 0 then -i else i)) H) absD := by
  intro G H vs xs o Q ext h0 e k
  unfold absD at e
  split at e
  · cases e
    obtain ⟨v, rfl, h⟩ := one_of h0
    rw [vw_int h]
    exact ⟨_, rfl, k _ (.int _)⟩
  · cases e
def intC : List PyData → Option Out
  | [.int i] => some (.v (.int i))
  | [.bool b] => some (.v (.int (if b then 1 else 0)))
  | _ => none
theorem intC_ok : CallD K (fun xs H Q => (∃ i, xs = [.int i] ∧ Q (.int i) H) ∨ ∃ k, xs = [.bl k] ∧ Q (.int (if k then 1 else 0)) H) intC := by
  intro G H vs xs o Q ext h0 e k
  unfold intC at e
  split at e
  · cases e
    obtain ⟨v, rfl, h⟩ := one_of h0
    rw [vw_int h]
    exact .inl ⟨_, rfl, k _ (.int _)⟩
  · cases e
    obtain ⟨v, rfl, h⟩ := one_of h0
    rw [vw_bool h]
    exact .inr ⟨_, rfl, k _ (.int _)⟩
  · cases e
def max2D : List PyData → Option Out
  | [.int i, .int j] => some (.v (.int (if j > i then j else i)))
  | [.str a, .str b] => some (.v (.str (if a.cps.toList < b.cps.toList then b else a)))
  | _ => none
def rTwo (f : Int → Int → Int) (g : Str → Str → Str) : List V → Hp → VK → Prop := fun xs H Q => (∃ i j, xs = [.int i, .int j] ∧ Q (.int (f i j)) H) ∨ ∃ a b, xs = [.str a, .str b] ∧ Q (.str (g a b)) H
theorem max2_ok : CallD K (rTwo (fun i j => if j > i then j else i) fun a b => if a.cps.toList < b.cps.toList then b else a) max2D := by
  intro G H vs xs o Q ext h0 e k
  unfold max2D at e
  split at e
  · cases e
    obtain ⟨v, u, rfl, h1, h2⟩ := two_of h0
    rw [vw_int h1, vw_int h2]
    exact .inl ⟨_, _, rfl, k _ (.int _)⟩
  · cases e
    obtain ⟨v, u, rfl, h1, h2⟩ := two_of h0
    rw [vw_str h1, vw_str h2]
    exact .inr ⟨_, _, rfl, k _ (.str _)⟩
  · cases e
def min2D : List PyData → Option Out
  | [.int i, .int j] => some (.v (.int (if j < i then j else i)))
  | [.str a, .str b] => some (.v (.str (if b.cps.toList < a.cps.toList then b else a)))
  | _ => none
theorem min2_ok : CallD K (rTwo (fun i j => if j < i then j else i) fun a b => if b.cps.toList < a.cps.toList then b else a) min2D := by
  intro G H vs xs o Q ext h0 e k
  unfold min2D at e
  split at e
  · cases e
    obtain ⟨v, u, rfl, h1, h2⟩ := two_of h0
    rw [vw_int h1, vw_int h2]
    exact .inl ⟨_, _, rfl, k _ (.int _)⟩
  · cases e
    obtain ⟨v, u, rfl, h1, h2⟩ := two_of h0
    rw [vw_str h1, vw_str h2]
    exact .inr ⟨_, _, rfl, k _ (.str _)⟩
  · cases e
def strV : Value → List Nat
  | .str x _ => x.cps.toList
  | _ => []
def isStrV (v : Value) : Prop := ∃ x t, v = .str x t
section
variable {prog : Program} {w : World} {A : Around} {E : Value → Shared → Prop} {s : Shared} {Q : Value → Shared → Prop} {a b : Value}
theorem lt_strV (ha : isStrV a) (hb : isStrV b) (h : Q (.bool (decide (strV a < strV b))) s) : wpAny (model prog w) A (richCompare .Lt a b) Q E s := by
  obtain ⟨x, t, rfl⟩ := ha
  obtain ⟨y, u, rfl⟩ := hb
  exact (PyProof.Rows.lt_str h : wpAny (model prog w) A (compareOp .Lt (.str x t) (.str y u)) Q E s)
theorem gt_strV (ha : isStrV a) (hb : isStrV b) (h : Q (.bool (decide (strV b < strV a))) s) : wpAny (model prog w) A (richCompare .Gt a b) Q E s := by
  obtain ⟨x, t, rfl⟩ := ha
  obtain ⟨y, u, rfl⟩ := hb
  exact (compareOp_gives (op := .Gt) (typeIs_str s x t) (typeIs_str s y u) F.slot_str_gt F.entry_str_gt (F.args_str_gt_2 _ _) (gives_str_gt x y t u) (fun e => nomatch e) h : wpAny (model prog w) A (compareOp .Gt (.str x t) (.str y u)) Q E s)
theorem cmpS_lt (vs : Array Value) (hn : ∀ v ∈ vs, isStrV v) : CmpOf prog w A .Lt (fun i v => vs[i]? = some v) (fun i j => decide (strV (vs.getD i .none) < strV (vs.getD j .none))) := fun i j vi vj s Q E hi hj h => by
  have e1 : vs.getD i .none = vi := by simp [Array.getD_eq_getD_getElem?, hi]
  have e2 : vs.getD j .none = vj := by simp [Array.getD_eq_getD_getElem?, hj]
  simp only [e1, e2] at h
  exact lt_strV (hn _ (Array.mem_of_getElem? hi)) (hn _ (Array.mem_of_getElem? hj)) h
theorem cmpS_gt (vs : Array Value) (hn : ∀ v ∈ vs, isStrV v) : CmpOf prog w A .Gt (fun i v => vs[i]? = some v) (fun i j => decide (strV (vs.getD j .none) < strV (vs.getD i .none))) := fun i j vi vj s Q E hi hj h => by
  have e1 : vs.getD i .none = vi := by simp [Array.getD_eq_getD_getElem?, hi]
  have e2 : vs.getD j .none = vj := by simp [Array.getD_eq_getD_getElem?, hj]
  simp only [e1, e2] at h
  exact gt_strV (hn _ (Array.mem_of_getElem? hi)) (hn _ (Array.mem_of_getElem? hj)) h
theorem min_two_strV (hh : A.handled = none) (ha : isStrV a) (hb : isStrV b)
    (h : ∀ h' tk, (∀ c o, s.heap.get? c = some o → h'.get? c = some o) → Q (if strV b < strV a then b else a) { s with heap := h', toks := tk }) :
    wpAny (model prog w) A (call (.builtin "min") [a, b]) Q E s := by
  have hT : (s.heap.push { cls := .type "tuple", data := .seq #[a, b] }).IsTuple s.heap.objs.size #[a, b] := ⟨_, Heap.get?_push_size _ rfl, rfl, 0, rfl⟩
  refine call_min_two (wpAny_pyIter_tuple hT ?_)
  have hsz : (s.heap.push { cls := .type "tuple", data := .seq #[a, b] }).objs.size = s.heap.objs.size + 1 := Heap.size_push ..
  refine ⟨_, [_, s.heap.objs.size], [_], _, _, _, _, rfl, Walks.tuple (A := A.in1) hh _ s.heap.objs.size (by rw [hsz]; exact Nat.ne_of_lt (Nat.lt_succ_self _)) #[a, b],
    ⟨⟨_, Heap.get?_push_size _ rfl, rfl, rfl⟩, hT.push _⟩, fun c hc => ?_, by simp, cmpS_lt #[a, b] (by simp [ha, hb]), fun v h' tk hP hk => ?_⟩
  · show c < ((s.heap.push _).push _).objs.size
    rw [Heap.size_push, hsz]
    rcases List.mem_cons.mp hc with rfl | hc
    · rw [hsz]; exact Nat.lt_succ_self _
    · rcases List.mem_cons.mp hc with rfl | hc
      · exact Nat.lt_succ_of_lt (Nat.lt_succ_self _)
      · cases hc
  · have hold : ∀ c o, s.heap.get? c = some o → h'.get? c = some o := fun c o e => by
      refine hk c o (fun hm => ?_) (Heap.get?_push_of_some _ (Heap.get?_push_of_some _ e))
      rcases List.mem_cons.mp hm with e1 | hm
      · have := Heap.lt_size e; rw [e1, hsz] at this; exact Nat.lt_irrefl _ (Nat.lt_of_succ_lt this)
      · cases hm
    have := h h' tk hold
    have hv : v = if strV b < strV a then b else a := by
      by_cases hc : strV b < strV a
      · simp [argBest, hc] at hP; rw [if_pos hc]; exact hP.symm
      · simp [argBest, hc] at hP; rw [if_neg hc]; exact hP.symm
    rw [hv]; exact this
theorem max_two_strV (hh : A.handled = none) (ha : isStrV a) (hb : isStrV b)
    (h : ∀ h' tk, (∀ c o, s.heap.get? c = some o → h'.get? c = some o) → Q (if strV a < strV b then b else a) { s with heap := h', toks := tk }) :
    wpAny (model prog w) A (call (.builtin "max") [a, b]) Q E s := by
  have hT : (s.heap.push { cls := .type "tuple", data := .seq #[a, b] }).IsTuple s.heap.objs.size #[a, b] := ⟨_, Heap.get?_push_size _ rfl, rfl, 0, rfl⟩
  refine call_max_two (wpAny_pyIter_tuple hT ?_)
  have hsz : (s.heap.push { cls := .type "tuple", data := .seq #[a, b] }).objs.size = s.heap.objs.size + 1 := Heap.size_push ..
  refine ⟨_, [_, s.heap.objs.size], [_], _, _, _, _, rfl, Walks.tuple (A := A.in1) hh _ s.heap.objs.size (by rw [hsz]; exact Nat.ne_of_lt (Nat.lt_succ_self _)) #[a, b],
    ⟨⟨_, Heap.get?_push_size _ rfl, rfl, rfl⟩, hT.push _⟩, fun c hc => ?_, by simp, cmpS_gt #[a, b] (by simp [ha, hb]), fun v h' tk hP hk => ?_⟩
  · show c < ((s.heap.push _).push _).objs.size
    rw [Heap.size_push, hsz]
    rcases List.mem_cons.mp hc with rfl | hc
    · rw [hsz]; exact Nat.lt_succ_self _
    · rcases List.mem_cons.mp hc with rfl | hc
      · exact Nat.lt_succ_of_lt (Nat.lt_succ_self _)
      · cases hc
  · have hold : ∀ c o, s.heap.get? c = some o → h'.get? c = some o := fun c o e => by
      refine hk c o (fun hm => ?_) (Heap.get?_push_of_some _ (Heap.get?_push_of_some _ e))
      rcases List.mem_cons.mp hm with e1 | hm
      · have := Heap.lt_size e; rw [e1, hsz] at this; exact Nat.lt_irrefl _ (Nat.lt_of_succ_lt this)
      · cases hm
    have := h h' tk hold
    have hv : v = if strV a < strV b then b else a := by
      by_cases hc : strV a < strV b
      · simp [argBest, hc] at hP; rw [if_pos hc]; exact hP.symm
      · simp [argBest, hc] at hP; rw [if_neg hc]; exact hP.symm
    rw [hv]; exact this
end
theorem cr_min2 {X : Cx} (hc : X.calm = true) : CallR X (.builtin "min") (rTwo (fun i j => if j < i then j else i) fun a b => if b.cps.toList < a.cps.toList then b else a) := by
  intro pins s σ H xs us Q I r h
  rcases h with ⟨i, j, rfl, q⟩ | ⟨a, b, rfl, q⟩
  · exact call_min2 hc pins s σ H _ us Q I r ⟨i, j, rfl, q⟩
  · obtain ⟨u, w', rfl, ⟨t, rfl⟩, ⟨t', rfl⟩⟩ := vals2 r
    refine min_two_strV (I.ok.hd hc) ⟨_, _, rfl⟩ ⟨_, _, rfl⟩ fun h' tk k => ⟨_, H, I.kept k, ?_, q⟩
    show RelV (V.str (if b.cps.toList < a.cps.toList then b else a)) (if b.cps.toList < a.cps.toList then Value.str b t' else Value.str a t)
    by_cases hj : b.cps.toList < a.cps.toList
    · rw [if_pos hj, if_pos hj]; exact ⟨_, rfl⟩
    · rw [if_neg hj, if_neg hj]; exact ⟨_, rfl⟩
theorem cr_max2 {X : Cx} (hc : X.calm = true) : CallR X (.builtin "max") (rTwo (fun i j => if j > i then j else i) fun a b => if a.cps.toList < b.cps.toList then b else a) := by
  intro pins s σ H xs us Q I r h
  rcases h with ⟨i, j, rfl, q⟩ | ⟨a, b, rfl, q⟩
  · exact call_max2 hc pins s σ H _ us Q I r ⟨i, j, rfl, q⟩
  · obtain ⟨u, w', rfl, ⟨t, rfl⟩, ⟨t', rfl⟩⟩ := vals2 r
    refine max_two_strV (I.ok.hd hc) ⟨_, _, rfl⟩ ⟨_, _, rfl⟩ fun h' tk k => ⟨_, H, I.kept k, ?_, q⟩
    show RelV (V.str (if a.cps.toList < b.cps.toList then b else a)) (if a.cps.toList < b.cps.toList then Value.str b t' else Value.str a t)
    by_cases hj : a.cps.toList < b.cps.toList
    · rw [if_pos hj, if_pos hj]; exact ⟨_, rfl⟩
    · rw [if_neg hj, if_neg hj]; exact ⟨_, rfl⟩
def listC : List PyData → Option Out
  | [.list xs] => some (.n xs)
  | [.tuple xs] => some (.n xs)
  | _ => none
theorem listC_ok : CallD K (fun xs H Q => ∃ p ys, xs = [.ref p] ∧ (SqL K H p ys ∨ SqT K H p ys) ∧ ∀ l, H l = none → Q (.ref l) (upd H l (.lst ys))) listC := by
  intro G H vs xs o Q ext h0 e k
  unfold listC at e
  split at e
  · cases e
    obtain ⟨v, rfl, h⟩ := one_of h0
    obtain ⟨a, ws, rfl, h1, h2⟩ := h
    exact ⟨_, _, rfl, .inl (sql_of h1), fun l hl => k l _ hl h2⟩
  · cases e
    obtain ⟨v, rfl, h⟩ := one_of h0
    obtain ⟨a, ws, rfl, h1, h2⟩ := h.tup ext
    exact ⟨_, _, rfl, .inr h1, fun l hl => k l _ hl h2⟩
  · cases e
def tupC : List PyData → Option Out
  | [.list xs] => some (.t xs)
  | [.tuple xs] => some (.t xs)
  | _ => none
theorem tupC_ok : CallD K (fun xs H Q => ∃ p ys, xs = [.ref p] ∧ ((SqL K H p ys ∧ ∀ l, H l = none → Q (.ref l) (upd H l (.tup ys))) ∨ (SqT K H p ys ∧ Q (.ref p) H))) tupC := by
  intro G H vs xs o Q ext h0 e k
  unfold tupC at e
  split at e
  · cases e
    obtain ⟨v, rfl, h⟩ := one_of h0
    obtain ⟨a, ws, rfl, h1, h2⟩ := h
    exact ⟨_, _, rfl, .inl ⟨sql_of h1, fun l hl => k.1 l _ hl h2⟩⟩
  · cases e
    obtain ⟨v, rfl, h⟩ := one_of h0
    have h' := h
    obtain ⟨a, ws, rfl, h1, h2⟩ := h.tup ext
    exact ⟨_, _, rfl, .inr ⟨h1, k.2 _ h'⟩⟩
  · cases e
def bools : List PyData → Option (List Bool)
  | [] => some []
  | .bool b :: xs => (bools xs).map (b :: ·)
  | _ => none
theorem bools_map : ∀ bs : List Bool, bools (bs.map .bool) = some bs
  | [] => rfl
  | b :: bs => by
    show (bools (bs.map .bool)).map (b :: ·) = _
    rw [bools_map bs]; rfl
theorem bools_ok {G : Hp} : ∀ {ds : List PyData} {vs : List V} {bs : List Bool}, bools ds = some bs → RpA K G vs ds → vs = bs.map V.bl
  | [], _, _, e, h => by
    cases e; cases h; rfl
  | d :: ds, _, bs, e, h => by
    cases h with
    | cons h1 h2 =>
      cases d with
      | bool b =>
        unfold bools at e
        cases q : bools ds with
        | none => rw [q] at e; cases e
        | some cs =>
          rw [q] at e
          cases e
          cases h1
          rw [bools_ok q h2]
          rfl
      | _ => cases e
def allC (f : List Bool → Bool) : List PyData → Option Out
  | [.list xs] => (bools xs).map fun bs => .v (.bool (f bs))
  | _ => none
theorem allC_ok {f : List Bool → Bool} : CallD K (fun vs H Q => ∃ (a : Addr) (bs : List Bool), vs = [V.ref a] ∧ SqL K H a (bs.map V.bl) ∧ Q (.bl (f bs)) H) (allC f) := by
  intro G H vs xs o Q ext h0 e k
  unfold allC at e
  split at e
  · rename_i xs
    cases q : bools xs with
    | none => rw [q] at e; cases e
    | some bs =>
      rw [q] at e
      cases e
      obtain ⟨v, rfl, h⟩ := one_of h0
      obtain ⟨a, ws, rfl, h1, h2⟩ := h
      rw [bools_ok q h2] at h1
      exact ⟨a, bs, rfl, sql_of h1, k _ (.bl _)⟩
  · cases e
end
def dLe (x y : PyData) : Bool := !PySem.W.dataLt y x
def SortOk (xs : List PyData) : Prop := PySem.W.AllAlike xs ∧ PySem.W.Sortable xs ∧ (∀ x ∈ xs, x.depth ≤ 64) ∧ xs.length ≤ sizeLine
open Classical in
noncomputable def sortC : List PyData → Option Out
  | [.list xs] => if SortOk xs then some (.n (xs.mergeSort dLe)) else none
  | [.tuple xs] => if SortOk xs then some (.n (xs.mergeSort dLe)) else none
  | _ => none
def rSortD (K : PySem.W.Frag) : List V → Hp → VK → Prop := fun vs H Q => ∃ (a : Addr) (ps : List (V × PyData)), vs = [V.ref a] ∧ (SqL K H a (ps.map (·.1)) ∨ SqT K H a (ps.map (·.1))) ∧ (∀ p ∈ ps, Rp K H p.1 p.2) ∧ SortOk (ps.map (·.2)) ∧
  ∀ (qs : List (V × PyData)) (p : Addr), qs = ps.mergeSort (fun x y => dLe x.2 y.2) → H p = none → Q (.ref p) (upd H p (.lst (qs.map (·.1))))
theorem each_of {R : Value → V × PyData → Prop} : ∀ {ps : List (V × PyData)} {us : List Value}, Vals (ps.map (·.1)) us → (∀ p ∈ ps, ∀ u, RelV p.1 u → R u p) → PySem.W.EachIs R us ps
  | [], _, .nil, _ => .nil
  | p :: ps, _, .cons r t, h => .cons (h p (List.mem_cons_self ..) _ r) (each_of t fun q hq => h q (List.mem_cons_of_mem _ hq))
theorem of_each : ∀ {us : List Value} {ps : List (V × PyData)}, PySem.W.EachIs (fun u p => RelV p.1 u) us ps → Vals (ps.map (·.1)) us
  | _, _, .nil => .nil
  | _, _, .cons r t => .cons r (of_each t)
mutual
theorem rd_old {h : Heap} : ∀ (d : PyData) (v : Value) (as : List Addr), PySem.W.alike d d = true → Reads h v d as → ∀ a ∈ as, ∃ o, h.get? a = some o
  | .none, _, _, _, r, _, hm => by cases r; cases hm
  | .bool _, _, _, _, r, _, hm => by cases r; cases hm
  | .int _, _, _, _, r, _, hm => by cases r; cases hm
  | .str _, _, _, _, r, _, hm => by cases r; cases hm
  | .list xs, _, _, hal, r, _, hm => by
    cases r with
    | list h1 h2 h3 h4 =>
      rcases List.mem_cons.mp hm with rfl | hm
      · exact ⟨_, h1⟩
      · exact rds_old xs _ _ (by simpa [PySem.W.alike] using hal) h4 _ hm
  | .tuple xs, _, _, hal, r, _, hm => by
    cases r with
    | tuple h1 h2 h3 h4 => exact rds_old xs _ _ (by simpa [PySem.W.alike] using hal) h4 _ hm
  | .dict _, _, _, hal, _, _, _ => absurd hal (by simp [PySem.W.alike])
theorem rds_old {h : Heap} : ∀ (ds : List PyData) (vs : List Value) (as : List Addr), PySem.W.alikeAll ds ds = true → ReadsAll h vs ds as → ∀ a ∈ as, ∃ o, h.get? a = some o
  | [], _, _, _, r, _, hm => by cases r; cases hm
  | d :: ds, _, _, hal, r, _, hm => by
    cases r with
    | cons h1 h2 =>
      rcases List.mem_append.mp hm with hm | hm
      · exact rd_old d _ _ (PySem.W.alike_all_cons hal).1 h1 _ hm
      · exact rds_old ds _ _ (PySem.W.alike_all_cons hal).2 h2 _ hm
end
theorem cr_sortD {X : Cx} (hu : X.A.units + 80 < cLine) : CallR X (.builtin "sorted") (rSortD X.K) := by
  intro pins s σ H vs us Q I r h
  obtain ⟨a, ps, rfl, hs | hs, hp, ⟨hal, hk, hd, hl⟩, q⟩ := h
  · obtain ⟨its, rv, hL, hz⟩ := I.list hs
    rw [Vals.ref1 r]
    refine PySem.W.sorted_data (enc := fun p : V × PyData => p.2) hL.isList (each_of rv fun p _ u r => r) (each_of rv fun p hm u r => Dp.reads I _ _ _ (Rp.dp _ _ (hp p hm)) r) hal hk (by rw [List.length_map] at hl; exact hl) (fun b hb => ?_) fun out h1 h2 => ?_
    · have := hd b.2 (List.mem_map.mpr ⟨b, hb, rfl⟩)
      omega
    · obtain ⟨ep, he⟩ := PyProof.Rows.sortedAll_at s.heap its (List.toArray out)
      have rv2 := of_each h2
      have e0 : ps.mergeSort (PySem.W.dataLe false fun p : V × PyData => p.2) = ps.mergeSort (fun x y => dLe x.2 y.2) := rfl
      rw [e0] at rv2
      have hlen : ((ps.mergeSort (fun x y => dLe x.2 y.2)).map (·.1)).length ≤ sizeLine := by
        rw [List.length_map, List.length_mergeSort]
        rw [List.length_map] at hl
        exact hl
      exact ⟨.ref _, upd H (s.heap.objs.size + 1) (.lst ((ps.mergeSort (fun x y => dLe x.2 y.2)).map (·.1))), I.laid (t' := s.toks) (fun _ _ => PyProof.Rows.sortedAll_old) (Nat.le_succ _) ⟨hlen, (List.toArray out).toList, ep, rv2, he⟩, rfl, q _ _ rfl (I.hok.fresh (Nat.le_succ _))⟩
  · obtain ⟨its, rv, hT, hz⟩ := I.tuple hs
    obtain ⟨o, ho, hc, n, hd0⟩ := hT
    have hlen : its.length = ps.length := by rw [← rv.length, List.length_map]
    have hl : ps.length ≤ sizeLine := by rw [List.length_map] at hl; exact hl
    rw [Vals.ref1 r]
    refine Calls.call_function_entry PyProof.Rows.kind_sorted PyProof.Rows.plain_sorted PyProof.Rows.entry_sorted (PyProof.Rows.args_sorted1 _) ?_
    unfold Builtin.«sorted»
    refine wpAny_bind (m := checkCount "sorted" 1 1 _) (wpAny_pure ?_)
    refine wpAny_bind (wpAny_collect_seq a (.inr rfl) ho hc hd0 (fun h1 kp => ?_) (by rw [List.size_toArray, hlen]; exact hl))
    refine wpAny_bind (wpAny_newList ?_ (by rw [show its.toArray.toList = its by simp, hlen]; exact hl))
    rw [show its.toArray.toList = its by simp]
    have hoL : (h1.push (seqObj "list" its.toArray 0)).get? h1.objs.size = some (seqObj "list" its.toArray 0) := Heap.get?_push_size _ rfl
    show wpAny _ _ _ _ _ { s with heap := h1.push (seqObj "list" its.toArray 0) }
    have kp1 : ∀ b o, s.heap.get? b = some o → (h1.push (seqObj "list" its.toArray 0)).get? b = some o := fun b o e => Heap.get?_push_of_some _ (kp b o e)
    refine wpAny_bind (wpAny_holding (PySem.W.list_sort_data (s := { s with heap := h1.push (seqObj "list" its.toArray 0) }) (R := fun (u : Value) (p : V × PyData) => RelV p.1 u) (enc := fun p : V × PyData => p.2) hoL (each_of rv fun p _ u r => r) (each_of rv fun p hm u r => ?_) hal hk hl (fun b hb => ?_) fun out hol he => ?_))
    · obtain ⟨as, rd⟩ := Dp.reads I _ _ _ (Rp.dp _ _ (hp p hm)) r
      have hal1 : PySem.W.alike p.2 p.2 = true := hal _ (List.mem_map.mpr ⟨p, hm, rfl⟩) _ (List.mem_map.mpr ⟨p, hm, rfl⟩)
      refine ⟨as, PyProof.Rows.Reads.keeps kp1 rd, fun hin => ?_⟩
      obtain ⟨o2, e⟩ := rd_old _ _ _ hal1 rd _ hin
      exact Nat.lt_irrefl _ (Heap.lt_size (kp _ _ e))
    · have := hd b.2 (List.mem_map.mpr ⟨b, hb, rfl⟩)
      show X.A.units + 1 + 1 + _ < _
      omega
    · have e0 : ps.mergeSort (PySem.W.dataLe false fun p : V × PyData => p.2) = ps.mergeSort (fun x y => dLe x.2 y.2) := rfl
      rw [e0] at he
      have rv2 := of_each he
      obtain ⟨e', he'⟩ := PyProof.Rows.sortedHeap_at (vs := its) (out := out.toArray) hoL
      have I1 : L2.Inv X pins σ H { s with heap := h1 } := I.kept (t' := s.toks) kp
      have hlen2 : ((ps.mergeSort (fun x y => dLe x.2 y.2)).map (·.1)).length ≤ sizeLine := by
        rw [List.length_map, List.length_mergeSort]
        exact hl
      refine wpAny_pure ⟨_, rfl, .ref h1.objs.size, upd H h1.objs.size (.lst ((ps.mergeSort (fun x y => dLe x.2 y.2)).map (·.1))), I1.laid (t' := s.toks) (fun b u e => ?_) (Nat.le_refl _) ⟨hlen2, out, e', rv2, he'⟩, rfl, q _ _ rfl (I1.hok.fresh (Nat.le_refl _))⟩
      have hb : b < h1.objs.size := Heap.lt_size e
      show (PyProof.Rows.sortedHeap (h1.push (seqObj "list" its.toArray 0)) h1.objs.size its out.toArray).get? b = some u
      rw [PyProof.Rows.sortedHeap_old (Nat.ne_of_lt hb) (by rw [size_push']; exact Nat.lt_succ_of_lt hb)]
      exact Heap.get?_push_of_some _ e
theorem pairs_of {K : PySem.W.Frag} {G : Hp} : ∀ {vs : List V} {ds : List PyData}, RpA K G vs ds → ∃ ps : List (V × PyData), ps.map (·.1) = vs ∧ ps.map (·.2) = ds ∧ ∀ p ∈ ps, Rp K G p.1 p.2
  | _, _, .nil => ⟨[], rfl, rfl, fun _ h => by cases h⟩
  | v :: vs, d :: ds, .cons r t => by
    obtain ⟨ps, h1, h2, h3⟩ := pairs_of t
    refine ⟨(v, d) :: ps, by rw [List.map_cons, h1], by rw [List.map_cons, h2], fun p hp => ?_⟩
    rcases List.mem_cons.mp hp with rfl | hp
    · exact r
    · exact h3 p hp
theorem rpa_of {K : PySem.W.Frag} {G : Hp} : ∀ {ps : List (V × PyData)}, (∀ p ∈ ps, Rp K G p.1 p.2) → RpA K G (ps.map (·.1)) (ps.map (·.2))
  | [], _ => .nil
  | p :: ps, h => .cons (h p (List.mem_cons_self ..)) (rpa_of fun q hq => h q (List.mem_cons_of_mem _ hq))
theorem sortC_ok {K : PySem.W.Frag} : CallD K (rSortD K) sortC := by
  intro G H vs xs o Q ext h0 e k
  have go : ∀ (a : Addr) (ws : List V) (xs : List PyData), vs = [.ref a] → (SqL K H a ws ∨ SqT K H a ws) → RpA K G ws xs → SortOk xs → o = .n (xs.mergeSort dLe) → rSortD K vs H Q := fun a ws xs ev hq h2 hs eo => by
    subst eo
    obtain ⟨ps, e1, e2, h3⟩ := pairs_of h2
    refine ⟨a, ps, ev, by rw [e1]; exact hq, fun p hp => Rp.mono ext _ _ (h3 p hp), by rw [e2]; exact hs, fun qs p eq hp => k p _ hp ?_⟩
    have m : (ps.mergeSort fun x y => dLe x.2 y.2).map (·.2) = xs.mergeSort dLe := by
      rw [← e2]
      exact List.map_mergeSort fun _ _ _ _ => rfl
    rw [← m, ← eq]
    refine rpa_of fun p hp => h3 p ?_
    rw [eq] at hp
    exact (List.mergeSort_perm _ _).mem_iff.mp hp
  unfold sortC at e
  split at e
  · split at e
    · rename_i xs hs
      cases e
      obtain ⟨v, rfl, h⟩ := one_of h0
      obtain ⟨a, ws, rfl, h1, h2⟩ := h
      exact go a ws _ rfl (.inl (sql_of h1)) h2 hs rfl
    · cases e
  · split at e
    · rename_i xs hs
      cases e
      obtain ⟨v, rfl, h⟩ := one_of h0
      obtain ⟨a, ws, rfl, h1, h2⟩ := h.tup ext
      exact go a ws _ rfl (.inr h1) h2 hs rfl
    · cases e
  · cases e
def tyN : PyData → String
  | .none => "NoneType"
  | .bool _ => "bool"
  | .int _ => "int"
  | .str _ => "str"
  | .list _ => "list"
  | .tuple _ => "tuple"
  | .dict _ => "dict"
inductive Ty where
  | int | bool | str | list | tuple
def Ty.n : Ty → String
  | .int => "int"
  | .bool => "bool"
  | .str => "str"
  | .list => "list"
  | .tuple => "tuple"
def isi : PyData → Ty → Bool
  | .bool _, .bool => true
  | .bool _, .int => true
  | .int _, .int => true
  | .str _, .str => true
  | .list _, .list => true
  | .tuple _, .tuple => true
  | _, _ => false
theorem kit_all : ∀ T : Ty, kitB "NoneType" T.n = some false ∧ kitB "bool" T.n = some (isi (.bool true) T) ∧ kitB "int" T.n = some (isi (.int 0) T) ∧ kitB "str" T.n = some (isi (.str "") T) ∧ kitB "list" T.n = some (isi (.list []) T) ∧ kitB "tuple" T.n = some (isi (.tuple []) T) := by
  intro T
  cases T <;> decide +kernel
theorem kit_is {x : PyData} {T : Ty} (h : ∀ ds, x ≠ .dict ds) : kitB (tyN x) T.n = some (isi x T) := by
  obtain ⟨h1, h2, h3, h4, h5, h6⟩ := kit_all T
  cases x with
  | none => exact h1.trans (by cases T <;> rfl)
  | bool b => exact h2.trans (by cases T <;> rfl)
  | int i => exact h3.trans (by cases T <;> rfl)
  | str z => exact h4.trans (by cases T <;> rfl)
  | list xs => exact h5.trans (by cases T <;> rfl)
  | tuple xs => exact h6.trans (by cases T <;> rfl)
  | dict ds => exact absurd rfl (h ds)
theorem ty_of {K : PySem.W.Frag} {G H : Hp} {v : V} {x : PyData} (ext : Ex G H) (h : Vw K G H v x) : TyX K H v (.type (tyN x)) ∧ ∀ ds, x ≠ .dict ds := by
  cases x with
  | none => rw [vw_none h]; exact ⟨.base .non, fun _ z => nomatch z⟩
  | bool b => rw [vw_bool h]; exact ⟨.base (.bl b), fun _ z => nomatch z⟩
  | int i => rw [vw_int h]; exact ⟨.base (.int i), fun _ z => nomatch z⟩
  | str z => rw [vw_str h]; exact ⟨.base (.str z), fun _ z => nomatch z⟩
  | list xs =>
    obtain ⟨a, vs, rfl, h1, _⟩ := h
    exact ⟨.base (.lst h1), fun _ z => nomatch z⟩
  | tuple xs =>
    obtain ⟨a, vs, rfl, h1, _⟩ := h.tup ext
    refine ⟨?_, fun _ z => nomatch z⟩
    rcases h1 with (h1 | ⟨o, h1⟩) | ⟨o, _, _, e, c, _⟩
    · exact .base (.tup h1)
    · exact .fTuple h1
    · exact .kTuple e c
  | dict xs =>
    have h : Rp K G v (.dict xs) := h
    cases h
def wIsi (T : Ty) (wa : DTE) : DTE := fun ρ κ P => wa ρ κ fun r κ1 => Opt (val κ1 r.st) fun x => P (.d (.bool (isi x T))) κ1
def wIsi2 (T U : Ty) (wa : DTE) : DTE := fun ρ κ P => wa ρ κ fun r κ1 => Opt (val κ1 r.st) fun x => P (.d (.bool (isi x T || isi x U))) κ1
section
variable {X : Cx} {e : Expr} {wa : DTE} {p p2 p3 p4 pos : Pos} {tn un : Str} {kk : Nat}
theorem de_isi (T : Ty) (hm : X.mg "isinstance" = none) (ht : X.mg tn = none) (ha : DE X e wa) (htv : bootBuiltins tn = some (.type T.n) := by decide +kernel) (hg : Gl X "isinstance" := by rfl) (hgt : Gl X tn := by rfl) (hnt : tn ≠ "__name__" := by decide) (hdt : (tn == ("__debug__" : Str)) = false := by decide)
    (hs : starEach [e, .Name tn p2] X.env = (false, eval e X.env) :: starEach [.Name tn p2] X.env := by rfl) (hs2 : starEach [.Name tn p2] X.env = (false, eval (.Name tn p2) X.env) :: starEach [] X.env := by rfl) (hpl : (backTo pos (starEach [.Name tn p2] X.env)).any (·.1) = false := by rfl) :
    DE X (.Call (.Name "isinstance" p) [e, .Name tn p2] [] pos) (wIsi T wa) := by
  obtain ⟨t, pt, ha⟩ := ha
  refine ⟨_, pe_callB call_isi hg hm (by decide +kernel) (pa_cons pt (pa_cons (pe_bltn (v := .ty T.n) hgt ht htv rfl hnt hdt) pa_nil hs2) hs) (by decide) (by decide) hs hpl, fun G H As σ ρ κ P Q c pl w k => ?_⟩
  refine ha G H As σ ρ κ _ _ c pl w fun v r G1 H1 As1 κ1 s1 c1 p1 i1 w1 => ?_
  obtain ⟨G1', s1', c1', p1', i1', _⟩ := settle s1 c1 p1 i1
  obtain ⟨x, ex, w2⟩ := w1.ex
  obtain ⟨h1, h2⟩ := ty_of c1'.ext (i1'.vw c1' ex)
  exact ⟨v, .ty T.n, _, _, isi x T, rfl, .ty _, h1, kit_ty (kit_is h2), k _ (.d (.bool _)) G1' H1 As1 κ1 s1' c1' p1' (.bl _) w2⟩
theorem de_isi2 (T U : Ty) (hm : X.mg "isinstance" = none) (ht : X.mg tn = none) (hu : X.mg un = none) (ha : DE X e wa) (htv : bootBuiltins tn = some (.type T.n) := by decide +kernel) (huv : bootBuiltins un = some (.type U.n) := by decide +kernel) (hg : Gl X "isinstance" := by rfl) (hgt : Gl X tn := by rfl) (hgu : Gl X un := by rfl)
    (hnt : tn ≠ "__name__" := by decide) (hdt : (tn == ("__debug__" : Str)) = false := by decide) (hnu : un ≠ "__name__" := by decide) (hdu : (un == ("__debug__" : Str)) = false := by decide)
    (hs : starEach [e, .Tuple [.Name tn p2, .Name un p3] kk p4] X.env = (false, eval e X.env) :: starEach [.Tuple [.Name tn p2, .Name un p3] kk p4] X.env := by rfl) (hs2 : starEach [.Tuple [.Name tn p2, .Name un p3] kk p4] X.env = (false, eval (.Tuple [.Name tn p2, .Name un p3] kk p4) X.env) :: starEach [] X.env := by rfl)
    (hs3 : starEach [.Name tn p2, .Name un p3] X.env = (false, eval (.Name tn p2) X.env) :: starEach [.Name un p3] X.env := by rfl) (hs4 : starEach [.Name un p3] X.env = (false, eval (.Name un p3) X.env) :: starEach [] X.env := by rfl)
    (hpl : (backTo pos (starEach [.Tuple [.Name tn p2, .Name un p3] kk p4] X.env)).any (·.1) = false := by rfl) :
    DE X (.Call (.Name "isinstance" p) [e, .Tuple [.Name tn p2, .Name un p3] kk p4] [] pos) (wIsi2 T U wa) := by
  obtain ⟨t, pt, ha⟩ := ha
  refine ⟨_, pe_callB call_isiT hg hm (by decide +kernel) (pa_cons pt (pa_cons (pe_tup (pa_cons (pe_bltn (v := .ty T.n) hgt ht htv rfl hnt hdt) (pa_cons (pe_bltn (v := .ty U.n) hgu hu huv rfl hnu hdu) pa_nil hs4) hs3)) pa_nil hs2) hs) (by decide) (by decide) hs hpl, fun G H As σ ρ κ P Q c pl w k => ?_⟩
  refine ha G H As σ ρ κ _ _ c pl w fun v r G1 H1 As1 κ1 s1 c1 p1 i1 w1 => ?_
  obtain ⟨G1', s1', c1', p1', i1', _⟩ := settle s1 c1 p1 i1
  obtain ⟨x, ex, w2⟩ := w1.ex
  refine ⟨by show 2 ≤ sizeLine; decide, fun q hq => ?_⟩
  have e2 : Ex H1 (upd H1 q (.tup [.ty T.n, .ty U.n])) := Ex.new hq
  obtain ⟨h1, h2⟩ := ty_of (c1'.ext.trans e2) (show Vw X.K G1' (upd H1 q (.tup [.ty T.n, .ty U.n])) v x from by
    have vw := i1'.vw c1' ex
    cases x with
    | list xs =>
      obtain ⟨a, vs, rfl, h1, h2⟩ := vw
      exact ⟨a, vs, rfl, e2 _ _ h1, h2⟩
    | none => exact vw
    | bool _ => exact vw
    | int _ => exact vw
    | str _ => exact vw
    | tuple _ => exact vw
    | dict _ => exact vw)
  refine ⟨v, q, [.ty T.n, .ty U.n], _, [.type T.n, .type U.n], isi x T || isi x U, rfl, upd_same, .cons (.ty _) (.cons (.ty _) .nil), h1, ?_, ?_⟩
  · refine kitAny_cons (kit_ty (kit_is h2)) (fun e => ?_) (fun e => by rw [e]; rfl)
    rw [e, Bool.false_or]
    refine kitAny_cons (kit_ty (kit_is h2)) (fun e => ?_) (fun e => e)
    rw [e]; exact kitAny_nil
  · have st : Step G H As G1' (upd H1 q (.tup [.ty T.n, .ty U.n])) As1 := s1'.trans (Step.fresh hq)
    exact k _ (.d (.bool _)) G1' _ As1 κ1 st (c1'.fresh hq) p1' (.bl _) w2
end
def tyOk (T : String) : PyData → Prop
  | .str _ => T = "str"
  | .list _ => T = "list"
  | _ => False
def MtD (K : PySem.W.Frag) (r : V → List V → Hp → VK → Prop) (g : PyData → List PyData → Option Out) : Prop := ∀ (G H : Hp) (v : V) (vs : List V) (x : PyData) (xs : List PyData) (o : Out) (Q : VK), Ex G H → Vw K G H v x → Paired (Vw K G H) vs xs → g x xs = some o → OutK K G H Q o → r v vs H Q
def wBM (T : String) (g : PyData → List PyData → Option Out) (wo : DTE) (wa : DTA) : DTE := fun ρ κ P => wo ρ κ fun r κ1 => Opt (val κ1 r.st) fun x0 => tyOk T x0 ∧ wa ρ κ1 fun rs κ2 => Opt (val κ2 r.st) fun x => Opt (vals κ2 rs) fun xs => Opt (g x xs) fun o => P o.r κ2
theorem tyV_of {K : PySem.W.Frag} {G H : Hp} {v : V} {x : PyData} {T : String} (h : Vw K G H v x) (t : tyOk T x) : tyV K T v H := by
  cases x with
  | str z => rw [vw_str h]; exact t
  | list xs =>
    obtain ⟨a, vs, rfl, h1, _⟩ := h
    exact .inl ⟨t, vs, sql_of h1⟩
  | _ => exact t.elim
section
variable {X : Cx} {o e : Expr} {es : List Expr} {wo : DTE} {wr : DTA} {apos cpos : Pos} {T id : String} {name : Str}
theorem de_bm {r : V → List V → Hp → VK → Prop} {g : PyData → List PyData → Option Out} (pa : PlainAttrs T) (slot : Slot T name id) (hty : typeOf (.builtin id) = pure (.type "method_descriptor")) (hm : MtR X id r) (hg : MtD X.K r g) (ho : DE X o wo) (ha : DA X (e :: es) wr)
    (hbase : attributeBase o name X.env (eval o X.env) = eval o X.env := by rfl)
    (hfew : ((backTo cpos (starEach (e :: es) X.env)).all (fun x => !x.1) && (backToKw cpos (keywordEach [] X.env)).all (fun x => x.1.isSome) && decide ((e :: es).length + ([] : List Keyword).length + (if ([] : List Keyword).isEmpty then 0 else 1) < 30)) = true := by rfl)
    (hline : (apos.endLine == cpos.line) = true := by rfl) (hs : starEach (e :: es) X.env = (false, eval e X.env) :: starEach es X.env := by rfl) (hplain : (backTo cpos (starEach es X.env)).any (·.1) = false := by rfl) :
    DE X (.Call (.Attribute o name apos) (e :: es) [] cpos) (wBM T g wo wr) := by
  obtain ⟨to, po, ho⟩ := ho
  obtain ⟨t, pt, ha⟩ := ha
  refine ⟨_, pe_bm pa slot hty hm po pt hbase hfew hline hs hplain, fun G H As σ ρ κ P Q c p w k => ?_⟩
  refine ho G H As σ ρ κ _ _ c p w fun v1 r1 G1 H1 As1 κ1 s1 c1 p1 i1 w1 => ?_
  obtain ⟨G1', s1', c1', p1', i1', _⟩ := settle s1 c1 p1 i1
  obtain ⟨x0, ex0, tok, w1⟩ := w1.ex
  refine ⟨tyV_of (i1'.vw c1' ex0) tok, ?_⟩
  refine ha G1' H1 As1 σ ρ κ1 _ _ c1' p1' w1 fun vs rs G2 H2 As2 κ2 s2 c2 p2 i2 _ w2 => ?_
  obtain ⟨x, ex, w2⟩ := w2.ex
  obtain ⟨xs, exs, w2⟩ := w2.ex
  obtain ⟨oo, eo, w2⟩ := w2.ex
  exact hg G2 H2 v1 vs x xs oo Q c2.ext ((s2.it i1').vw c2 ex) (vals_ok c2 i2 exs) eo (out_ok (s1'.trans s2) c2 p2 oo w2 k)
end
def strL : List PyData → Option (List Str)
  | [] => some []
  | .str z :: xs => (strL xs).map (z :: ·)
  | _ => none
theorem strs_ok {K : PySem.W.Frag} {G : Hp} : ∀ {ds : List PyData} {vs : List V} {bs : List Str}, strL ds = some bs → RpA K G vs ds → vs = bs.map V.str
  | [], _, _, e, h => by
    cases e; cases h; rfl
  | d :: ds, _, bs, e, h => by
    cases h with
    | cons h1 h2 =>
      cases d with
      | str b =>
        unfold strL at e
        cases q : strL ds with
        | none => rw [q] at e; cases e
        | some cs =>
          rw [q] at e
          cases e
          cases h1
          rw [strs_ok q h2]
          rfl
      | _ => cases e
def joinC : PyData → List PyData → Option Out
  | .str a, [.list xs] => match strL xs with
    | some ys => if (ys.map (·.length)).sum + ys.length * a.length ≤ 16777216 then some (.v (.str (Txt.join a ys))) else none
    | none => none
  | .str a, [.tuple xs] => match strL xs with
    | some ys => if (ys.map (·.length)).sum + ys.length * a.length ≤ 16777216 then some (.v (.str (Txt.join a ys))) else none
    | none => none
  | _, _ => none
theorem joinC_ok {K : PySem.W.Frag} : MtD K (fun x xs H Q => ∃ a p, ∃ ys : List Str, x = .str a ∧ xs = [.ref p] ∧ (SqL K H p (ys.map V.str) ∨ SqT K H p (ys.map V.str)) ∧ (ys.map (·.length)).sum + ys.length * a.length ≤ 16777216 ∧ Q (.str (Txt.join a ys)) H) joinC := by
  intro G H v vs x xs o Q ext hx h0 e k
  unfold joinC at e
  split at e
  · split at e
    · rename_i ys q
      split at e
      · cases e
        obtain ⟨u, rfl, h⟩ := one_of h0
        obtain ⟨a, ws, rfl, h1, h2⟩ := h
        rw [strs_ok q h2] at h1
        exact ⟨_, a, ys, vw_str hx, rfl, .inl (sql_of h1), by assumption, k _ (.str _)⟩
      · cases e
    · cases e
  · split at e
    · rename_i ys q
      split at e
      · cases e
        obtain ⟨u, rfl, h⟩ := one_of h0
        obtain ⟨a, ws, rfl, h1, h2⟩ := h.tup ext
        rw [strs_ok q h2] at h1
        exact ⟨_, a, ys, vw_str hx, rfl, .inr h1, by assumption, k _ (.str _)⟩
      · cases e
    · cases e
  · cases e
section
variable {X : Cx} {a b e : Expr} {wa wb : DTE} {p pos : Pos}
theorem de_scr (ha : DE X a wa) (hb : DE X b wb) (hs : PlainIx b) : DE X (.Subscript a b pos) (wScr wa wb) := by
  obtain ⟨ta, pa, ha⟩ := ha
  obtain ⟨tb, pb, hb⟩ := hb
  refine ⟨_, pe_ix ix_list pa pb hs, fun G H As σ ρ κ P Q c p w k => ?_⟩
  refine ha G H As σ ρ κ _ _ c p w fun v1 r1 G1 H1 As1 κ1 s1 c1 p1 i1 w1 => ?_
  cases r1 with
  | s ns =>
    refine hb G1 H1 As1 σ ρ κ1 _ _ c1 p1 w1 fun v2 r2 G2 H2 As2 κ2 s2 c2 p2 i2 w2 => ?_
    have i1' : It X.K G1 As1 v1 (.s ns) := i1
    obtain ⟨l, rfl, hl⟩ := s2.it i1'
    cases r2 with
    | d y =>
      cases y with
      | int i =>
        obtain ⟨n, en, w3⟩ := w2.ex
        have i2 : Rp X.K G2 v2 (.int i) := i2
        cases i2
        refine ⟨l, _, i, .int n, rfl, rfl, ex_sl c2.ext hl, ?_, k _ (.d (.int n)) G2 H2 As2 κ2 (s1.trans s2) c2 p2 (.int _) w3⟩
        unfold atI at en ⊢
        rw [List.length_map]
        cases q : ixN ns.length i with
        | none => rw [q] at en; cases en
        | some j =>
          rw [q] at en
          show (ns.map V.int)[j]? = some (V.int n)
          rw [List.getElem?_map, show ns[j]? = some n from en]
          rfl
      | _ => exact w2.elim
    | _ => exact w2.elim
  | _ => exact w1.elim
/-- len(script) -/
def wLenS (wa : DTE) : DTE := fun ρ κ P => wa ρ κ fun r κ1 => match r with
  | .s ns => P (.d (.int ns.length)) κ1
  | _ => False
theorem de_lenS (hm : X.mg "len" = none) (ha : DE X e wa) (hg : Gl X "len" := by rfl) (hs : starEach [e] X.env = (false, eval e X.env) :: starEach [] X.env := by rfl) (hpl : (backTo pos (starEach [] X.env)).any (·.1) = false := by rfl) : DE X (.Call (.Name "len" p) [e] [] pos) (wLenS wa) := by
  obtain ⟨t, pt, ha⟩ := ha
  refine ⟨_, pe_callB call_len_seq hg hm (by decide +kernel) (pa_cons pt pa_nil hs) (by decide) (by decide) hs hpl, fun G H As σ ρ κ P Q c p w k => ?_⟩
  refine ha G H As σ ρ κ _ _ c p w fun v1 r1 G1 H1 As1 κ1 s1 c1 p1 i1 w1 => ?_
  cases r1 with
  | s ns =>
    obtain ⟨l, rfl, hl⟩ := i1
    refine ⟨l, _, rfl, .inl (ex_sl c1.ext hl), ?_⟩
    rw [List.length_map]
    exact k _ (.d (.int ns.length)) G1 H1 As1 κ1 s1 c1 p1 (.int _) w1
  | _ => exact w1.elim
end
end DL
namespace DL
open PySem PySem.Spec PyProof.Rows L2
section
variable {prog : Program} {w : World} {A : Around} {E : Value → Shared → Prop} {s : Shared}
end
section
variable {X : Cx} {pos spos : Pos} {e : Expr} {es : List Expr} {js is : List Nat} {wg : DTG} {gs : List PyData → Rho → Kap → (Rho → Kap → Prop) → Prop}
def wStar (n i : Nat) (gs : List PyData → Rho → Kap → (Rho → Kap → Prop) → Prop) : DTG := fun r ρ κ P => match r with
  | .d (.tuple xs) => i < n ∧ n ≤ xs.length + 1 ∧ xs.length ≤ 16384 ∧ gs (xs.take i ++ [.list ((xs.drop i).take (xs.length + 1 - n))] ++ (xs.drop i).drop (xs.length + 1 - n)) ρ κ P
  | _ => False
end
end DL
namespace DL
open PySem PySem.Spec PyProof.Rows L2
section
variable {X : Cx} {pos : Pos} {e a b : Expr} {wr : DTA} {we : DTE}
/-- a, b = e1, e2 by a tuple (a name is a cell) -/
theorem ds_tt (i j : Nat) {x y : Str} {px py pt : Pos} {kt k2 : Nat} {pt2 : Pos} (hc : X.calm = true) (hN : X.N.Nodup) (ha : DA X [a, b] wr) (hi : X.N[i]? = some x := by rfl) (hj : X.N[j]? = some y := by rfl)
    (hx : Loc X.env.scope x := by first | exact Or.inl rfl | exact Or.inr rfl) (hy : Loc X.env.scope y := by first | exact Or.inl rfl | exact Or.inr rfl)
    (hf : X.fn x = true ∨ X.env.scope.names.lookup x = some .local := by first | exact .inl rfl | exact .inr rfl) (hf' : X.fn y = true ∨ X.env.scope.names.lookup y = some .local := by first | exact .inl rfl | exact .inr rfl)
    (hs : swapsWithSole [.Tuple [.Name x px, .Name y py] kt pt] (.Tuple [a, b] k2 pt2) pos.line X.env = pure false := by rfl) (hw : swappedStores [.Tuple [.Name x px, .Name y py] kt pt] (.Tuple [a, b] k2 pt2) X.env = pure none := by rfl) :
    DS X (.Assign [.Tuple [.Name x px, .Name y py] kt pt] (.Tuple [a, b] k2 pt2) pos) (wPar i j wr) := by
  obtain ⟨t, ptt, ha⟩ := ha
  refine ⟨_, ps_asg (pe_tup ptt) (pg_tup (n := 2) hc (pgs_cons (pg_name hN hi hx hf) (pgs_cons (pg_name hN hj hy hf') pgs_nil))) hs hw, fun G H As σ ρ κ E D c p w r => ?_⟩
  refine ha G H As σ ρ κ _ _ c p w fun vs rs G1 H1 As1 κ1 s1 c1 p1 i1 l1 w1 => ?_
  match rs, vs, i1, w1 with
  | [q1, q2], _, .cons (a := v1) h1 (.cons (a := v2) h2 .nil), w1 =>
    refine ⟨by show 2 ≤ sizeLine; decide, fun q hq => ?_⟩
    refine ⟨q, [v1, v2], rfl, sqt_of upd_same, rfl, v1, [v2], rfl, v2, [], rfl, rfl, ?_⟩
    have st : Step G1 H1 As1 G1 (upd H1 q (.tup [v1, v2])) As1 := Step.fresh hq
    exact r.nx _ _ G1 _ As1 κ1 (s1.trans st) (c1.fresh hq) ((p1.put i h1).put j h2) w1
  | [], _, _, w1 => exact w1.elim
  | [_], _, _, w1 => exact w1.elim
  | _ :: _ :: _ :: _, _, _, w1 => exact w1.elim
/-- x op= e, ints -/
def wAug (i : Nat) (f : Int → Int → Int) (we : DTE) : DTS := fun E ρ κ => match ρ[i]? with
  | some (some (.d (.int a))) => we ρ κ fun r κ1 => match r with
    | .d (.int b) => E.nx (ρ.set i (some (.d (.int (f a b))))) κ1
    | _ => False
  | _ => False
/-- a module's constant -/
theorem de_glob {x : Str} {v : V} {u : Value} {d : PyData} {pos : Pos} (hm : X.mg x = some u) (r : RelV v u) (hx : ∀ G : Hp, Rp X.K G v d) (hg : Gl X x := by rfl) (hd : (x == ("__debug__" : Str)) = false := by decide) : DE X (.Name x pos) (wC d) := de_c (pe_glob hg hm r hd) hx
theorem de_globI {x : Str} {i : Int} {t : Tok} {pos : Pos} (hm : X.mg x = some (.int i t)) (hg : Gl X x := by rfl) (hd : (x == ("__debug__" : Str)) = false := by decide) : DE X (.Name x pos) (wC (.int i)) := de_glob (v := .int i) hm ⟨t, rfl⟩ (fun _ => .int i) hg hd
theorem de_globS {x z : Str} {t : Tok} {pos : Pos} (hm : X.mg x = some (.str z t)) (hg : Gl X x := by rfl) (hd : (x == ("__debug__" : Str)) = false := by decide) : DE X (.Name x pos) (wC (.str z)) := de_glob (v := .str z) hm ⟨t, rfl⟩ (fun _ => .str z) hg hd
end
theorem room65 {k : Nat} {A : Around} (r : RoomG k A) : A.units + 65 < cLine := by have := r.toRoom.un; omega
theorem room80 {k : Nat} {A : Around} (r : RoomG k A) : A.units + 80 < cLine := by have := r.toRoom.un; omega
end DL
namespace DL
open PySem PySem.Spec PyProof.Rows L2
section
variable {E : DEnds} {ρ : Rho} {κ : Kap} {P : R → Kap → Prop} {wa wb we : DTE} {wr : DTA} {wt wu : DTT} {g : DTG} {a b : DTS}
@[simp] theorem st_d (x : PyData) : (R.d x).st = .d x := rfl
@[simp] theorem st_c (k : Nat) : (R.c k).st = .c k := rfl
@[simp] theorem st_f (xs : List PyData) : (R.f xs).st = .d (.list xs) := rfl
@[simp] theorem st_s (ns : List Int) : (R.s ns).st = .s ns := rfl
@[simp] theorem val_d (x : PyData) : val κ (.d x) = some x := rfl
@[simp] theorem val_f (xs : List PyData) : val κ (.f xs) = some (.list xs) := rfl
theorem val_c {k : Nat} {xs : List PyData} (h : κ[k]? = some (.l xs)) : val κ (.c k) = some (.list xs) := by unfold val; simp only [h]
@[simp] theorem val_c0 (xs : List PyData) (κ : Kap) : val (.l xs :: κ) (.c 0) = some (.list xs) := rfl
@[simp] theorem val_c1 (c : Cell) (xs : List PyData) (κ : Kap) : val (c :: .l xs :: κ) (.c 1) = some (.list xs) := rfl
@[simp] theorem dat_d (x : PyData) : dat κ (.d x) = some (x, κ) := rfl
@[simp] theorem dat_f (xs : List PyData) : dat κ (.f xs) = some (.list xs, κ) := rfl
@[simp] theorem arg_d (x : PyData) : arg κ (.d x) = some (.d x, κ) := rfl
@[simp] theorem arg_s (ns : List Int) : arg κ (.s ns) = some (.s ns, κ) := rfl
@[simp] theorem dats_nil : dats κ [] = some ([], κ) := rfl
@[simp] theorem dats_d (x : PyData) (rs : List R) : dats κ (.d x :: rs) = (match dats κ rs with
  | some (xs, κ1) => some (x :: xs, κ1)
  | none => none) := rfl
@[simp] theorem args_nil : args κ [] = some ([], κ) := rfl
@[simp] theorem args_d (x : PyData) (rs : List R) : args κ (.d x :: rs) = (match args κ rs with
  | some (xs, κ1) => some (.d x :: xs, κ1)
  | none => none) := rfl
@[simp] theorem args_s (ns : List Int) (rs : List R) : args κ (.s ns :: rs) = (match args κ rs with
  | some (xs, κ1) => some (.s ns :: xs, κ1)
  | none => none) := rfl
@[simp] theorem vals_nil : vals κ [] = some [] := rfl
@[simp] theorem vals_cons (r : R) (rs : List R) : vals κ (r :: rs) = (match val κ r, vals κ rs with
  | some x, some xs => some (x :: xs)
  | _, _ => none) := rfl
@[simp] theorem Opt_some {α : Type} (x : α) (k : α → Prop) : Opt (some x) k = k x := rfl
@[simp] theorem Opt_none {α : Type} (k : α → Prop) : Opt none k = False := rfl
@[simp] theorem s_var (i : Nat) : wVar i ρ κ P = (match ρ[i]? with
  | some (some r) => P r κ
  | _ => False) := rfl
@[simp] theorem s_c (x : PyData) : wC x ρ κ P = P (.d x) κ := rfl
@[simp] theorem s_bin (f : PyData → PyData → Option Out) : wBin f wa wb ρ κ P = wa ρ κ fun r1 κ1 => wb ρ κ1 fun r2 κ2 => Opt (val κ2 r1.st) fun x => Opt (val κ2 r2.st) fun y => Opt (f x y) fun o => P o.r κ2 := rfl
@[simp] theorem s_un (f : PyData → Option Out) : wUn f wa ρ κ P = wa ρ κ fun r1 κ1 => Opt (val κ1 r1.st) fun x => Opt (f x) fun o => P o.r κ1 := rfl
@[simp] theorem s_cb (f : List PyData → Option Out) : wCB f wr ρ κ P = wr ρ κ fun rs κ1 => Opt (vals κ1 rs) fun xs => Opt (f xs) fun o => P o.r κ1 := rfl
@[simp] theorem s_nil (P : List R → Kap → Prop) : wNil ρ κ P = P [] κ := rfl
@[simp] theorem s_cons (P : List R → Kap → Prop) : wCons wa wr ρ κ P = wa ρ κ fun r κ1 => wr ρ κ1 fun rs κ2 => P (r.st :: rs) κ2 := rfl
@[simp] theorem s_consM (m : Bool) (P : List R → Kap → Prop) : wConsM m wa wr ρ κ P = wa ρ κ fun r κ1 => wr ρ (sto m r κ1).2 fun rs κ2 => P ((sto m r κ1).1 :: rs) κ2 := rfl
@[simp] theorem s_tup : wTup wr ρ κ P = wr ρ κ fun rs κ1 => Opt (dats κ1 rs) fun q => q.1.length ≤ sizeLine ∧ P (.d (.tuple q.1)) q.2 := rfl
@[simp] theorem s_lst : wLst wr ρ κ P = wr ρ κ fun rs κ1 => Opt (dats κ1 rs) fun q => q.1.length ≤ sizeLine ∧ P (.f q.1) q.2 := rfl
@[simp] theorem s_call (Φ : List R → (R → Prop) → Prop) : wCall Φ wr ρ κ P = wr ρ κ fun rs κ1 => Opt (args κ1 rs) fun q => Φ q.1 fun r => P r q.2 := rfl
@[simp] theorem s_callL (Φ : List PyData → List R → (R → List PyData → Prop) → Prop) : wCallL Φ wr ρ κ P = wr ρ κ fun rs κ1 => Opt (lend κ1 rs) fun q => Φ q.2.1 q.2.2.1 fun r bs => P (r.lab q.1) (q.2.2.2.set q.1 (.l bs)) := rfl
@[simp] theorem s_callK (Φ : List R → (R → Prop) → Prop) (q : List Nat) (wk : DTA) : wCallK Φ q wr wk ρ κ P = wr ρ κ fun rs κ1 => wk ρ κ1 fun ks κ2 => Opt (args κ2 (rs ++ ks)) fun z => Φ (pick q z.1) fun r => P r z.2 := rfl
@[simp] theorem lab_d (k : Nat) (x : PyData) : (R.d x).lab k = .d x := rfl
@[simp] theorem lab_f (k : Nat) (x : List PyData) : (R.f x).lab k = .f x := rfl
@[simp] theorem lend_c (k : Nat) (rs : List R) : lend κ (.c k :: rs) = (match args κ rs with
  | some (xs, κ1) => match κ1[k]? with
    | some (.l bs) => some (k, bs, xs, κ1)
    | _ => none
  | none => none) := rfl
@[simp] theorem s_tru (P : Bool → Kap → Prop) : wTru wa ρ κ P = wa ρ κ fun r κ1 => Opt (val κ1 r.st) fun x => Opt (truth x) fun b => P b κ1 := rfl
@[simp] theorem s_B (P : Bool → Kap → Prop) : wB wa ρ κ P = wa ρ κ fun r κ1 => match r with
  | .d (.bool b) => P b κ1
  | _ => False := rfl
@[simp] theorem s_not (P : Bool → Kap → Prop) : wNot wt ρ κ P = wt ρ κ fun b κ1 => P (!b) κ1 := rfl
@[simp] theorem s_and (P : Bool → Kap → Prop) : wAnd wt wu ρ κ P = wt ρ κ fun b κ1 => if b = true then wu ρ κ1 P else P false κ1 := rfl
@[simp] theorem s_or (P : Bool → Kap → Prop) : wOr wt wu ρ κ P = wt ρ κ fun b κ1 => if b = true then P true κ1 else wu ρ κ1 P := rfl
@[simp] theorem s_andV : wAndV wa wb ρ κ P = wa ρ κ fun r κ1 => match r with
  | .d (.bool z) => if z = true then wb ρ κ1 P else P (.d (.bool false)) κ1
  | _ => False := rfl
@[simp] theorem s_orV : wOrV wa wb ρ κ P = wa ρ κ fun r κ1 => match r with
  | .d (.bool z) => if z = true then P (.d (.bool true)) κ1 else wb ρ κ1 P
  | _ => False := rfl
@[simp] theorem s_notV : wNotV wa ρ κ P = wa ρ κ fun r κ1 => match r with
  | .d (.bool z) => P (.d (.bool (!z))) κ1
  | _ => False := rfl
@[simp] theorem s_ifx : wIf wt wa wb ρ κ P = wt ρ κ fun z κ1 => if z = true then wa ρ κ1 P else wb ρ κ1 P := rfl
@[simp] theorem s_name (i : Nat) (r : R) (P : Rho → Kap → Prop) : wName i r ρ κ P = P (ρ.set i (some r)) κ := rfl
@[simp] theorem s_tupG (n : Nat) (gs : List PyData → Rho → Kap → (Rho → Kap → Prop) → Prop) (xs : List PyData) (P : Rho → Kap → Prop) : wTupG n gs (.d (.tuple xs)) ρ κ P = (xs.length = n ∧ gs xs ρ κ P) := rfl
@[simp] theorem s_gcons (gs : List PyData → Rho → Kap → (Rho → Kap → Prop) → Prop) (x : PyData) (xs : List PyData) (P : Rho → Kap → Prop) : wgCons g gs (x :: xs) ρ κ P = g (.d x) ρ κ fun ρ1 κ1 => gs xs ρ1 κ1 P := rfl
@[simp] theorem s_gnil (P : Rho → Kap → Prop) : wgNil [] ρ κ P = P ρ κ := rfl
@[simp] theorem s_star (n i : Nat) (gs : List PyData → Rho → Kap → (Rho → Kap → Prop) → Prop) (xs : List PyData) (P : Rho → Kap → Prop) : wStar n i gs (.d (.tuple xs)) ρ κ P = (i < n ∧ n ≤ xs.length + 1 ∧ xs.length ≤ 16384 ∧ gs (xs.take i ++ [.list ((xs.drop i).take (xs.length + 1 - n))] ++ (xs.drop i).drop (xs.length + 1 - n)) ρ κ P) := rfl
@[simp] theorem s_next : wNext E ρ κ = E.nx ρ κ := rfl
@[simp] theorem s_seq : wSeq a b E ρ κ = a { E with nx := b E } ρ κ := rfl
@[simp] theorem s_asg : wAsg we g E ρ κ = we ρ κ fun r κ1 => g r.st ρ κ1 E.nx := rfl
@[simp] theorem s_set (m : Bool) (i : Nat) : wSet m i we E ρ κ = we ρ κ fun r κ1 => E.nx (ρ.set i (some (sto m r κ1).1)) (sto m r κ1).2 := rfl
@[simp] theorem sto_t (xs : List PyData) : sto true (.f xs) κ = (.c κ.length, κ ++ [.l xs]) := rfl
@[simp] theorem sto_f (r : R) : sto false r κ = (r.st, κ) := by cases r <;> rfl
@[simp] theorem sto_d (m : Bool) (x : PyData) : sto m (.d x) κ = (.d x, κ) := by cases m <;> rfl
@[simp] theorem sto_c (m : Bool) (k : Nat) : sto m (.c k) κ = (.c k, κ) := by cases m <;> rfl
@[simp] theorem s_par (i j : Nat) : wPar i j wr E ρ κ = wr ρ κ fun rs κ1 => match rs with
  | [r, q] => E.nx ((ρ.set i (some r)).set j (some q)) κ1
  | _ => False := rfl
@[simp] theorem s_drop : wDrop we E ρ κ = we ρ κ fun _ κ1 => E.nx ρ κ1 := rfl
@[simp] theorem s_ret : wRet we E ρ κ = we ρ κ E.rt := rfl
@[simp] theorem s_retN : wRetN E ρ κ = E.rt (.d .none) κ := rfl
@[simp] theorem s_if : wIfS wt a b E ρ κ = wt ρ κ fun z κ1 => if z = true then a E ρ κ1 else b E ρ κ1 := rfl
@[simp] theorem s_brk : wBrk E ρ κ = E.bk ρ κ := rfl
@[simp] theorem s_cnt : wCnt E ρ κ = E.ct ρ κ := rfl
@[simp] theorem s_for (wi : DTI) : wFor wi g b E ρ κ = wi ρ κ fun xs ok κ1 => forL ok g b E xs ρ κ1 := rfl
@[simp] theorem s_lc (wi : DTI) (vs : List Nat) : wLc wi g wt we vs ρ κ P = wi ρ κ fun xs ok κ1 => lcL ok g wt we (wipeR ρ vs) P xs [] κ1 := rfl
@[simp] theorem s_yes (P : Bool → Kap → Prop) : wYes ρ κ P = P true κ := rfl
@[simp] theorem s_sq (P : List PyData → (Kap → Prop) → Kap → Prop) : wSq we ρ κ P = we ρ κ fun r κ1 => Opt (val κ1 r.st) fun x => match x with
  | .list xs => P xs (fun κ' => val κ' r.st = some (.list xs)) κ1
  | .tuple xs => P xs (fun κ' => val κ' r.st = some (.tuple xs)) κ1
  | .str z => P (z.cps.toList.map fun c => .str ⟨#[c]⟩) (fun _ => True) κ1
  | _ => False := rfl
@[simp] theorem s_rng1 (P : List PyData → (Kap → Prop) → Kap → Prop) : wRng1 wr ρ κ P = wr ρ κ fun rs κ1 => match rs with
  | [.d (.int n)] => -(2 ^ 62) ≤ n ∧ n < 2 ^ 62 ∧ P ((List.range n.toNat).map fun (i : Nat) => .int (0 + (i : Int))) (fun _ => True) κ1
  | _ => False := rfl
@[simp] theorem s_rev (P : List PyData → (Kap → Prop) → Kap → Prop) : wRev wr ρ κ P = wr ρ κ fun rs κ1 => match rs with
  | [r] => Opt (val κ1 r) fun x => match x with
    | .list xs => P xs.reverse (fun κ' => val κ' r = some (.list xs)) κ1
    | _ => False
  | _ => False := rfl
@[simp] theorem s_enum (P : List PyData → (Kap → Prop) → Kap → Prop) : wEnum wr ρ κ P = wr ρ κ fun rs κ1 => match rs with
  | [r] => Opt (val κ1 r) fun x => match x with
    | .list xs => P (enumD 0 xs) (fun κ' => val κ' r = some (.list xs)) κ1
    | .tuple xs => P (enumD 0 xs) (fun κ' => val κ' r = some (.tuple xs)) κ1
    | _ => False
  | _ => False := rfl
@[simp] theorem s_zip (P : List PyData → (Kap → Prop) → Kap → Prop) : wZip wr ρ κ P = wr ρ κ fun rs κ1 => match rs with
  | [r, q] => Opt (val κ1 r) fun x => Opt (val κ1 q) fun y => match x, y with
    | .list xs, .list ys => P (zipD xs ys) (fun κ' => val κ' r = some (.list xs) ∧ val κ' q = some (.list ys)) κ1
    | .tuple xs, .tuple ys => P (zipD xs ys) (fun κ' => val κ' r = some (.tuple xs) ∧ val κ' q = some (.tuple ys)) κ1
    | _, _ => False
  | _ => False := rfl
@[simp] theorem forL_nil (ok : Kap → Prop) : forL ok g b E [] ρ κ = E.nx ρ κ := rfl
@[simp] theorem forL_cons (ok : Kap → Prop) (x : PyData) (xs : List PyData) : forL ok g b E (x :: xs) ρ κ = g (.d x) ρ κ fun ρ1 κ1 => b { nx := fun ρ2 κ2 => ok κ2 ∧ forL ok g b E xs ρ2 κ2, rt := E.rt, bk := E.nx, ct := fun ρ2 κ2 => ok κ2 ∧ forL ok g b E xs ρ2 κ2 } ρ1 κ1 := rfl
@[simp] theorem lcL_nil (ok : Kap → Prop) (acc : List PyData) : lcL ok g wt we ρ P [] acc κ = P (.f acc) κ := rfl
@[simp] theorem lcL_cons (ok : Kap → Prop) (x : PyData) (xs acc : List PyData) : lcL ok g wt we ρ P (x :: xs) acc κ = g (.d x) ρ κ fun ρ1 κ1 => wt ρ1 κ1 fun b κ2 => if b = true then we ρ1 κ2 fun r κ3 => Opt (dat κ3 r.st) fun q => acc.length < sizeLine ∧ ok q.2 ∧ lcL ok g wt we ρ P xs (acc ++ [q.1]) q.2 else ok κ2 ∧ lcL ok g wt we ρ P xs acc κ2 := rfl
@[simp] theorem wipeR_nil : wipeR ρ [] = ρ := rfl
@[simp] theorem wipeR_cons (v : Nat) (vs : List Nat) : wipeR ρ (v :: vs) = (wipeR ρ vs).set v none := rfl
@[simp] theorem s_append : wAppend wa wb ρ κ P = wa ρ κ fun ro κ1 => (match ro with
  | .c k => (∃ zs, κ1[k]? = some (.l zs)) ∧ wb ρ κ1 fun r κ2 => Opt (dat κ2 r.st) fun q => match q.2[k]? with
    | some (.l xs) => xs.length < sizeLine ∧ P (.d .none) (q.2.set k (.l (xs ++ [q.1])))
    | _ => False
  | _ => False) := rfl
@[simp] theorem s_sub (r : R) (P : Rho → Kap → Prop) : wSub wa wb r ρ κ P = Opt (dat κ r) fun q => wa ρ q.2 fun ro κ1 => match ro with
  | .c k => wb ρ κ1 fun ri κ2 => match ri, κ2[k]? with
    | .d (.int i), some (.l xs) => Opt (ixN xs.length i) fun j => P ρ (κ2.set k (.l (xs.set j q.1)))
    | _, _ => False
  | _ => False := rfl
@[simp] theorem out_v (x : PyData) : (Out.v x).r = .d x := rfl
@[simp] theorem out_n (xs : List PyData) : (Out.n xs).r = .f xs := rfl
@[simp] theorem out_t (xs : List PyData) : (Out.t xs).r = .d (.tuple xs) := rfl
@[simp] theorem outR_d (n : Nat) (x : PyData) : outR κ n (.d x) = some (.d x) := rfl
@[simp] theorem outR_f (n : Nat) (x : List PyData) : outR κ n (.f x) = some (.f x) := rfl
@[simp] theorem endL_d (bs : List PyData) (κ : Kap) (x : PyData) (Pd : R → List PyData → Prop) : endL (.l bs :: κ) (.d x) Pd = Pd (.d x) bs := rfl
@[simp] theorem endL_f (bs : List PyData) (κ : Kap) (x : List PyData) (Pd : R → List PyData → Prop) : endL (.l bs :: κ) (.f x) Pd = Pd (.f x) bs := rfl
@[simp] theorem s_isi (T : Ty) : wIsi T wa ρ κ P = wa ρ κ fun r κ1 => Opt (val κ1 r.st) fun x => P (.d (.bool (isi x T))) κ1 := rfl
@[simp] theorem s_isi2 (T U : Ty) : wIsi2 T U wa ρ κ P = wa ρ κ fun r κ1 => Opt (val κ1 r.st) fun x => P (.d (.bool (isi x T || isi x U))) κ1 := rfl
@[simp] theorem s_bm (T : String) (f : PyData → List PyData → Option Out) : wBM T f wa wr ρ κ P = wa ρ κ fun r κ1 => Opt (val κ1 r.st) fun x0 => tyOk T x0 ∧ wr ρ κ1 fun rs κ2 => Opt (val κ2 r.st) fun x => Opt (vals κ2 rs) fun xs => Opt (f x xs) fun o => P o.r κ2 := rfl
@[simp] theorem s_scr : wScr wa wb ρ κ P = wa ρ κ fun r κ1 => match r with
  | .s ns => wb ρ κ1 fun q κ2 => match q with
    | .d (.int i) => Opt (atI ns i) fun n => P (.d (.int n)) κ2
    | _ => False
  | _ => False := rfl
@[simp] theorem s_lenS : wLenS wa ρ κ P = wa ρ κ fun r κ1 => match r with
  | .s ns => P (.d (.int ns.length)) κ1
  | _ => False := rfl
@[simp] theorem s_sl (wl wh : DTO) : wSl we wl wh ρ κ P = we ρ κ fun r κ1 => wl ρ κ1 fun lo κ2 => wh ρ κ2 fun hi κ3 => Opt (val κ3 r.st) fun x => Opt (slD x lo hi) fun o => P o.r κ3 := rfl
@[simp] theorem s_noP (P : Option Int → Kap → Prop) : wNoP ρ κ P = P none κ := rfl
@[simp] theorem s_P (P : Option Int → Kap → Prop) : wP we ρ κ P = we ρ κ fun r κ1 => match r with
  | .d (.int i) => P (some i) κ1
  | _ => False := rfl
@[simp] theorem s_revS : wRevS wa ρ κ P = wa ρ κ fun r κ1 => Opt (val κ1 r.st) fun y => match y with
  | .list xs => P (.f xs.reverse) κ1
  | _ => False := rfl
@[simp] theorem s_aug (i : Nat) (f : Int → Int → Int) : wAug i f we E ρ κ = (match ρ[i]? with
  | some (some (.d (.int a))) => we ρ κ fun r κ1 => match r with
    | .d (.int b) => E.nx (ρ.set i (some (.d (.int (f a b))))) κ1
    | _ => False
  | _ => False) := rfl
@[simp] theorem addD_int (i j : Int) : addD (.int i) (.int j) = some (.v (.int (i + j))) := rfl
theorem addD_list {xs ys : List PyData} (h : xs.length + ys.length ≤ sizeLine) : addD (.list xs) (.list ys) = some (.n (xs ++ ys)) := if_pos h
theorem addD_str {x y : Str} (h : x.length + y.length ≤ sizeLine) : addD (.str x) (.str y) = some (.v (.str (x ++ y))) := if_pos h
@[simp] theorem subD_int (i j : Int) : subD (.int i) (.int j) = some (.v (.int (i - j))) := rfl
theorem modD_int {i j : Int} (h : 0 < j) : modD (.int i) (.int j) = some (.v (.int (i % j))) := by
  unfold modD intD
  simp only [if_pos h]
  rfl
theorem fdivD_int {i j : Int} (h : 0 < j) (h2 : j < 1073741824) : fdivD (.int i) (.int j) = some (.v (.int (i / j))) := by
  unfold fdivD intD
  simp only [if_pos (And.intro h h2)]
  rfl
theorem powD_int {i j : Int} (h : 0 ≤ j) (h2 : j ≤ 1000000) (h3 : i.natAbs < 2 ^ 64) : powD (.int i) (.int j) = some (.v (.int (i ^ j.toNat))) := by
  unfold powD intD
  simp only [if_pos (And.intro h (And.intro h2 h3))]
  rfl
theorem mulD_int {i j : Int} (h : CMul i j) : mulD (.int i) (.int j) = some (.v (.int (i * j))) := by
  unfold mulD
  simp only [if_pos h]
@[simp] theorem negD_int (i : Int) : negD (.int i) = some (.v (.int (-i))) := rfl
@[simp] theorem ordD_int (fi : Int → Int → Bool) (fs : List Nat → List Nat → Bool) (i j : Int) : ordD fi fs (.int i) (.int j) = some (.v (.bool (fi i j))) := rfl
@[simp] theorem ciD_int (f : Int → Int → Bool) (i j : Int) : ciD f (.int i) (.int j) = some (.v (.bool (f i j))) := rfl
theorem eqD_of {neg : Bool} {x y : PyData} (hx : SeqAt.shaped x = true) (hy : SeqAt.shaped y = true) : eqD neg x y = some (.v (.bool (if neg then !PyData.eqv x y else PyData.eqv x y))) := by
  unfold eqD
  split
  · rw [PyData.eqv]
    rename_i a b
    rw [show (a == b) = decide (a = b) from by rw [Bool.eq_iff_iff]; simp]
  · exact if_pos ⟨hx, hy⟩
theorem ixD_list {xs : List PyData} {i : Int} {x : PyData} (h : atI xs i = some x) : ixD (.list xs) (.int i) = some (.v x) := by unfold ixD; simp only [h]; rfl
theorem ixD_tuple {xs : List PyData} {i : Int} {x : PyData} (h : atI xs i = some x) : ixD (.tuple xs) (.int i) = some (.v x) := by unfold ixD; simp only [h]; rfl
@[simp] theorem lenD_list (xs : List PyData) : lenD [.list xs] = some (.v (.int xs.length)) := rfl
@[simp] theorem lenD_tuple (xs : List PyData) : lenD [.tuple xs] = some (.v (.int xs.length)) := rfl
@[simp] theorem absD_int (i : Int) : absD [.int i] = some (.v (.int (if i < 0 then -i else i))) := rfl
@[simp] theorem intC_int (i : Int) : intC [.int i] = some (.v (.int i)) := rfl
@[simp] theorem intC_bool (b : Bool) : intC [.bool b] = some (.v (.int (if b then 1 else 0))) := rfl
@[simp] theorem max2D_int (i j : Int) : max2D [.int i, .int j] = some (.v (.int (if j > i then j else i))) := rfl
@[simp] theorem min2D_int (i j : Int) : min2D [.int i, .int j] = some (.v (.int (if j < i then j else i))) := rfl
@[simp] theorem listC_list (xs : List PyData) : listC [.list xs] = some (.n xs) := rfl
@[simp] theorem listC_tuple (xs : List PyData) : listC [.tuple xs] = some (.n xs) := rfl
@[simp] theorem tupC_list (xs : List PyData) : tupC [.list xs] = some (.t xs) := rfl
@[simp] theorem tupC_tuple (xs : List PyData) : tupC [.tuple xs] = some (.t xs) := rfl
@[simp] theorem slD_list (xs : List PyData) (lo hi : Option Int) : slD (.list xs) lo hi = some (.n (cut xs lo hi)) := rfl
@[simp] theorem slD_tuple (xs : List PyData) (lo hi : Option Int) : slD (.tuple xs) lo hi = some (.t (cut xs lo hi)) := rfl
theorem slD_str {z : Str} (lo hi : Option Int) (h : z.length ≤ sizeLine) : slD (.str z) lo hi = some (.v (.str (cutS z lo hi))) := if_pos h
theorem sortC_list {xs : List PyData} (h : SortOk xs) : sortC [.list xs] = some (.n (xs.mergeSort dLe)) := by
  unfold sortC
  simp only [if_pos h]
end
end DL
namespace DL
open PySem PySem.Spec PyProof.Rows L2
/-- what flies: an error of that class, new, with such fields -/
def Xc (K : PySem.W.Frag) (H0 G H : Hp) (cls : Value) (d : Option Addr) (cn : Str) (fs : List (Str × PyData)) : Prop := ∃ C, cls = .ref C ∧ clsA K cn C ∧ ((d = none ∧ fs = []) ∨ ∃ dd kvs, d = some dd ∧ H0 dd = none ∧ G dd = none ∧ H dd = some (.xd kvs) ∧ Paired (fun (kv : Str × V) (f : Str × PyData) => kv.1 = f.1 ∧ Rp K G kv.2 f.2) kvs fs)
abbrev PhX := List R → (R → Prop) → (Str → List (Str × PyData) → Prop) → Prop
def spX (K : PySem.W.Frag) (n : Nat) (Φ : PhX) : Sp := fun vs H Q E => vs.length = n ∧ ∃ (G : Hp) (rs : List R) (P : R → Prop) (PX : Str → List (Str × PyData) → Prop), ExT K G H ∧ Paired (It K G []) vs rs ∧ Φ rs P PX ∧
  (∀ v r G' H', P r → ExT K G' H' → Step G H [] G' H' [] → Rv K H G' H' [] v r → Q v H') ∧
  (∀ cls d cn fs G' H', PX cn fs → ExT K G' H' → Step G H [] G' H' [] → Xc K H G' H' cls d cn fs → E cls d H')
section
variable {X : Cx} {CX : CXT} {k n : Nat} {f : Addr} {fd : FuncData} {ps : List Str} {sp : Sp} {E : L2.St → XK} {x : Str} {p pos : Pos} {e : Expr} {es : List Expr} {t : TA}
theorem pe_callGS (F : FnG X.prog X.w X.K X.mg X.base CX k f fd ps sp) (hr : RoomG k X.A) (hg : Gl X x) (hm : X.mg x = some (.ref f)) (hk : PySem.W.keepIn X.K (.ref f) = true) (hb : Binds X.K fd ps []) (hx : ∀ σ, PassesAt CX X σ (E σ)) (ha : PA X (e :: es) t)
    (hdb : (x == ("__debug__" : Str)) = false) (he : starEach (e :: es) X.env = (false, eval e X.env) :: starEach es X.env) (hpl : (backTo pos (starEach es X.env)).any (·.1) = false) : PE X (.Call (.Name x p) (e :: es) [] pos) (fun σ H Q => t σ H fun vs H1 => sp vs H1 Q (E σ)) := by
  constructor
  intro pins s σ H Q I h
  apply wpAny_Call_Name_kw
  apply ld_glob I hg hm ?_ hdb
  apply PySem.W.callWith_K (h₀ := X.base) I.ok.mod.kin hk ?_ he hpl
  apply thn (ha.run pos pins s σ H _ I h)
  rintro us s1 ⟨vs, H1, I1, rr, q⟩
  have ln : us.length = ps.length := rr.length.symm.trans (F.len _ _ _ _ q)
  refine ⟨I1.kIn, wpAny_call (codeAny_mono (F.go X.A X.stack s1 H1 ⟨us, []⟩ _ vs Q (E σ) hr I1.env0 ?_ rr q) fun r s' z => ?_)⟩
  · have := hb s1 us I1.kIn (by rw [List.append_nil]; exact ln)
    rw [List.append_nil] at this
    exact this
  cases r with
  | error er => exact hx σ pins H1 s1 er s' I1 z
  | ok fl =>
    cases fl with
    | ret u => exact I1.after z
    | _ => exact z.elim
end
theorem uni_A {X : Cx} {ι : Type} {g : ι → Cx} {es : List Expr} {w : DTA} (hK : ∀ i, (g i).K = X.K) (h : ∀ i : ι, DA (g i) es w) : ∃ t, (∀ i : ι, PA (g i) es t) ∧ ∀ (G H : Hp) (As : List Addr) (σ : L2.St) (ρ : Rho) (κ : Kap) (P : List R → Kap → Prop) (Q : List V → Hp → Prop), Cells X.K G H As κ → Places X.K G As σ ρ → w ρ κ P →
    (∀ vs rs G' H' As' κ', Step G H As G' H' As' → Cells X.K G' H' As' κ' → Places X.K G' As' σ ρ → Paired (It X.K G' As') vs rs → rs.length = es.length → P rs κ' → Q vs H') → t σ H Q := by
  obtain ⟨f, hf⟩ := Classical.skolem.mp h
  refine ⟨fun σ H Q => ∀ i, f i σ H Q, fun i => ⟨fun pos pins s σ H Q I q => (hf i).1.run pos pins s σ H Q I (q i)⟩, fun G H As σ ρ κ P Q c p w k i => ?_⟩
  have := (hf i).2 G H As σ ρ κ P Q (by rw [hK]; exact c) (by rw [hK]; exact p) w
  rw [hK] at this
  exact this k
def wTryX (Φ : PhX) (m : Bool) (i j n : Nat) (rns : List Str) (wr : DTA) : DTS := fun E ρ κ => wr ρ κ fun rs κ1 => Opt (args κ1 rs) fun q => Φ q.1 (fun r => E.nx (ρ.set i (some (sto m r q.2).1)) (sto m r q.2).2) (fun cn fs => cn ∈ rns ∧ n < ρ.length ∧ E.nx ((ρ.set j (some (.xe cn fs))).set n none) q.2)
theorem s_tryX {Φ : PhX} {m : Bool} {i j n : Nat} {rns : List Str} {wr : DTA} {E : DEnds} {ρ : Rho} {κ : Kap} : wTryX Φ m i j n rns wr E ρ κ = wr ρ κ fun rs κ1 => Opt (args κ1 rs) fun q => Φ q.1 (fun r => E.nx (ρ.set i (some (sto m r q.2).1)) (sto m r q.2).2) (fun cn fs => cn ∈ rns ∧ n < ρ.length ∧ E.nx ((ρ.set j (some (.xe cn fs))).set n none) q.2) := rfl
/-- the classes that are named in the tuple: what is raised is one of them -/
structure ExcTab (K : PySem.W.Frag) (mg : Str → Option Value) (cns : List Str) (cs : List Addr) (rns : List Str) : Prop where
  cl : Paired (fun (x : Str) (c : Addr) => clsA K x c ∧ mg x = some (.ref c)) cns cs
  ex : ∀ (cn : Str) (C : Addr), cn ∈ rns → clsA K cn C → ∃ bs : List Bool, Paired (fun c b => PySem.W.exmOne K (.ref C) (.ref c) = some b) cs bs ∧ bs.any id = true
theorem pair_names {mg : Str → Option Value} {X : Cx} : ∀ {tys : List Expr} {cns : List Str} {cs : List Addr}, Paired (fun e (x : Str) => ∃ p, e = Expr.Name x p ∧ Gl X x ∧ (x == ("__debug__" : Str)) = false) tys cns → Paired (fun (x : Str) (c : Addr) => clsA X.K x c ∧ X.mg x = some (.ref c)) cns cs → Paired (fun e c => ∃ x p, e = Expr.Name x p ∧ Gl X x ∧ (x == ("__debug__" : Str)) = false ∧ X.mg x = some (.ref c)) tys cs
  | _, _, _, .nil, .nil => .nil
  | _, _, _, .cons h hs, .cons g gs => by
    obtain ⟨p, h1, h2, h3⟩ := h
    exact .cons ⟨_, p, h1, h2, h3, g.2⟩ (pair_names (mg := mg) hs gs)
theorem takesAt {X : Cx} {W : WX} (tk : L2.Takes X W) (σ : L2.St) : PassesAt (L2.CX X.prog X.w) X σ (WE W σ) := passAt tk σ
/-- a def that raises, as its caller knows it -/
structure CalX (P : Program) (w : World) (K : PySem.W.Frag) (mg : Str → Option Value) (base : Heap) (x : Str) (k : Nat) (ps : List Str) (sp : Sp) : Prop where
  ex : ∃ (f : Addr) (fd : FuncData), FnG P w K mg base (L2.CX P w) k f fd ps sp ∧ mg x = some (.ref f) ∧ PySem.W.keepIn K (.ref f) = true ∧ Binds K fd ps []
theorem CalX.mono {P : Program} {w : World} {K : PySem.W.Frag} {mg : Str → Option Value} {base : Heap} {x : Str} {j k : Nat} {ps : List Str} {sp : Sp} (C : CalX P w K mg base x j ps sp) (h : j ≤ k) : CalX P w K mg base x k ps sp := by
  obtain ⟨f, fd, F, r⟩ := C.ex
  exact ⟨f, fd, F.mono h, r⟩
section
variable {X : Cx} {k nn : Nat} {ps : List Str} {x : Str} {e : Expr} {es : List Expr} {wr : DTA}
theorem ds_tryX {Φ : PhX} {m : Bool} {i j n k0 : Nat} {y z en : Str} {tys : List Expr} {cns rns : List Str} {cs : List Addr} {pf pc pa py pt pz pe pz2 pos pos' : Pos} (T : ExcTab X.K X.mg cns cs rns) (C : CalX X.prog X.w X.K X.mg X.base x k ps (spX X.K nn Φ)) (hr : RoomG k X.A) (hn : nn = (e :: es).length) (nd : X.N.Nodup)
    (ha : ∀ u : List (Addr × Obj) × (Value → Shared → Prop), DA (X.tr u.1 u.2) (e :: es) wr)
    (hi : X.N[i]? = some y := by rfl) (hj : X.N[j]? = some z := by rfl) (hnn : X.N[n]? = some en := by rfl) (hjn : j ≠ n := by decide)
    (hs : X.stack = X.env :: X.outer := by rfl) (hf : X.env.frame = some X.env.locals := by rfl) (hex : X.ex = [] := by rfl)
    (ly : X.env.scope.names.lookup y = some .local := by rfl) (lz : X.env.scope.names.lookup z = some .local := by rfl) (ln : X.env.kindOf en = some NameKind.local := by rfl) (hfn : ∀ q, X.fn q = true := by intro _; rfl) (lv : Vis X.env.scope en := by exact .inl rfl) (hd1 : (en == ("__debug__" : Str)) = false := by decide) (hd2 : (en == ("__classdict__" : Str)) = false := by decide)
    (ht : Paired (fun e (x : Str) => ∃ p, e = Expr.Name x p ∧ Gl X x ∧ (x == ("__debug__" : Str)) = false) tys cns)
    (hst : ∀ e es', starEach (e :: es') X.env = (false, eval e X.env) :: starEach es' X.env ∨ ∀ x p, e ≠ Expr.Name x p) (hlt : tys.length ≤ 100 := by decide)
    (hsw : swapsWith (.Call (.Name x pf) (e :: es) [] pc) (some (.Name y py)) pa.line X.env = pure false := by rfl)
    (hsz : swapsWith (.Name en pe) (some (.Name z pz)) pz2.line X.env = pure false := by rfl)
    (hg : Gl X x := by rfl) (hdb : (x == ("__debug__" : Str)) = false := by decide)
    (he : starEach (e :: es) X.env = (false, eval e X.env) :: starEach es X.env := by rfl) (hpl : (backTo pc (starEach es X.env)).any (·.1) = false := by rfl) :
    DS X (.Try [.Assign [.Name y py] (.Call (.Name x pf) (e :: es) [] pc) pa] [.ExceptHandler (some (.Tuple tys k0 pt)) (some en) [.Assign [.Name z pz] (.Name en pe) pz2] pos'] [] [] pos) (wTryX Φ m i j n rns wr) := by
  obtain ⟨f, fd, F, hm, hk, hb⟩ := C.ex
  obtain ⟨ta, pta, hta⟩ := uni_A (X := X) (g := fun u : List (Addr × Obj) × (Value → Shared → Prop) => X.tr u.1 u.2) (fun _ => rfl) ha
  refine ⟨_, ps_tryT (cs := cs) hs hf hex nd hnn ln (pair_names (mg := X.mg) ht T.cl) hst hlt (fun W pn xe tk _ => pss_one (ps_set (X := X.tr pn xe) nd hi (.inl ly) (pe_callGS (X := X.tr pn xe) (E := fun σ => WE W σ) F hr hg hm hk hb (fun σ => takesAt tk σ) (pta (pn, xe)) hdb he hpl) hsw (.inl (hfn y)))) (fun a oe cls d pn hz hd => pss_one (ps_set (X := X.suite a ((a, oe) :: pn)) nd hj (.inl lz) (pe_var (i := n) hnn lv hd1 hd2) hsz (.inl (hfn z)))), fun G H As σ ρ κ E D c p w r => ?_⟩
  refine hta G H As σ ρ κ _ _ c p w fun vs rs G1 H1 As1 κ1 s1 c1 p1 i1 l1 w1 => ?_
  obtain ⟨⟨xs, κ2⟩, ea, w2⟩ := w1.ex
  obtain ⟨G2, s2, c2, i2⟩ := args_ok c1 i1 ea
  have s12 := s1.trans s2
  refine ⟨by rw [Paired.length i1, hn]; exact l1, G2, xs, _, _, c2.xt, i2, w2, fun v r' G' H' hP hE s3 rv => ?_, fun cls d cn fs G' H' hP hE s3 xc => ?_⟩
  · have st : Step G H As G' H' As1 := s12.trans s3.wide
    have c4 := c2.call s3 hE
    obtain ⟨G5, As5, s5, c5, i5, e1, e2⟩ := sto_ok m st c4 ((rv.wide c2).back s12)
    exact r.nx _ _ G5 H' As5 _ s5 c5 (((p.step st).mono e1 e2).put i i5) hP
  · obtain ⟨hcn, hnl, hP⟩ := hP
    obtain ⟨C0, rfl, hC, hfl⟩ := xc
    obtain ⟨bs, hbs, hany⟩ := T.ex cn C0 hcn hC
    refine ⟨bs, hbs, hany, fun a oe na hz hd => ?_⟩
    have st : Step G H As G' H' As1 := s12.trans s3.wide
    have c4 := c2.call s3 hE
    have ln : n < σ.length := by rw [p.len]; exact hnl
    refine ⟨.ref a, by rw [List.getElem?_set_self ln], fun na2 => ?_⟩
    have c5 := c4.laid (o := atO a oe) na
    have s5 : Step G H As (upd G' a (atO a oe)) (upd H' a (atO a oe)) As1 := st.trans (Step.laid c4.ext na)
    have key : ∀ (G6 : Hp), Step G H As G6 (upd H' a (atO a oe)) As1 → Cells X.K G6 (upd H' a (atO a oe)) As1 κ2 → Ex (upd G' a (atO a oe)) G6 → FldX X.K G6 oe.dict fs → D.nx (List.set (List.set (List.set σ n (some (.ref a))) j (some (.ref a))) n none) (upd H' a (atO a oe)) := fun G6 s6 c6 e6 f6 => by
      refine r.nx _ _ G6 _ As1 _ s6 c6 ?_ hP
      have p6 := p.step s6
      have it : It X.K G6 As1 (.ref a) (.xe cn fs) := ⟨a, oe, C0, rfl, e6 _ _ upd_same, hC, hz.1, hd, f6⟩
      refine ⟨by rw [List.length_set, List.length_set, List.length_set, List.length_set, List.length_set]; exact p6.len, fun q u hq => ?_⟩
      by_cases hqn : n = q
      · subst hqn
        rw [List.getElem?_set] at hq
        split at hq
        · split at hq
          · cases hq
          · cases hq
        · exact absurd rfl ‹_›
      · rw [List.getElem?_set_ne hqn] at hq ⊢
        by_cases hqj : j = q
        · subst hqj
          have lj : j < ρ.length := by
            have := (List.getElem?_eq_some_iff.mp hq).1
            rwa [List.length_set] at this
          rw [List.getElem?_set_self lj] at hq
          cases hq
          exact ⟨.ref a, List.getElem?_set_self (by rw [List.length_set, p6.len]; exact lj), it⟩
        · rw [List.getElem?_set_ne hqj] at hq ⊢
          rw [List.getElem?_set_ne hqn]
          exact p6.ok q u hq
    rcases hfl with ⟨rfl, rfl⟩ | ⟨dd, kvs, rfl, h0, hG, hH, hp⟩
    · exact key _ s5 c5 (Ex.refl _) (.inl ⟨hz.2, rfl⟩)
    · have nad : dd ≠ a := fun z => by rw [z] at hH; rw [na] at hH; cases hH
      have g0 : (upd G' a (atO a oe)) dd = none := by rw [upd_ne nad]; exact hG
      have h1 : (upd H' a (atO a oe)) dd = some (.xd kvs) := by rw [upd_ne nad]; exact hH
      have nin : dd ∉ As1 := c2.notin h0
      have c6 := c5.learn g0 nin h1
      have eG : Ex (upd G' a (atO a oe)) (upd (upd G' a (atO a oe)) dd (.xd kvs)) := Ex.new g0
      have hd0 : H dd = none := s12.dom dd h0
      have s6 : Step G H As (upd (upd G' a (atO a oe)) dd (.xd kvs)) (upd H' a (atO a oe)) As1 := ⟨s5.ex.trans eG, s5.pre, s5.new, s5.fr, s5.dom, fun b hb => by
        by_cases q : b = dd
        · subst q; exact .inr (.inl hd0)
        · rw [upd_ne q]; exact s5.gn b hb⟩
      refine key _ s6 c6 eG (.inr ⟨dd, kvs, hz.2, upd_same, Paired.mapP hp fun _ _ q => ⟨q.1, Rp.mono ((Ex.new (c4.ext.free na)).trans eG) _ _ q.2⟩⟩)
end
end DL
namespace DL
open PySem PySem.Spec PyProof.Rows L2
/-- a statement of a class's body -/
def clsS (s : Stmt) (i : Nat) : Stmt := match s with
  | .ClassDef _ _ _ body _ _ _ _ _ _ _ => body.getD i (.Pass ⟨0, 0, 0, 0⟩)
  | _ => .Pass ⟨0, 0, 0, 0⟩
/-- the error's own __init__: its base's, then the field -/
def spInit (K : PySem.W.Frag) (f : Str) : Sp := fun vs H Q _ => ∃ (a C : Addr) (v : V), vs = [.ref a, v] ∧ OexC K C ∧ PySem.W.findIn K (.ref C) f = some none ∧ H a = some (exo a C none) ∧ ∀ d, H d = none → d ≠ a → Q .non (upd (upd H d (exd d [(f, v)])) a (exo a C (some d)))
theorem spInit_len {K : PySem.W.Frag} {f : Str} (vs : List V) (H : Hp) (Q : VK) (E : XK) (h : spInit K f vs H Q E) : vs.length = 2 := by
  obtain ⟨a, C, v, rfl, _⟩ := h
  rfl
theorem init_reads {K : PySem.W.Frag} {f s0 m : Str} {vs : List V} {H : Hp} {Q : VK} {E : XK} (h : spInit K f vs H Q E) : tSeq (tDrop (tVeI K (tCons (tVar 0) (tCons (tC (.str m)) tNil)))) (tOst K f (tVar 0) (tVar 1)) { nx := fun _ H' => Q .non H', rt := Q } (L2.start [s0, f] vs) H := by
  obtain ⟨a, C, v, rfl, T, nF, ha, k⟩ := h
  refine ⟨.ref a, rfl, a, C, [.str m], rfl, by show 1 ≤ 1000; decide, T, ha, ?_⟩
  refine ⟨v, rfl, .ref a, rfl, a, C, rfl, T, nF, .inl ⟨ha, fun d hd ne => k d hd ne⟩⟩
/-- what is known of such a class -/
structure RaiseC (P : Program) (w : World) (K : PySem.W.Frag) (mg : Str → Option Value) (base : Heap) (cn fld : Str) (k : Nat) : Prop where
  ex : ∃ (C fI : Addr) (fd : FuncData), OexC K C ∧ PySem.W.findIn K (.ref C) "__init__" = some (some (.ref fI)) ∧ PySem.W.typeIn K (.ref fI) = some (.type "function") ∧ FnOk P w K mg base CX0 k fI fd ["self", fld] (spInit K fld) ∧ Binds K fd ["self", fld] [] ∧ clsA K cn C ∧ PySem.W.findIn K (.ref C) fld = some none ∧ mg cn = some (.ref C)
abbrev DExc := Str → List (Str × PyData) → Prop
abbrev DTSX := DExc → DTS
def ReachX (K : PySem.W.Frag) (G H : Hp) (As : List Addr) (EX : DExc) (W : WX) : Prop := ∀ cls d cn fs σ' G' H' As', Step G H As G' H' As' → ExT K G' H' → EX cn fs → Xc K H G' H' cls d cn fs → W cls d σ' H'
theorem Xc.back {K : PySem.W.Frag} {G0 H0 G1 H1 G H : Hp} {As0 As1 : List Addr} {cls : Value} {d : Option Addr} {cn : Str} {fs : List (Str × PyData)} (s : Step G0 H0 As0 G1 H1 As1) (h : Xc K H1 G H cls d cn fs) : Xc K H0 G H cls d cn fs := by
  obtain ⟨C, h1, h2, h3⟩ := h
  refine ⟨C, h1, h2, ?_⟩
  rcases h3 with h3 | ⟨dd, kvs, h3, h4, h5⟩
  · exact .inl h3
  · exact .inr ⟨dd, kvs, h3, s.dom dd h4, h5⟩
theorem ReachX.step {K : PySem.W.Frag} {G H G1 H1 : Hp} {As As1 : List Addr} {EX : DExc} {W : WX} (r : ReachX K G H As EX W) (s : Step G H As G1 H1 As1) : ReachX K G1 H1 As1 EX W := fun cls d cn fs σ' G' H' As' s' e x c => r cls d cn fs σ' G' H' As' (s.trans s') e x (c.back s)
def DSX (X : Cx) (W : WX) (st : Stmt) (w : DTSX) : Prop := ∃ t, PS X st t ∧ ∀ (G H : Hp) (As : List Addr) (σ : L2.St) (ρ : Rho) (κ : Kap) (EX : DExc) (E : DEnds) (D : Ends), Cells X.K G H As κ → Places X.K G As σ ρ → w EX E ρ κ → Reach X.K G H As E D → ReachX X.K G H As EX W → t D σ H
def DSXs (X : Cx) (W : WX) (sts : List Stmt) (w : DTSX) : Prop := ∃ t, PSs X sts t ∧ ∀ (G H : Hp) (As : List Addr) (σ : L2.St) (ρ : Rho) (κ : Kap) (EX : DExc) (E : DEnds) (D : Ends), Cells X.K G H As κ → Places X.K G As σ ρ → w EX E ρ κ → Reach X.K G H As E D → ReachX X.K G H As EX W → t D σ H
/-- what raises nothing -/
def wPlain (w : DTS) : DTSX := fun _ => w
def wSeqX (a b : DTSX) : DTSX := fun EX E ρ κ => a EX { E with nx := b EX E } ρ κ
def wIfX (wt : DTT) (a b : DTSX) : DTSX := fun EX E ρ κ => wt ρ κ fun z κ1 => if z = true then a EX E ρ κ1 else b EX E ρ κ1
def wRaise (cn fld : Str) (we : DTE) : DTSX := fun EX _ ρ κ => we ρ κ fun r κ1 => Opt (dat κ1 r) fun q => EX cn [(fld, q.1)]
theorem s_plain {w : DTS} {EX : DExc} {E : DEnds} {ρ : Rho} {κ : Kap} : wPlain w EX E ρ κ = w E ρ κ := rfl
theorem s_seqX {a b : DTSX} {EX : DExc} {E : DEnds} {ρ : Rho} {κ : Kap} : wSeqX a b EX E ρ κ = a EX { E with nx := b EX E } ρ κ := rfl
theorem s_ifX {wt : DTT} {a b : DTSX} {EX : DExc} {E : DEnds} {ρ : Rho} {κ : Kap} : wIfX wt a b EX E ρ κ = wt ρ κ fun z κ1 => if z = true then a EX E ρ κ1 else b EX E ρ κ1 := rfl
theorem s_raise {cn fld : Str} {we : DTE} {EX : DExc} {E : DEnds} {ρ : Rho} {κ : Kap} : wRaise cn fld we EX E ρ κ = we ρ κ fun r κ1 => Opt (dat κ1 r) fun q => EX cn [(fld, q.1)] := rfl
section
variable {X : Cx} {W : WX} {st : Stmt} {sts sts2 : List Stmt} {w : DTS} {wx ux : DTSX} {wt : DTT} {pos : Pos}
theorem dsx_of (h : DS X st w) : DSX X W st (wPlain w) := by
  obtain ⟨t, p, h⟩ := h
  exact ⟨t, p, fun G H As σ ρ κ EX E D c pl w r _ => h G H As σ ρ κ E D c pl w r⟩
theorem dsxs_of (h : DSs X sts w) : DSXs X W sts (wPlain w) := by
  obtain ⟨t, p, h⟩ := h
  exact ⟨t, p, fun G H As σ ρ κ EX E D c pl w r _ => h G H As σ ρ κ E D c pl w r⟩
theorem dsxs_cons (h1 : DSX X W st wx) (h2 : DSXs X W sts ux) : DSXs X W (st :: sts) (wSeqX wx ux) := by
  obtain ⟨t1, p1, h1⟩ := h1
  obtain ⟨t2, p2, h2⟩ := h2
  refine ⟨_, pss_cons p1 p2, fun G H As σ ρ κ EX E D c p w r rx => ?_⟩
  refine h1 G H As σ ρ κ EX { E with nx := ux EX E } _ c p w ⟨fun σ1 ρ1 G1 H1 As1 κ1 s1 c1 pl1 w1 => ?_, r.bk, r.ct, r.rt⟩ rx
  exact h2 G1 H1 As1 σ1 ρ1 κ1 EX E D c1 pl1 w1 (r.step s1) (rx.step s1)
theorem dsxs_one (h1 : DSX X W st wx) : DSXs X W [st] wx := by
  obtain ⟨t1, p1, h1⟩ := h1
  exact ⟨_, pss_one p1, h1⟩
theorem dsx_if {t : Expr} (ht : DT X t wt) (ha : DSXs X W sts wx) (hb : DSXs X W sts2 ux) : DSX X W (.If t sts sts2 pos) (wIfX wt wx ux) := by
  obtain ⟨tt, pt, ht⟩ := ht
  obtain ⟨ta, pa, ha⟩ := ha
  obtain ⟨tb, pb, hb⟩ := hb
  refine ⟨_, ps_if pt pa pb, fun G H As σ ρ κ EX E D c p w r rx => ?_⟩
  refine ht G H As σ ρ κ _ _ c p w fun z G1 H1 As1 κ1 s1 c1 p1 w1 => ?_
  cases z with
  | true =>
    rw [if_pos rfl] at w1 ⊢
    exact ha G1 H1 As1 σ ρ κ1 EX E D c1 p1 w1 (r.step s1) (rx.step s1)
  | false =>
    rw [if_neg (by decide)] at w1 ⊢
    exact hb G1 H1 As1 σ ρ κ1 EX E D c1 p1 w1 (r.step s1) (rx.step s1)
theorem dsx_raise {cn fld : Str} {k : Nat} {e : Expr} {we : DTE} {p pos2 : Pos} (hc : X.calm = true) (tk : L2.Takes X W) (C : RaiseC X.prog X.w X.K X.mg X.base cn fld k) (hr : Room (k + 1) X.A) (he : DE X e we) (hg : Gl X cn := by rfl) (hdb : (cn == ("__debug__" : Str)) = false := by decide)
    (hst : starEach (e :: []) X.env = (false, eval e X.env) :: starEach [] X.env := by rfl) (hpl : (backTo pos (starEach [] X.env)).any (·.1) = false := by rfl) : DSX X W (.Raise (some (.Call (.Name cn p) [e] [] pos)) none pos2) (wRaise cn fld we) := by
  obtain ⟨C, fI, fd, T, iC, tI, F1, hb, hA, nF, hm⟩ := C.ex
  obtain ⟨t, pt, he⟩ := he
  refine ⟨_, ps_raise hc tk (pmk_oex (dvs := []) T iC tI F1 hr hb .nil pass0 hg hm (pa_cons pt pa_nil hst) hdb hst hpl), fun G H As σ ρ κ EX E D c pl w r rx => ?_⟩
  refine he G H As σ ρ κ _ _ c pl w fun v q G1 H1 As1 κ1 s1 c1 p1 i1 w1 => ?_
  obtain ⟨⟨x, κ2⟩, ed, w2⟩ := w1.ex
  obtain ⟨G1', s1', c1', p1', i1', _⟩ := settle s1 c1 p1 i1
  have ed' : dat κ1 q.st = some (x, κ2) := by
    cases q with
    | f xs => exact ed
    | _ => exact ed
  obtain ⟨G2, s2, c2, rp⟩ := dat_ok c1' i1' ed'
  have st := s1'.trans s2
  refine ⟨by show 1 ≤ 1000; decide, fun a ha => ⟨a, C, v, rfl, T, nF, upd_same, fun d hd ne => ⟨rfl, d, [(fld, v)], upd_same, ?_, ?_, ?_⟩⟩⟩
  · rw [upd_ne ne, upd_same]
  · rw [upd_ne ne] at hd
    exact hd
  · have hd1 : H1 d = none := by rw [upd_ne ne] at hd; exact hd
    have eH : upd (del (upd (upd (upd H1 a (exo a C none)) d (exd d [(fld, v)])) a (exo a C (some d))) a) d (.xd [(fld, v)]) = upd H1 d (.xd [(fld, v)]) := funext fun b => by
      by_cases hb : b = d
      · subst hb
        rw [upd_same, upd_same]
      · rw [upd_ne hb, upd_ne hb]
        unfold del
        by_cases hba : b = a
        · rw [if_pos hba, hba]
          exact ha.symm
        · rw [if_neg hba, upd_ne hba, upd_ne hb, upd_ne hba]
    rw [eH]
    have c3 := c2.fresh (o := .xd [(fld, v)]) hd1
    exact rx _ _ cn [(fld, x)] σ G2 _ As1 (st.trans (Step.fresh hd1)) c3.xt w2 ⟨C, rfl, hA, .inr ⟨d, [(fld, v)], rfl, st.dom d hd1, c2.ext.free hd1, upd_same, .cons ⟨rfl, rp⟩ .nil⟩⟩
end
section
variable {P : Program} {w : World} {K : PySem.W.Frag} {mg : Str → Option Value} {base : Heap} {x qual : Str} {st : Stmt} {f : Addr} {fd : FuncData} {N ps : List Str} {k : Nat} {sp : Sp}
theorem Fun.okGX (F : Fun K x qual st f fd) (S : FnScope N ps (defScope st)) (len : ∀ vs H Q E, sp vs H Q E → vs.length = ps.length)
    (body : ∀ (cdv : Value) (A : Around) (outer : List Env) (s : Shared) (H : Hp) (vs : List V) (Q : VK) (E : XK), RoomG k (A.deeper (envOfC qual (defScope st) s.heap.objs.size f cdv)) → sp vs H Q E →
      ∃ t, PSs (cxOf (L2.CX P w) P w K mg base N qual (defScope st) f cdv A outer s H E) (defBody st) t ∧ t { nx := fun _ H' => Q .non H', rt := Q } (L2.start N vs) H) : FnG P w K mg base (L2.CX P w) (k + 1) f fd ps sp := by
  obtain ⟨oc, od, kV, doc, pm, an, cdv, ct, osl, rfl, lk, hcd⟩ := F.ex
  refine ⟨len, ?_⟩
  intro A outer s H args us vs Q E hr e0 bnd r hsp
  have inS : ∀ b o, base.get? b = some o → s.heap.get? b = some o := fun b o e => (e0.bs b o e).1
  have KX : K.In s.heap := e0.mod.kin.keeps inS
  apply codeAny_call_function hr.toRoom.depth (KX _ _ lk) rfl S.co S.gen rfl (PySem.W.codeRec_of KX hcd)
  apply bnd
  apply wpAny_newFunctionEnv_cells S.kind
  · rintro ⟨y, v⟩ hy
    exact (S.par y (List.of_mem_zip hy).1).imp id fun q => ⟨q, PySem.W.cellsFrom_some _ _ _ (.inl q)⟩
  · intro env he s1 xx
    subst he
    obtain ⟨t, pt, q⟩ := body cdv A outer s H vs Q E (hr.deeperG _) hsp
    have I : L2.Inv (cxOf (L2.CX P w) P w K mg base N qual (defScope st) f cdv A outer s H E) [] (L2.start N vs) H s1 := inv_start S hr.toRoom.hd e0 (len _ _ _ _ hsp) r xx
    refine ⟨(e0.mod.nolimit.keeps inS).keeps xx.toInCall.keep, codeAny_func (wpAny_mono (pt.run [] s1 _ H _ I q) (fun fl s' z => ?_) fun _ _ z => z)⟩
    cases fl with
    | ret u =>
      obtain ⟨v, σ', H', J, rv, q'⟩ := z
      exact ⟨v, H', J.os, J.bare, J.base, J.hok, rv, q'⟩
    | next =>
      obtain ⟨σ', H', J, q'⟩ := z
      exact ⟨.non, H', J.os, J.bare, J.base, J.hok, rfl, q'⟩
    | brk => exact z.elim fun _ z => z.elim fun _ z => z.2.elim
    | cont => exact z.elim fun _ z => z.elim fun _ z => z.2.elim
theorem dfnX {Φ : PhX} (F : Fun K x qual st f fd) (S : FnScope N ps (defScope st))
    (hb : ∀ (cdv : Value) (A : Around) (outer : List Env) (s : Shared) (H : Hp) (E : XK), RoomG k (A.deeper (envOfC qual (defScope st) s.heap.objs.size f cdv)) →
      ∃ wd, DSXs (cxOf (L2.CX P w) P w K mg base N qual (defScope st) f cdv A outer s H E) (fun cls d _ H => E cls d H) (defBody st) wd ∧ ∀ rs Pd PX, Φ rs Pd PX → rs.length = ps.length → wd PX { nx := fun _ _ => Pd (.d .none), rt := fun r κ => Opt (outR κ 0 r) Pd } (rs.map some ++ List.replicate (N.length - ps.length) none) []) :
    FnG P w K mg base (L2.CX P w) (k + 1) f fd ps (spX K ps.length Φ) := by
  refine Fun.okGX F S (fun vs H Q E h => h.1) (fun cdv A outer s H vs Q E hr h => ?_)
  obtain ⟨hl, G, rs, Pd, PX, ext, i0, hΦ, kk, kx⟩ := h
  obtain ⟨wd, ⟨t, pt, ht⟩, hw⟩ := hb cdv A outer s H E hr
  have hl2 : rs.length = ps.length := (Paired.length i0).symm.trans hl
  refine ⟨t, pt, ?_⟩
  have c0 : Cells K G H [] [] := ⟨ext.1, rfl, by simp, fun a h => (List.not_mem_nil h).elim, fun j c a h => by simp at h, ext.2⟩
  have p0 := places_start i0 (N.length - ps.length)
  unfold L2.start
  rw [hl]
  refine ht G H [] _ _ [] _ _ _ c0 p0 (hw rs Pd PX hΦ hl2) ⟨fun σ' ρ' G' H' As' κ' s' c' _ q => ?_, fun _ _ _ _ _ _ _ _ _ q => q.elim, fun _ _ _ _ _ _ _ _ _ q => q.elim, fun v r G' H' As' κ' s' c' rv q => ?_⟩ fun cls d cn fs σ' G' H' As' s' e' hx xc => kx cls d cn fs G' H' hx e' s'.short xc
  · exact kk .non (.d .none) G' H' q c'.xt s'.short .non
  · obtain ⟨r', e, q⟩ := q.ex
    exact kk v r' G' H' q c'.xt s'.short (out_rv rfl s' c' rv e)
/-- where it raises nothing -/
def calmP (Φ : PhX) : List R → (R → Prop) → Prop := fun rs P => Φ rs P fun _ _ => False
theorem FnG.calm {n : Nat} {Φ : PhX} (F : FnG P w K mg base (L2.CX P w) k f fd ps (spX K n Φ)) : FnG P w K mg base CX0 k f fd ps (spD K n (calmP Φ)) := by
  have up : ∀ vs H Q E, spD K n (calmP Φ) vs H Q E → spX K n Φ vs H Q E0 := fun vs H Q E h => by
    obtain ⟨hl, G, rs, Pd, ext, i0, hΦ, kk⟩ := h
    exact ⟨hl, G, rs, Pd, _, ext, i0, hΦ, kk, fun _ _ _ _ _ _ q => q.elim⟩
  refine ⟨fun vs H Q E h => F.len vs H Q E0 (up vs H Q E h), fun A outer s H args us vs Q E hr he hb hv h => ?_⟩
  refine codeAny_mono (F.go A outer s H args us vs Q E0 hr he hb hv (up vs H Q E h)) fun r s' z => ?_
  cases r with
  | error e =>
    obtain ⟨a, B, H', cls, d, _, _, _, _, _, _, _, z⟩ := (show L2.CX P w outer H s E0 e s' from z)
    exact z.elim
  | ok fl =>
    cases fl with
    | ret u => exact z
    | _ => exact z.elim
theorem CalX.calm {n : Nat} {Φ : PhX} (C : CalX P w K mg base x k ps (spX K n Φ)) : Cal P w K mg base x k ps (spD K n (calmP Φ)) := by
  obtain ⟨f, fd, F, r⟩ := C.ex
  exact ⟨f, fd, F.calm, r⟩
end
end DL
namespace DL
open PySem PySem.Spec PyProof.Rows L2
def wIsNX (wa : DTE) : DTT := fun ρ κ P => wa ρ κ fun r κ1 => match r with
  | .d .none => P true κ1
  | .xe _ _ => P false κ1
  | _ => False
theorem s_isNX {wa : DTE} {ρ : Rho} {κ : Kap} {P : Bool → Kap → Prop} : wIsNX wa ρ κ P = wa ρ κ fun r κ1 => match r with
  | .d .none => P true κ1
  | .xe _ _ => P false κ1
  | _ => False := rfl
section
variable {X : Cx} {e : Expr} {wa : DTE} {pos : Pos}
theorem dt_isNX {j : Nat} {cp : Pos} (ha : DE X e wa) (hm : behindInMarks .Is (.Constant .none j cp) = false := by rfl) : DT X (.Compare e [.Is] [.Constant .none j cp] pos) (wIsNX wa) := by
  obtain ⟨ta, pa, ha⟩ := ha
  refine ⟨_, pt_cmpR op_isND pa pe_non hm, fun G H As σ ρ κ P Q c p w k => ?_⟩
  refine ha G H As σ ρ κ _ _ c p w fun v r G1 H1 As1 κ1 s1 c1 p1 i1 w1 => ?_
  cases r with
  | d x =>
    cases x with
    | none =>
      have i1 : Rp X.K G1 v .none := i1
      cases i1
      exact .inl ⟨rfl, true, rfl, k true G1 H1 As1 κ1 s1 c1 p1 w1⟩
    | _ => exact w1.elim
  | xe cn fs =>
    obtain ⟨a, oe, C, rfl, _⟩ := (show ItX X.K G1 v cn fs from i1)
    exact .inl ⟨rfl, false, rfl, k false G1 H1 As1 κ1 s1 c1 p1 w1⟩
  | _ => exact w1.elim
/-- where the fields of these classes lie -/
structure FldC (K : PySem.W.Frag) (cn fld : Str) : Prop where
  ok : ∀ C, clsA K cn C → XfC K C ∧ PySem.W.findIn K (.ref C) fld = some none
theorem pe_xfA {t : TE} {n : Str} (he : PE X e t) (hb : attributeBase e n X.env (eval e X.env) = eval e X.env) : PE X (.Attribute e n pos) (fun σ H Q => t σ H fun x H1 => ∃ (a : Addr) (oe : Obj) (C dd : Addr) (fs : List (Str × V)) (v : V), x = .ref a ∧ H1 a = some (atO a oe) ∧ oe.cls = .ref C ∧ (∃ vs, oe.data = .fields vs) ∧ oe.dict = some dd ∧ H1 dd = some (.xd fs) ∧ fs.lookup n = some v ∧ XfC X.K C ∧ PySem.W.findIn X.K (.ref C) n = some none ∧ Q v H1) := by
  refine ⟨fun pins s σ H Q I h => ?_⟩
  refine attr_of hb (thn (he.run pins s σ H _ I h) fun u s1 hh => ?_)
  obtain ⟨x, H1, I1, rx, a, oe, C, dd, fs, v, rfl, ha, hc, hd, hdd, ea, l, T, nF, q⟩ := hh
  obtain rfl : u = Value.ref a := rx
  have ha : s1.heap.get? a = some oe := (I1.hok a _ ha).1
  obtain ⟨vs, hd⟩ := hd
  obtain ⟨mA, hns, hr⟩ := I1.hok dd _ ea
  obtain ⟨od, ho, hl⟩ := lookIn_ns hns
  obtain ⟨u, hu, ru⟩ := RelO.some_of (v := v) (o := mA n) (by rw [← l]; exact hr n)
  have J : PySem.W.InstAt s1.heap a oe C (some od) := ⟨ha, hc, by unfold PySem.W.notCls; rw [hd] <;> rfl, by rw [hdd]; exact ho⟩
  exact HandSPX.exc_get I1.kIn J T.ga T.gg T.exC (PySem.W.findObj_own T.hdC nF rfl (by rw [hl, hu])) (handed_of ru) ⟨v, H1, I1.tok _, ru, q⟩
def wFldX (fld : Str) (cns : List Str) (wa : DTE) : DTE := fun ρ κ P => wa ρ κ fun r κ1 => match r with
  | .xe cn fs => cn ∈ cns ∧ Opt (fs.lookup fld) fun x => P (.d x) κ1
  | _ => False
theorem s_fldX {fld : Str} {cns : List Str} {wa : DTE} {ρ : Rho} {κ : Kap} {P : R → Kap → Prop} : wFldX fld cns wa ρ κ P = wa ρ κ fun r κ1 => match r with
  | .xe cn fs => cn ∈ cns ∧ Opt (fs.lookup fld) fun x => P (.d x) κ1
  | _ => False := rfl
theorem look_pair {K : PySem.W.Frag} {G : Hp} {n : Str} {x : PyData} : ∀ {kvs : List (Str × V)} {fs : List (Str × PyData)}, Paired (fun (kv : Str × V) (f : Str × PyData) => kv.1 = f.1 ∧ Rp K G kv.2 f.2) kvs fs → fs.lookup n = some x → ∃ v, kvs.lookup n = some v ∧ Rp K G v x
  | _, _, .nil, e => by cases e
  | (k, v) :: kvs, (f, y) :: fs, .cons h hs, e => by
    obtain ⟨h1, h2⟩ := h
    dsimp only at h1 h2
    subst h1
    rw [List.lookup_cons] at e ⊢
    cases q : n == k with
    | true =>
      rw [q] at e
      cases e
      exact ⟨v, rfl, h2⟩
    | false =>
      rw [q] at e
      exact look_pair hs e
theorem de_fldX {fld : Str} {cns : List Str} (hF : ∀ cn ∈ cns, FldC X.K cn fld) (ha : DE X e wa) (hb : attributeBase e fld X.env (eval e X.env) = eval e X.env := by rfl) : DE X (.Attribute e fld pos) (wFldX fld cns wa) := by
  obtain ⟨ta, pa, ha⟩ := ha
  refine ⟨_, pe_xfA pa hb, fun G H As σ ρ κ P Q c p w k => ?_⟩
  refine ha G H As σ ρ κ _ _ c p w fun v r G1 H1 As1 κ1 s1 c1 p1 i1 w1 => ?_
  cases r with
  | xe cn fs =>
    obtain ⟨hcn, w1⟩ := w1
    obtain ⟨x, ex, w2⟩ := w1.ex
    obtain ⟨a, oe, C, rfl, h1, h2, h3, h4, h5⟩ := (show ItX X.K G1 v cn fs from i1)
    rcases h5 with ⟨_, rfl⟩ | ⟨dd, kvs, h5, h6, h7⟩
    · cases ex
    · obtain ⟨u, lu, ru⟩ := look_pair h7 ex
      obtain ⟨f1, f2⟩ := (hF cn hcn).ok C h2
      exact ⟨a, oe, C, dd, kvs, u, rfl, c1.ext _ _ h1, h3, h4, h5, c1.ext _ _ h6, lu, f1, f2, k u (.d x) G1 H1 As1 κ1 s1 c1 p1 ru w2⟩
  | _ => exact w1.elim
def wIsX (l : List (Str × Bool)) (wa : DTE) : DTE := fun ρ κ P => wa ρ κ fun r κ1 => match r with
  | .xe cn _ => Opt (l.lookup cn) fun b => P (.d (.bool b)) κ1
  | _ => False
theorem s_isX {l : List (Str × Bool)} {wa : DTE} {ρ : Rho} {κ : Kap} {P : R → Kap → Prop} : wIsX l wa ρ κ P = wa ρ κ fun r κ1 => match r with
  | .xe cn _ => Opt (l.lookup cn) fun b => P (.d (.bool b)) κ1
  | _ => False := rfl
/-- of what kind these are -/
structure KitF (K : PySem.W.Frag) (cv : Value) (l : List (Str × Bool)) : Prop where
  ok : ∀ cn b C, l.lookup cn = some b → clsA K cn C → L2.ExcC K C ∧ PySem.W.kitOne K (.ref C) cv = some b
def rIsX (K : PySem.W.Frag) : List V → Hp → VK → Prop := fun xs H Q => ∃ (a : Addr) (oe : Obj) (C : Addr) (c : V) (b : Bool), xs = [.ref a, c] ∧ H a = some (atO a oe) ∧ oe.cls = .ref C ∧ (∃ vs, oe.data = .fields vs) ∧ (∀ dd, oe.dict = some dd → ∃ fs, H dd = some (.xd fs)) ∧ L2.ExcC K C ∧
  ((∃ cv : Value, (∀ u, RelV c u → u = cv) ∧ PySem.W.kitOne K (.ref C) cv = some b) ∨ ∃ (tp : Addr) (vs : List V) (its : List Value), c = .ref tp ∧ H tp = some (.tup vs) ∧ (∀ us, Vals vs us → us = its) ∧ PySem.W.kitAny K (.ref C) its = some b) ∧ Q (.bl b) H
theorem call_isX : CallR X (.builtin "isinstance") (rIsX X.K) := by
  intro pins s σ H xs us Q I r h
  obtain ⟨a, oe, C, c, b, rfl, ha, hc, hd, hdd, E, hk, q⟩ := h
  cases r with
  | cons r1 r2 =>
    rename_i u1 us
    cases r2 with
    | cons r2 r3 =>
      rename_i u2 us
      cases r3
      obtain rfl : u1 = Value.ref a := r1
      have ga : s.heap.get? a = some oe := (I.hok a _ ha).1
      obtain ⟨vs, hd⟩ := hd
      have hcl : (PySem.W.clsIn X.K C).isSome = true := by
        have := E.hd
        unfold PySem.W.hasDictIn at this
        cases q : PySem.W.clsIn X.K C with
        | none => simp [q] at this
        | some o => rfl
      obtain ⟨od, J⟩ : ∃ od, PySem.W.InstAt s.heap a oe C od := by
        cases hx : oe.dict with
        | none => exact ⟨none, ga, hc, by unfold PySem.W.notCls; rw [hd] <;> rfl, by rw [hx]; trivial⟩
        | some dd =>
          obtain ⟨fs, hf⟩ := hdd dd hx
          obtain ⟨mA, hns, hr⟩ := I.hok dd _ hf
          obtain ⟨od, ho, hl⟩ := lookIn_ns hns
          exact ⟨some od, ga, hc, by unfold PySem.W.notCls; rw [hd] <;> rfl, by rw [hx]; exact ho⟩
      rcases hk with ⟨cv, hcv, e⟩ | ⟨tp, ws, its, rfl, ht, hi, e⟩
      · obtain rfl := hcv _ r2
        exact PySem.W.kia_one (PySem.W.kitx_exc hcl E.hg E.hk E.hs E.ha E.hn E.ht E.hm) (Inv.kIn I) J e (fun z => nomatch z) fun tk => ⟨.bl b, H, Inv.kept I fun _ _ z => z, rfl, q⟩
      · obtain rfl : u2 = Value.ref tp := r2
        obtain ⟨_, us, rv, o, ho, hco, n, hdo⟩ := I.hok tp _ ht
        obtain rfl := hi _ rv
        obtain ⟨oc, odd, oda, osl⟩ := o
        dsimp only at hco hdo
        subst hco
        subst hdo
        exact PySem.W.kia_tup (PySem.W.kitx_exc hcl E.hg E.hk E.hs E.ha E.hn E.ht E.hm) (Inv.kIn I) J ho e (fun z => nomatch z) fun tk => ⟨.bl b, H, Inv.kept I fun _ _ z => z, rfl, q⟩
theorem is_reads {l : List (Str × Bool)} {ta : TE} {c : V} {cv : Value} (hcv : ∀ u, RelV c u → u = cv) (hk : KitF X.K cv l)
    (ha : ∀ (G H : Hp) (As : List Addr) (σ : L2.St) (ρ : Rho) (κ : Kap) (P : R → Kap → Prop) (Q : VK), Cells X.K G H As κ → Places X.K G As σ ρ → wa ρ κ P → (∀ v r G' H' As' κ', Step G H As G' H' As' → Cells X.K G' H' As' κ' → Places X.K G' As' σ ρ → Rv X.K H G' H' As' v r → P r κ' → Q v H') → ta σ H Q)
    (G H : Hp) (As : List Addr) (σ : L2.St) (ρ : Rho) (κ : Kap) (P : R → Kap → Prop) (Q : VK) (cc : Cells X.K G H As κ) (p : Places X.K G As σ ρ) (w : wIsX l wa ρ κ P) (k : ∀ v r G' H' As' κ', Step G H As G' H' As' → Cells X.K G' H' As' κ' → Places X.K G' As' σ ρ → Rv X.K H G' H' As' v r → P r κ' → Q v H') : ta σ H fun v H1 => rIsX X.K [v, c] H1 Q := by
  refine ha G H As σ ρ κ _ _ cc p w fun v r G1 H1 As1 κ1 s1 c1 p1 i1 w1 => ?_
  cases r with
  | xe cn fs =>
    obtain ⟨b, eb, w2⟩ := w1.ex
    obtain ⟨a, oe, C, rfl, h1, h2, h3, h4, h5⟩ := (show ItX X.K G1 v cn fs from i1)
    obtain ⟨f1, f2⟩ := hk.ok cn b C eb h2
    refine ⟨a, oe, C, c, b, rfl, c1.ext _ _ h1, h3, h4, fun dd hd => ?_, f1, .inl ⟨cv, hcv, f2⟩, k (.bl b) (.d (.bool b)) G1 H1 As1 κ1 s1 c1 p1 (.bl b) w2⟩
    rcases h5 with ⟨z, _⟩ | ⟨d2, kvs, h5, h6, _⟩
    · rw [z] at hd; cases hd
    · rw [h5] at hd; cases hd
      exact ⟨kvs, c1.ext _ _ h6⟩
  | _ => exact w1.elim
theorem de_isXC {l : List (Str × Bool)} {tn : Str} {D : Addr} {p p2 : Pos} (hm : X.mg "isinstance" = none) (hD : X.mg tn = some (.ref D)) (hk : KitF X.K (.ref D) l) (ha : DE X e wa) (hg : Gl X "isinstance" := by rfl) (hgt : Gl X tn := by rfl) (hdt : (tn == ("__debug__" : Str)) = false := by decide)
    (hs : starEach [e, .Name tn p2] X.env = (false, eval e X.env) :: starEach [.Name tn p2] X.env := by rfl) (hs2 : starEach [.Name tn p2] X.env = (false, eval (.Name tn p2) X.env) :: starEach [] X.env := by rfl) (hpl : (backTo pos (starEach [.Name tn p2] X.env)).any (·.1) = false := by rfl) :
    DE X (.Call (.Name "isinstance" p) [e, .Name tn p2] [] pos) (wIsX l wa) := by
  obtain ⟨t, pt, ha⟩ := ha
  exact ⟨_, pe_callB call_isX hg hm (by decide +kernel) (pa_cons pt (pa_cons (pe_glob (v := .ref D) hgt hD rfl hdt) pa_nil hs2) hs) (by decide) (by decide) hs hpl, is_reads (c := .ref D) (fun u hu => hu) hk ha⟩
theorem de_isXB {l : List (Str × Bool)} {tn : Str} {T : String} {p p2 : Pos} (hm : X.mg "isinstance" = none) (ht : X.mg tn = none) (hk : KitF X.K (.type T) l) (ha : DE X e wa) (htv : bootBuiltins tn = some (.type T) := by decide +kernel) (hg : Gl X "isinstance" := by rfl) (hgt : Gl X tn := by rfl) (hnt : tn ≠ "__name__" := by decide) (hdt : (tn == ("__debug__" : Str)) = false := by decide)
    (hs : starEach [e, .Name tn p2] X.env = (false, eval e X.env) :: starEach [.Name tn p2] X.env := by rfl) (hs2 : starEach [.Name tn p2] X.env = (false, eval (.Name tn p2) X.env) :: starEach [] X.env := by rfl) (hpl : (backTo pos (starEach [.Name tn p2] X.env)).any (·.1) = false := by rfl) :
    DE X (.Call (.Name "isinstance" p) [e, .Name tn p2] [] pos) (wIsX l wa) := by
  obtain ⟨t, pt, ha⟩ := ha
  exact ⟨_, pe_callB call_isX hg hm (by decide +kernel) (pa_cons pt (pa_cons (pe_bltn (v := .ty T) hgt ht htv rfl hnt hdt) pa_nil hs2) hs) (by decide) (by decide) hs hpl, is_reads (c := .ty T) (fun u hu => hu) hk ha⟩
end
end DL
namespace DL
open PySem PySem.Spec PyProof.Rows L2
theorem st_names {env : Env} (e : Expr) (es : List Expr) : starEach (e :: es) env = (false, eval e env) :: starEach es env ∨ ∀ x p, e ≠ Expr.Name x p := by
  cases e with
  | Name x p => exact .inl rfl
  | _ => exact .inr fun _ _ h => by cases h
/-- a class that may stand in an except -/
structure ClsF (K : PySem.W.Frag) (D : Addr) : Prop where
  be : PySem.W.subIn K (.ref D) (.type "BaseException") = some true
  ty : PySem.W.typeIn K (.ref D) = some (.type "type")
  hd : PySem.W.hasDictIn K D = true
theorem ClsF.cl {K : PySem.W.Frag} {D : Addr} (h : ClsF K D) : (PySem.W.clsIn K D).isSome = true := by
  have := h.hd
  unfold PySem.W.hasDictIn at this
  cases q : PySem.W.clsIn K D with
  | none => simp [q] at this
  | some o => rfl
theorem exm_mk {K : PySem.W.Frag} {C D : Addr} {b : Bool} (h : ClsF K D) (hs : PySem.W.subIn K (.ref C) (.ref D) = some b) : PySem.W.exmOne K (.ref C) (.ref D) = some b := by
  unfold PySem.W.exmOne PySem.W.kitCls
  rw [h.be]
  simp [h.cl, hs, h.ty]
theorem kit_mk {K : PySem.W.Frag} {C D : Addr} {b : Bool} (h : ClsF K D) (hc : PySem.W.subIn K (.ref C) (.ref C) = some true) (hs : PySem.W.subIn K (.ref C) (.ref D) = some b) : PySem.W.kitOne K (.ref C) (.ref D) = some b := by
  unfold PySem.W.kitOne PySem.W.kitCls
  by_cases q : C = D
  · subst q
    rw [hc] at hs
    cases hs
    simp
  · have : (Value.ref C == Value.ref D) = false := by simpa using q
    rw [this]
    simp [h.cl, hs, h.ty]
theorem kit_mkB {K : PySem.W.Frag} {C : Addr} {T : String} {b : Bool} (hT : PySem.W.kitMeta T = true) (hs : PySem.W.subIn K (.ref C) (.type T) = some b) : PySem.W.kitOne K (.ref C) (.type T) = some b := by
  unfold PySem.W.kitOne PySem.W.kitCls
  have : (Value.ref C == Value.type T) = false := by simp
  rw [this]
  simp [hT, hs]
theorem RaiseC.mono {P : Program} {w : World} {K : PySem.W.Frag} {mg : Str → Option Value} {base : Heap} {cn fld : Str} {j k : Nat} (C : RaiseC P w K mg base cn fld j) (h : j ≤ k) : RaiseC P w K mg base cn fld k := by
  obtain ⟨C0, fI, fd, h1, h2, h3, h4, h5⟩ := C.ex
  exact ⟨C0, fI, fd, h1, h2, h3, ⟨h4.len, fun A outer s H args us vs Q E r => h4.run A outer s H args us vs Q E (r.mono h)⟩, h5⟩
theorem ExcC.cls {K : PySem.W.Frag} {D : Addr} (h : L2.ExcC K D) (ty : PySem.W.typeIn K (.ref D) = some (.type "type")) : ClsF K D := ⟨h.hs, ty, h.hd⟩
theorem ExcC.xf {K : PySem.W.Frag} {D : Addr} (h : L2.ExcC K D) : XfC K D := ⟨h.hg, h.hk, h.hs, h.hd⟩
theorem cls_one {K : PySem.W.Frag} {cn : Str} {C D : Addr} (h : PySem.W.nsIn K mainGlobals cn = some (some (.ref C))) (g : clsA K cn D) : C = D := by
  unfold clsA at g
  rw [h] at g
  cases g
  rfl
theorem look_mem {cn : Str} {b : Bool} : ∀ {l : List (Str × Bool)}, l.lookup cn = some b → (cn, b) ∈ l
  | [], e => by cases e
  | (x, c) :: l, e => by
    rw [List.lookup_cons] at e
    cases q : cn == x with
    | true =>
      rw [q] at e
      cases e
      rw [eq_of_beq q]
      exact List.mem_cons_self ..
    | false =>
      rw [q] at e
      exact List.mem_cons_of_mem _ (look_mem e)
end DL
namespace DL
open PySem PySem.Spec PyProof.Rows L2
def splitD : PyData → List PyData → Option Out
  | .str a, [.str b] => if (b.length == 0) = false ∧ a.length + 2 ≤ 16777216 then some (.n ((Txt.split a b).map .str)) else none
  | _, _ => none
theorem strs_rp {K : PySem.W.Frag} {G : Hp} : ∀ ys : List Str, RpA K G (ys.map V.str) (ys.map PyData.str)
  | [] => .nil
  | y :: ys => .cons (.str y) (strs_rp ys)
theorem split_ok {K : PySem.W.Frag} : MtD K (fun x xs H Q => ∃ a b, x = V.str a ∧ xs = [V.str b] ∧ (b.length == 0) = false ∧ a.length + 2 ≤ sizeLine ∧ rNewStrs (Txt.split a b) H Q) splitD := by
  intro G H v vs x xs oo Q ext hx h0 e k
  unfold splitD at e
  split at e
  · split at e
    · rename_i hc
      cases e
      obtain ⟨u, rfl, h⟩ := one_of h0
      have hz := sizeLine_eq
      exact ⟨_, _, vw_str hx, by rw [vw_str h], hc.1, by have := hc.2; omega, fun p hp => k p _ hp (strs_rp _)⟩
    · cases e
  · cases e
def partD : PyData → List PyData → Option Out
  | .str a, [.str b] => if (b.length == 0) = false ∧ a.length ≤ 16777216 then some (.t [.str (Txt.partition a b).1, .str (Txt.partition a b).2.1, .str (Txt.partition a b).2.2]) else none
  | _, _ => none
theorem part_ok {K : PySem.W.Frag} : MtD K (fun x xs H Q => ∃ a b, x = V.str a ∧ xs = [V.str b] ∧ (b.length == 0) = false ∧ a.length ≤ sizeLine ∧ ∀ p, H p = none → Q (.ref p) (upd H p (.tup [.str (Txt.partition a b).1, .str (Txt.partition a b).2.1, .str (Txt.partition a b).2.2]))) partD := by
  intro G H v vs x xs oo Q ext hx h0 e k
  unfold partD at e
  split at e
  · split at e
    · rename_i hc
      cases e
      obtain ⟨u, rfl, h⟩ := one_of h0
      have hz := sizeLine_eq
      exact ⟨_, _, vw_str hx, by rw [vw_str h], hc.1, by have := hc.2; omega, fun p hp => k.1 p _ hp (.cons (.str _) (.cons (.str _) (.cons (.str _) .nil)))⟩
    · cases e
  · cases e
def wJs : List DTE → Str → Rho → Kap → (R → Kap → Prop) → Prop
  | [], acc, _, κ, P => P (.d (.str acc)) κ
  | w :: ws, acc, ρ, κ, P => w ρ κ fun r κ1 => match r with
    | .d (.str y) => (y.length ≤ 16777216 ∧ (acc ++ y).length ≤ 16777216) ∧ wJs ws (acc ++ y) ρ κ1 P
    | _ => False
def wFmt (ws : List DTE) : DTE := fun ρ κ P => wJs ws Str.empty ρ κ P
inductive DJ (X : Cx) : List Expr → List DTE → Prop
  | nil : DJ X [] []
  | cons {e : Expr} {w : DTE} {es : List Expr} {ws : List DTE} {pos : Pos} : DE X e w → DJ X es ws → DJ X (.FormattedValue e (-1) none pos :: es) (w :: ws)
theorem dj_pj {X : Cx} : ∀ {es : List Expr} {ws : List DTE}, DJ X es ws → ∃ ts, PJ X es ts ∧ ∀ (acc : Str) (G H : Hp) (As : List Addr) (σ : L2.St) (ρ : Rho) (κ : Kap) (P : R → Kap → Prop) (Q : VK), Cells X.K G H As κ → Places X.K G As σ ρ → wJs ws acc ρ κ P →
  (∀ v r G' H' As' κ', Step G H As G' H' As' → Cells X.K G' H' As' κ' → Places X.K G' As' σ ρ → Rv X.K H G' H' As' v r → P r κ' → Q v H') → tJs ts acc σ H fun out H1 => Q (V.str out) H1
  | _, _, .nil => ⟨[], .nil, fun acc G H As σ ρ κ P Q c p w k => k (.str acc) (.d (.str acc)) G H As κ Step.refl c p (.str acc) w⟩
  | _, _, .cons he hs => by
    obtain ⟨t, pt, he⟩ := he
    obtain ⟨ts, pj, hs⟩ := dj_pj hs
    refine ⟨_, .cons (pe_fmt pt) pj, fun acc G H As σ ρ κ P Q c p w k => ?_⟩
    refine he G H As σ ρ κ _ _ c p w fun v r G1 H1 As1 κ1 s1 c1 p1 i1 w1 => ?_
    cases r with
    | d x =>
      cases x with
      | str y =>
        have i1 : Rp X.K G1 v (.str y) := i1
        cases i1
        have hz := sizeLine_eq
        refine .inl ⟨y, rfl, by have := w1.1.1; omega, y, rfl, by have := w1.1.2; omega, ?_⟩
        exact hs (acc ++ y) G1 H1 As1 σ ρ κ1 P Q c1 p1 w1.2 fun v' r' G' H' As' κ' s' c' p' i' w' => k v' r' G' H' As' κ' (s1.trans s') c' p' (i'.back s1) w'
      | _ => exact w1.elim
    | _ => exact w1.elim
theorem de_fmt {X : Cx} {e1 e2 : Expr} {es : List Expr} {ws : List DTE} {pos : Pos} (h : DJ X (e1 :: e2 :: es) ws) : DE X (.JoinedStr (e1 :: e2 :: es) pos) (wFmt ws) := by
  obtain ⟨ts, pj, hj⟩ := dj_pj h
  exact ⟨_, pe_joined pj, fun G H As σ ρ κ P Q c p w k => hj Str.empty G H As σ ρ κ P Q c p w k⟩
def geSD : PyData → PyData → Option Out
  | .str x, .str y => some (.v (.bool (!decide (x.cps.toList < y.cps.toList))))
  | _, _ => none
theorem geS_ok {K : PySem.W.Frag} : OpD K (fun x y H Q => ∃ i j, x = V.str i ∧ y = V.str j ∧ Q (.bl (!decide (i.cps.toList < j.cps.toList))) H) geSD := by
  intro G H v u x y o Q ext hx hy e k
  unfold geSD at e
  split at e
  · cases e
    exact ⟨_, _, vw_str hx, vw_str hy, k _ (.bl _)⟩
  · cases e
theorem rev_len (z : Str) (tk : Tok) : (slicePicked z none none (some (-1, tk))).length ≤ z.length := by
  show (Builtin.Str.strSliceIndices none none (-1) z.length).length ≤ z.length
  unfold Builtin.Str.strSliceIndices sliceRange
  simp only [List.length_map, List.length_range]
  rw [show (- -1 : Int) = 1 from rfl, Int.ediv_one]
  split <;> split <;> omega
def revZ (z : Str) : Str := { cps := (List.filterMap (fun i => z.cps[i]?) (slicePicked z none none (some (-1, 0)))).toArray }
theorem revZ_len (z : Str) : (revZ z).length ≤ z.length := by
  show (List.filterMap (fun i => z.cps[i]?) (slicePicked z none none (some (-1, 0)))).toArray.size ≤ _
  rw [List.size_toArray]
  exact Nat.le_trans (List.length_filterMap_le _ _) (rev_len z 0)
def tRevZ (te ts : TE) : TE := fun σ H Q => te σ H fun x H1 => ts σ H1 fun y H2 => ∃ i, y = .int i ∧ ∃ z, x = .str z ∧ i = -1 ∧ z.length ≤ sizeLine ∧ Q (.str (revZ z)) H2
theorem pe_revZ {X : Cx} {pos : Pos} {e se : Expr} {te ts : TE} {p3 : Pos} (he : PE X e te) (hs : PE X se ts) : PE X (.Subscript e (.Slice none none (some se) p3) pos) (tRevZ te ts) := by
  refine ⟨fun pins s σ H Q I h => ?_⟩
  refine Subscript_ (thn (he.run pins s σ H _ I h) fun v s1 ⟨x, H1, I1, r1, q1⟩ => ?_)
  have hp : PO X (some se) (tPart ts) := po_some hs
  refine wpAny_Slice (thn (po_none.run pins s1 σ H1 (fun o H2 => o = none ∧ H2 = H1) I1 ⟨rfl, rfl⟩) fun vl s2 ⟨l, H2, I2, pl, el, e2⟩ => ?_)
  subst el e2
  refine thn (po_none.run pins s2 σ H2 (fun o H3 => o = none ∧ H3 = H2) I2 ⟨rfl, rfl⟩) fun vu s3 ⟨u, H3, I3, pu, eu, e3⟩ => ?_
  subst eu e3
  refine thn (hp.run pins s3 σ H3 (fun o H4 => match o with
    | some i => ∃ z, x = .str z ∧ i = -1 ∧ z.length ≤ sizeLine ∧ Q (.str (revZ z)) H4
    | none => False) I3 q1) fun vs s4 ⟨o, H4, I4, ps, q2⟩ => ?_
  cases o with
  | none => exact q2.elim
  | some i =>
    obtain ⟨z, ex, hi, hz, q⟩ := q2
    subst ex hi
    obtain ⟨t, rfl⟩ := r1
    have I5 : Inv X pins σ H4 { s4 with heap := s4.heap.push { cls := .type "slice", data := .fields #[vl, vu, vs] } } := I4.kept (t' := s4.toks) fun b ob q => Heap.get?_push_of_some _ q
    show wpAny (model X.prog X.w) X.A (subscriptTail e (.Slice none none (some se) p3) (.str z t) (.ref s4.heap.objs.size)) (EP X pins σ Q) X.xe { s4 with heap := s4.heap.push { cls := .type "slice", data := .fields #[vl, vu, vs] } }
    refine tail_any (T := "str") (id := "str.__getitem__") (ops := [.str z t, .ref s4.heap.objs.size]) (typeIs_str _ z t) F.slot_str_getitem.lookup ?_ (by with_unfolding_all rfl)
    obtain ⟨l, el1, el2⟩ := IsPart.raw pl
    obtain ⟨u, eu1, eu2⟩ := IsPart.raw pu
    obtain ⟨w, ew1, ew2⟩ := IsPart.raw ps
    cases l with
    | some l => cases el2
    | none =>
      cases u with
      | some u => cases eu2
      | none =>
        cases w with
        | none => cases ew2
        | some w =>
          obtain ⟨wi, wt⟩ := w
          have ew3 : wi = -1 := by simpa using ew2
          subst ew3 el1 eu1 ew1
          refine wpAny_getItem_str_slice (l := none) (u := none) (st := some (-1, wt)) ⟨_, Heap.get?_push_size _ rfl, rfl, rfl⟩ rfl ?_
          have e0 : sliceMade z t none none (some (-1, wt)) = Made.str (revZ z) := rfl
          rw [e0]
          simp only [Made.post]
          exact ⟨Nat.le_trans (revZ_len z) hz, .str (revZ z), H4, I5.tok _, ⟨_, rfl⟩, q⟩
def wRevZ (wa : DTE) : DTE := fun ρ κ P => wa ρ κ fun r κ1 => match r with
  | .d (.str z) => z.length ≤ 16777216 ∧ P (.d (.str (revZ z))) κ1
  | _ => False
theorem s_revZ {wa : DTE} {ρ : Rho} {κ : Kap} {P : R → Kap → Prop} : wRevZ wa ρ κ P = wa ρ κ fun r κ1 => match r with
  | .d (.str z) => z.length ≤ 16777216 ∧ P (.d (.str (revZ z))) κ1
  | _ => False := rfl
theorem de_revZ {X : Cx} {e : Expr} {pos : Pos} {wa : DTE} {kk : Nat} {p1 p2 p3 : Pos} (ha : DE X e wa) : DE X (.Subscript e (.Slice none none (some (.UnaryOp .USub (.Constant (.int 1) kk p1) p2)) p3) pos) (wRevZ wa) := by
  obtain ⟨t, pt, ha⟩ := ha
  refine ⟨_, pe_revZ pt (pe_un un_neg pe_int), fun G H As σ ρ κ P Q c p w k => ?_⟩
  refine ha G H As σ ρ κ _ _ c p w fun v r G1 H1 As1 κ1 s1 c1 p1 i1 w1 => ?_
  cases r with
  | d x =>
    cases x with
    | str z =>
      have i1 : Rp X.K G1 v (.str z) := i1
      cases i1
      have hz := sizeLine_eq
      exact ⟨_, rfl, -1, rfl, z, rfl, rfl, by have := w1.1; omega, k _ (.d (.str (revZ z))) G1 H1 As1 κ1 s1 c1 p1 (Rp.str _) w1.2⟩
    | _ => exact w1.elim
  | _ => exact w1.elim
def flatV : PyData → Option V
  | .str z => some (.str z)
  | .int i => some (.int i)
  | _ => none
def Row (K : PySem.W.Frag) (v : V) (ds : List PyData) : Prop := ∃ b us, v = .ref b ∧ (∀ H : Hp, SqT K H b us) ∧ ∀ G : Hp, RpA K G us ds
structure Tab (K : PySem.W.Frag) (mg : Str → Option Value) (x : Str) (rows : List (List PyData)) : Prop where
  ex : ∃ a vs, mg x = some (.ref a) ∧ (∀ H : Hp, SqT K H a vs) ∧ Paired (Row K) vs rows
def forTL (gs : List PyData → Rho → Kap → (Rho → Kap → Prop) → Prop) (b : DTS) (E : DEnds) : List (List PyData) → Rho → Kap → Prop
  | [], ρ, κ => E.nx ρ κ
  | x :: xs, ρ, κ => gs x ρ κ fun ρ1 κ1 => b { nx := fun ρ2 κ2 => forTL gs b E xs ρ2 κ2, rt := E.rt, bk := E.nx, ct := fun ρ2 κ2 => forTL gs b E xs ρ2 κ2 } ρ1 κ1
def wForT (rows : List (List PyData)) (n : Nat) (gs : List PyData → Rho → Kap → (Rho → Kap → Prop) → Prop) (b : DTS) : DTS := fun E ρ κ => (∀ r ∈ rows, r.length = n) ∧ forTL gs b E rows ρ κ
theorem s_forT {rows : List (List PyData)} {n : Nat} {gs : List PyData → Rho → Kap → (Rho → Kap → Prop) → Prop} {b : DTS} {E : DEnds} {ρ : Rho} {κ : Kap} : wForT rows n gs b E ρ κ = ((∀ r ∈ rows, r.length = n) ∧ forTL gs b E rows ρ κ) := rfl
theorem prd_at {α β : Type} {S : α → β → Prop} : ∀ {xs : List α} {ys : List β} {i : Nat} {x : α} {y : β}, Paired S xs ys → xs[i]? = some x → ys[i]? = some y → S x y
  | _, _, _, _, _, .nil, e, _ => by simp at e
  | _, _, 0, _, _, .cons r _, e, e2 => by simp at e e2; subst e e2; exact r
  | _, _, i + 1, x, y, .cons _ t, e, e2 => prd_at (i := i) t (by simpa using e) (by simpa using e2)
theorem ds_forT {X : Cx} {body : List Stmt} {b : DTS} {pos tpos p : Pos} {x : Str} {rows : List (List PyData)} {es : List Expr} {js : List Nat} {gs : List PyData → Rho → Kap → (Rho → Kap → Prop) → Prop} {k n : Nat} (hp : PassesOwn (model X.prog X.w) X.A X.env X.xe) (hc : X.calm = true) (ht : Tab X.K X.mg x rows) (h : DGs X es js gs) (hb : DSs X body b)
    (hn : (assignEach es X.env).length = n := by rfl) (hst : (assignEach es X.env).findIdx? (·.1) = none := by rfl) (hg : Gl X x := by rfl) (hd : (x == ("__debug__" : Str)) = false := by decide)
    (hs : ∀ v, foldedSetIterable (.Name x p) X.env v = pure v := by intro _; rfl) : DS X (.For (.Tuple es k tpos) (.Name x p) body [] pos) (wForT rows n gs b) := by
  obtain ⟨a, vs, hm, ha, hr⟩ := ht.ex
  obtain ⟨tg', pg, h⟩ := h
  obtain ⟨tb, pb, hb⟩ := hb
  have pi : PI X (.Tuple es k tpos) (.Name x p) _ := pi_seq (pe_glob (v := .ref a) hg hm rfl hd)
  refine ⟨_, ps_for hp hc pi (pg_tup hc pg hn hst) pb hs, fun G H As σ ρ κ E D cc pp w r => ?_⟩
  obtain ⟨hrow, w⟩ := w
  refine .inr (.inl ⟨a, vs, rfl, ha H, ?_⟩)
  have hlen := hr.length
  refine ⟨fun i m σ' H' => i + m = rows.length ∧ ∃ G' As' ρ' κ', Step G H As G' H' As' ∧ Cells X.K G' H' As' κ' ∧ Places X.K G' As' σ' ρ' ∧ forTL gs b E (rows.drop i) ρ' κ',
    ⟨rows.length, by omega, G, As, ρ, κ, Step.refl, cc, pp, w⟩, fun i m σ' H' hW => ?_⟩
  obtain ⟨em, G', As', ρ', κ', s', c', p', f⟩ := hW
  cases m with
  | zero =>
    have ei : i = rows.length := by omega
    subst ei
    rw [List.drop_length] at f
    exact .inl ⟨⟨vs, ha H', by omega⟩, r.nx _ _ G' H' As' κ' s' c' p' f⟩
  | succ m =>
    have hi' : i < rows.length := by omega
    rw [List.drop_eq_getElem_cons hi'] at f
    have hv' : i < vs.length := by omega
    refine .inr ⟨⟨vs, _, ha H', List.getElem?_eq_getElem hv'⟩, fun σ2 H2 => ∃ G2 As2 ρ2 κ2, Step G H As G2 H2 As2 ∧ Cells X.K G2 H2 As2 κ2 ∧ Places X.K G2 As2 σ2 ρ2 ∧ forTL gs b E (rows.drop (i + 1)) ρ2 κ2,
      fun σ2 H2 ⟨G2, As2, ρ2, κ2, q⟩ => ⟨m, by omega, by omega, G2, As2, ρ2, κ2, q⟩, fun v H2 hy => ?_⟩
    obtain ⟨rfl, hv⟩ := hy
    obtain ⟨b', us, rfl, hu, hus⟩ := prd_at hr (hv vs (ha _)) (List.getElem?_eq_getElem hi')
    refine ⟨b', us, rfl, hu _, (hus G').len.trans (hrow _ (List.getElem_mem hi')), h G' _ As' σ' ρ' κ' us _ _ _ c' p' (hus G') f fun σ3 ρ3 G3 H3 As3 κ3 _ s3 c3 p3 w3 => ?_⟩
    have st : Step G H As G3 H3 As3 := s'.trans s3
    refine hb G3 H3 As3 σ3 ρ3 κ3 _ _ c3 p3 w3 ⟨fun a b' c d e f' x y z q => ⟨c, e, b', f', st.trans x, y, z, q⟩, fun a b' c d e f' x y z q => r.nx a b' c d e f' (st.trans x) y z q, fun a b' c d e f' x y z q => ⟨c, e, b', f', st.trans x, y, z, q⟩, fun a b' c d e f' x y z q => r.rt a b' c d e f' (st.trans x) y (z.back st) q⟩
end DL
namespace TX
open PySem PySem.Spec PyProof.Rows L2 DL
abbrev cs (z : Str) : List Nat := z.cps.toList
abbrev mkS (l : List Nat) : Str := ⟨l.toArray⟩
def hitB (s : Str) (c : Nat) (i : Nat) : Bool := decide (i + 1 ≤ s.length) && Builtin.Str.subAt s ⟨#[c]⟩ i
theorem hit_iff (s : Str) (c i : Nat) : hitB s c i = true ↔ (cs s)[i]? = some c := by
  unfold hitB Builtin.Str.subAt
  rw [Bool.and_eq_true, decide_eq_true_iff]
  show i + 1 ≤ s.cps.size ∧ (s.cps.extract i (i + 1) == #[c]) = true ↔ _
  constructor
  · rintro ⟨h1, h2⟩
    have h3 : s.cps.extract i (i + 1) = #[c] := eq_of_beq h2
    have h4 : (s.cps.extract i (i + 1)).toList = [c] := by rw [h3]
    rw [Array.toList_extract] at h4
    have h5 : (cs s)[i]? = some (s.cps[i]'(by omega)) := by simp [cs]
    rw [List.extract_eq_drop_take] at h4
    have h6 : (List.take (i + 1 - i) (List.drop i s.cps.toList))[0]? = some c := by rw [h4]; rfl
    rw [List.getElem?_take_of_lt (by omega), List.getElem?_drop] at h6
    simpa using h6
  · intro h
    obtain ⟨hl, he⟩ := List.getElem?_eq_some_iff.mp h
    have hl' : i < s.cps.size := by simpa using hl
    refine ⟨hl', ?_⟩
    have : s.cps.extract i (i + 1) = #[c] := by
      apply Array.ext'
      rw [Array.toList_extract, List.extract_eq_drop_take, List.drop_eq_getElem_cons hl, he]
      simp
    rw [this]
    exact beq_self_eq_true _
theorem occ_loop (s : Str) (c lim : Nat) : ∀ (m k : Nat) (found : Array Nat) (free : Nat), free ≤ k →
    ((forIn (m := Id) (List.range' k m) (found, free) fun i (st : Array Nat × Nat) =>
      if (decide (st.1.size < lim) && decide (st.2 ≤ i) && decide (i + 1 ≤ s.length) && Builtin.Str.subAt s ⟨#[c]⟩ i) = true then pure (ForInStep.yield (st.1.push i, i + 1)) else pure (ForInStep.yield (st.1, st.2))) : Id (Array Nat × Nat)).run.1.toList
      = found.toList ++ ((List.range' k m).filter (hitB s c)).take (lim - found.size)
  | 0, k, found, free, h => by simp
  | m + 1, k, found, free, h => by
    rw [List.range'_succ, List.forIn_cons]
    have hh : (decide (found.size < lim) && decide (free ≤ k) && decide (k + 1 ≤ s.length) && Builtin.Str.subAt s ⟨#[c]⟩ k) = (decide (found.size < lim) && hitB s c k) := by
      rw [decide_eq_true h]
      unfold hitB
      rw [Bool.and_true, Bool.and_assoc]
    dsimp only
    rw [hh]
    rw [List.filter_cons]
    by_cases q : hitB s c k = true
    · rw [if_pos q, q]
      by_cases l : found.size < lim
      · rw [if_pos (by rw [decide_eq_true l]; rfl)]
        have := occ_loop s c lim m (k + 1) (found.push k) (k + 1) (Nat.le_refl _)
        refine Eq.trans this ?_
        rw [Array.size_push, Array.toList_push]
        obtain ⟨d, hd⟩ : ∃ d, lim - found.size = d + 1 := ⟨lim - found.size - 1, by omega⟩
        rw [hd, List.take_succ_cons, show lim - (found.size + 1) = d by omega]
        simp
      · rw [if_neg (by rw [decide_eq_false l]; decide)]
        have := occ_loop s c lim m (k + 1) found free (by omega)
        refine Eq.trans this ?_
        rw [show lim - found.size = 0 by omega]
        simp
    · have q' : hitB s c k = false := by simpa using q
      rw [if_neg q, q', if_neg (by rw [Bool.and_false]; decide)]
      exact occ_loop s c lim m (k + 1) found free (by omega)
def posL (c : Nat) (l : List Nat) : List Nat := (List.range l.length).filter fun i => decide (l[i]? = some c)
theorem occ_one (s : Str) (c lim : Nat) : Builtin.Str.occurrences s ⟨#[c]⟩ 0 s.length lim = (posL c (cs s)).take lim := by
  have h := occ_loop s c lim (s.length + 1) 0 #[] 0 (Nat.le_refl _)
  have e : Builtin.Str.occurrences s ⟨#[c]⟩ 0 s.length lim = (forIn (m := Id) (List.range' 0 (s.length + 1)) ((#[] : Array Nat), 0) fun i (st : Array Nat × Nat) =>
      if (decide (st.1.size < lim) && decide (st.2 ≤ i) && decide (i + 1 ≤ s.length) && Builtin.Str.subAt s ⟨#[c]⟩ i) = true then pure (ForInStep.yield (st.1.push i, i + 1)) else pure (ForInStep.yield (st.1, st.2)) : Id (Array Nat × Nat)).run.1.toList := by
    unfold Builtin.Str.occurrences
    simp only [Std.Legacy.Range.forIn_eq_forIn_range', Std.Legacy.Range.size, Nat.sub_zero, Nat.add_sub_cancel, Nat.div_one]
    rfl
  rw [e, h]
  simp only [List.nil_append, Array.toList_empty, Array.size_empty, Nat.sub_zero]
  congr 1
  rw [← List.range_eq_range', List.range_succ, List.filter_append]
  have e1 : List.filter (hitB s c) [s.length] = [] := by
    rw [List.filter_cons, if_neg (by unfold hitB; rw [decide_eq_false (by omega), Bool.false_and]; decide)]
    rfl
  rw [e1, List.append_nil]
  unfold posL
  have e2 : (cs s).length = s.length := by simp [cs, Str.length]
  rw [e2]
  refine List.filter_congr fun i _ => ?_
  rw [Bool.eq_iff_iff, hit_iff, decide_eq_true_iff]
def splitL (c : Nat) : List Nat → List (List Nat)
  | [] => [[]]
  | x :: xs => if x = c then [] :: splitL c xs else match splitL c xs with
    | y :: ys => (x :: y) :: ys
    | [] => [[x]]
theorem splitL_ne (c : Nat) : ∀ l, splitL c l ≠ []
  | [] => by simp [splitL]
  | x :: xs => by
    unfold splitL
    split
    · simp
    · split <;> simp
theorem splitL_cons {c x : Nat} {xs y : List Nat} {ys : List (List Nat)} (h : x ≠ c) (e : splitL c xs = y :: ys) : splitL c (x :: xs) = (x :: y) :: ys := by
  rw [splitL, if_neg h, e]
def partsAt (l : List Nat) (a : Nat) (cuts : List Nat) : List (List Nat) := (List.zip (a :: cuts.map (· + 1)) (cuts ++ [l.length])).map fun p => (l.take p.2).drop p.1
theorem parts_split (c : Nat) (l : List Nat) : ∀ (m a : Nat), a + m = l.length → partsAt l a ((List.range' a m).filter fun i => decide (l[i]? = some c)) = splitL c (l.drop a)
  | 0, a, h => by
    have ea : a = l.length := by omega
    subst ea
    rw [List.drop_length]
    simp [partsAt, splitL]
  | m + 1, a, h => by
    have ih := parts_split c l m (a + 1) (by omega)
    have hl : a < l.length := by omega
    rw [List.range'_succ, List.filter_cons, List.drop_eq_getElem_cons hl]
    have ex : l[a]? = some l[a] := List.getElem?_eq_getElem hl
    generalize hcs : (List.range' (a + 1) m).filter (fun i => decide (l[i]? = some c)) = cs' at ih ⊢
    have hge : ∀ i ∈ cs', a + 1 ≤ i := by
      intro i hi
      rw [← hcs] at hi
      have := List.mem_range'_1.mp (List.mem_filter.mp hi).1
      omega
    by_cases q : l[a] = c
    · rw [if_pos (by rw [ex, q]; simp), splitL, if_pos q, ← ih]
      unfold partsAt
      rw [List.map_cons, List.cons_append, List.zip_cons_cons, List.map_cons]
      have : (l.take a).drop a = [] := by
        rw [List.drop_eq_nil_iff, List.length_take]; omega
      rw [this]
    · rw [if_neg (by rw [ex]; simpa using q)]
      have key : ∃ j js, cs' ++ [l.length] = j :: js ∧ a + 1 ≤ j := by
        cases cs' with
        | nil => exact ⟨_, _, rfl, by omega⟩
        | cons j js => exact ⟨j, js ++ [l.length], rfl, hge j (List.mem_cons_self ..)⟩
      obtain ⟨j, js, ej, hj⟩ := key
      unfold partsAt at ih ⊢
      rw [ej] at ih ⊢
      rw [List.zip_cons_cons, List.map_cons] at ih ⊢
      rw [splitL_cons q ih.symm]
      congr 1
      dsimp only
      have hlt : a < (l.take j).length := by rw [List.length_take]; omega
      rw [List.drop_eq_getElem_cons hlt, List.getElem_take]
theorem sub_take (s : Str) (i j : Nat) : Builtin.Str.strSub s i j = mkS (((cs s).take j).drop i) := by
  unfold Builtin.Str.strSub mkS
  congr 1
  apply Array.ext'
  rw [Array.toList_extract, List.extract_eq_drop_take, List.drop_take]
theorem mk_cs (s : Str) : mkS (cs s) = s := by
  show (⟨s.cps.toList.toArray⟩ : Str) = s
  rw [Array.toArray_toList]
theorem cs_mk (l : List Nat) : cs (mkS l) = l := rfl
theorem cs_len (s : Str) : (cs s).length = s.length := by simp [cs, Str.length]
theorem kind_pos (s : Str) : 1 ≤ Builtin.Str.strKind s := by
  unfold Builtin.Str.strKind
  split
  · omega
  · split <;> omega
theorem kind_one {c : Nat} (h : c < 256) : Builtin.Str.strKind ⟨#[c]⟩ = 1 := by
  unfold Builtin.Str.strKind
  rw [if_pos (by simp [h])]
theorem posL_len (c : Nat) (l : List Nat) : (posL c l).length ≤ l.length := Nat.le_trans (List.length_filter_le ..) (by rw [List.length_range]; exact Nat.le_refl _)
theorem splitL_self {c : Nat} : ∀ {l : List Nat}, c ∉ l → splitL c l = [l]
  | [], _ => rfl
  | x :: xs, h => splitL_cons (fun e => h (by rw [e]; exact List.mem_cons_self ..)) (splitL_self fun e => h (List.mem_cons_of_mem _ e))
theorem split_eq (s : Str) {c : Nat} (h : c < 256) : Txt.split s ⟨#[c]⟩ = (splitL c (cs s)).map mkS := by
  have hk : Builtin.Str.strKind ⟨#[c]⟩ = 1 := kind_one h
  have hp := kind_pos s
  unfold Txt.split
  have hlen : (⟨#[c]⟩ : Str).length = 1 := rfl
  rw [hlen, hk, occ_one, List.take_of_length_le (by have := posL_len c (cs s); rw [cs_len] at this; omega)]
  rw [decide_eq_false (show ¬ Builtin.Str.strKind s < 1 by omega), Bool.or_false]
  have main := parts_split c (cs s) (cs s).length 0 (by omega)
  rw [← List.range_eq_range', List.drop_zero] at main
  have main : partsAt (cs s) 0 (posL c (cs s)) = splitL c (cs s) := main
  by_cases e0 : s.length < 1
  · rw [if_pos (by rw [decide_eq_true e0])]
    have : cs s = [] := List.eq_nil_of_length_eq_zero (by rw [cs_len]; omega)
    rw [this]
    show [s] = [mkS []]
    rw [← this, mk_cs]
  · rw [if_neg (by rw [decide_eq_false e0]; decide)]
    by_cases e1 : (posL c (cs s)) = []
    · rw [if_pos (by rw [e1]; rfl), ← main, e1]
      show [s] = [mkS (((cs s).take (cs s).length).drop 0)]
      rw [List.take_length, List.drop_zero, mk_cs]
    · rw [if_neg (by simpa using e1), ← main]
      unfold Builtin.Str.partsBetween partsAt
      rw [List.map_map, cs_len]
      refine List.map_congr_left fun p _ => ?_
      exact sub_take s p.1 p.2
/-- how long they are -/
def lenS : List (List Nat) → Nat
  | [] => 0
  | x :: xs => x.length + lenS xs
theorem splitL_sum (c : Nat) : ∀ l, lenS (splitL c l) + (splitL c l).length = l.length + 1
  | [] => rfl
  | x :: xs => by
    have ih := splitL_sum c xs
    by_cases q : x = c
    · rw [splitL, if_pos q]
      show 0 + lenS (splitL c xs) + ((splitL c xs).length + 1) = _
      rw [List.length_cons]; omega
    · cases e : splitL c xs with
      | nil => exact absurd e (splitL_ne c xs)
      | cons y ys =>
        rw [splitL_cons q e]
        rw [e] at ih
        simp only [lenS, List.length_cons] at ih ⊢
        omega
theorem splitL_app {c : Nat} : ∀ {u v : List Nat}, c ∉ u → splitL c (u ++ c :: v) = u :: splitL c v
  | [], v, _ => by rw [List.nil_append, splitL, if_pos rfl]
  | x :: u, v, h => splitL_cons (fun e => h (by rw [e]; exact List.mem_cons_self ..)) (splitL_app fun e => h (List.mem_cons_of_mem _ e))
theorem cut_first {c : Nat} : ∀ {l : List Nat}, c ∈ l → ∃ u v, l = u ++ c :: v ∧ c ∉ u
  | x :: l, h => by
    by_cases q : x = c
    · exact ⟨[], l, by rw [q]; rfl, by simp⟩
    · obtain ⟨u, v, e, n⟩ := cut_first (l := l) (by
        rcases List.mem_cons.mp h with z | z
        · exact absurd z.symm q
        · exact z)
      exact ⟨x :: u, v, by rw [e]; rfl, fun z => by
        rcases List.mem_cons.mp z with z | z
        · exact q z.symm
        · exact n z⟩
theorem posL_none {c : Nat} {l : List Nat} (h : c ∉ l) : posL c l = [] := by
  unfold posL
  rw [List.filter_eq_nil_iff]
  intro i _ e
  exact h (List.mem_of_getElem? (of_decide_eq_true e))
theorem posL_app {c : Nat} {u v : List Nat} (h : c ∉ u) : ∃ t, posL c (u ++ c :: v) = u.length :: t := by
  unfold posL
  rw [List.length_append, List.length_cons, show u.length + (v.length + 1) = u.length + 1 + v.length by omega, List.range_add, List.range_succ, List.filter_append, List.filter_append]
  have e1 : (List.range u.length).filter (fun i => decide ((u ++ c :: v)[i]? = some c)) = [] := by
    rw [List.filter_eq_nil_iff]
    intro i hi e
    have hi := List.mem_range.mp hi
    have e := of_decide_eq_true e
    rw [List.getElem?_append_left hi] at e
    exact h (List.mem_of_getElem? e)
  rw [e1, List.nil_append]
  have e2 : [u.length].filter (fun i => decide ((u ++ c :: v)[i]? = some c)) = [u.length] := by
    rw [List.filter_cons, if_pos (by simp)]
    rfl
  rw [e2]
  exact ⟨_, rfl⟩
theorem has_one (s : Str) (c : Nat) : (!(Builtin.Str.occurrences s ⟨#[c]⟩ 0 s.length 1).isEmpty) = decide (c ∈ cs s) := by
  rw [occ_one]
  by_cases q : c ∈ cs s
  · obtain ⟨u, v, e, n⟩ := cut_first q
    obtain ⟨t, et⟩ := posL_app (v := v) n
    rw [decide_eq_true q, e, et]
    rfl
  · rw [decide_eq_false q, posL_none q]
    rfl
theorem part_no {s : Str} {c : Nat} (h : c ∉ cs s) : Txt.partition s ⟨#[c]⟩ = (s, Str.empty, Str.empty) := by
  unfold Txt.partition
  rw [occ_one, posL_none h]
  rfl
theorem part_yes {s : Str} {c : Nat} {u v : List Nat} (e : cs s = u ++ c :: v) (h : c ∉ u) : Txt.partition s ⟨#[c]⟩ = (mkS u, ⟨#[c]⟩, mkS v) := by
  unfold Txt.partition
  obtain ⟨t, et⟩ := posL_app (v := v) h
  rw [occ_one, e, et, List.take_succ_cons]
  dsimp only
  rw [sub_take, sub_take, ← cs_len s, e]
  have e1 : ((u ++ c :: v).take u.length).drop 0 = u := by simp
  have e2 : ((u ++ c :: v).take (u ++ c :: v).length).drop (u.length + (⟨#[c]⟩ : Str).length) = v := by
    rw [List.take_length]
    show List.drop (u.length + 1) _ = v
    rw [← List.drop_drop, List.drop_left]
    rfl
  rw [e1, e2]
def joinL (c : Nat) : List (List Nat) → List Nat
  | [] => []
  | [x] => x
  | x :: y :: xs => x ++ c :: joinL c (y :: xs)
theorem split_join {c : Nat} : ∀ {ws : List (List Nat)}, ws ≠ [] → (∀ w ∈ ws, c ∉ w) → splitL c (joinL c ws) = ws
  | [], h, _ => absurd rfl h
  | [x], _, h => splitL_self (h x (List.mem_cons_self ..))
  | x :: y :: xs, _, h => by
    rw [joinL, splitL_app (h x (List.mem_cons_self ..)), split_join (by simp) fun w hw => h w (List.mem_cons_of_mem _ hw)]
end TX
namespace DL
open PySem PySem.Spec PyProof.Rows L2
def flatX : PyData → Bool
  | .none => true
  | .bool _ => true
  | .int _ => true
  | .str _ => true
  | _ => false
section
variable {K : PySem.W.Frag} {G H G' H' G1 H1 : Hp} {As As' As1 : List Addr} {σ : L2.St} {ρ ρ' : Rho} {κ κ' κ1 κ2 κ3 : Kap} {v : V} {r : R}
end
end DL
namespace DL
open PySem PySem.Spec PyProof.Rows L2
def Refs (As : List Addr) (vs : List V) (ks : List Nat) : Prop := vs.length = ks.length ∧ ∀ (i k : Nat), ks[i]? = some k → ∃ c, As[k]? = some c ∧ vs[i]? = some (V.ref c)
theorem Refs.nil {As : List Addr} : Refs As [] [] := ⟨rfl, fun i k h => by simp at h⟩
theorem Refs.mono {As As' : List Addr} {vs : List V} {ks : List Nat} (h : Refs As vs ks) (p : ∃ bs, As' = As ++ bs) : Refs As' vs ks := by
  obtain ⟨bs, rfl⟩ := p
  refine ⟨h.1, fun i k hk => ?_⟩
  obtain ⟨c, e1, e2⟩ := h.2 i k hk
  exact ⟨c, by rw [List.getElem?_append_left (List.getElem?_eq_some_iff.mp e1).1]; exact e1, e2⟩
theorem Refs.snoc {As : List Addr} {vs : List V} {ks : List Nat} {v : V} {y : Nat} (h : Refs As vs ks) (hv : ∃ a, As[y]? = some a ∧ v = .ref a) : Refs As (vs ++ [v]) (ks ++ [y]) := by
  obtain ⟨a, e1, rfl⟩ := hv
  refine ⟨by rw [List.length_append, List.length_append, h.1]; rfl, fun i k hk => ?_⟩
  by_cases hi : i < ks.length
  · rw [List.getElem?_append_left hi] at hk
    obtain ⟨c, q1, q2⟩ := h.2 i k hk
    exact ⟨c, q1, by rw [List.getElem?_append_left (by rw [h.1]; exact hi)]; exact q2⟩
  · have hl : i < (ks ++ [y]).length := (List.getElem?_eq_some_iff.mp hk).1
    rw [List.length_append, List.length_singleton] at hl
    have ei : i = ks.length := by omega
    subst ei
    rw [List.getElem?_append_right (Nat.le_refl _), Nat.sub_self] at hk
    cases hk
    exact ⟨a, e1, by rw [← h.1, List.getElem?_append_right (Nat.le_refl _), Nat.sub_self]; rfl⟩
def lcB (ok : Kap → Prop) (g : DTG) (t : DTT) (e : DTE) (ρw : Rho) (P : R → Kap → Prop) : List PyData → List Nat → Kap → Prop
  | [], ks, κ => P (.b ks) κ
  | x :: xs, ks, κ => g (.d x) ρw κ fun ρ1 κ1 => t ρ1 κ1 fun b κ2 => if b = true then e ρ1 κ2 fun r κ3 => (match r with
      | .f ys => ks.length < sizeLine ∧ ok (κ3 ++ [.l ys]) ∧ lcB ok g t e ρw P xs (ks ++ [κ3.length]) (κ3 ++ [.l ys])
      | .c j => ks.length < sizeLine ∧ ok κ3 ∧ lcB ok g t e ρw P xs (ks ++ [j]) κ3
      | _ => False) else ok κ2 ∧ lcB ok g t e ρw P xs ks κ2
def wLcB (wi : DTI) (g : DTG) (t : DTT) (e : DTE) (vs : List Nat) : DTE := fun ρ κ P => wi ρ κ fun xs ok κ1 => lcB ok g t e (wipeR ρ vs) P xs [] κ1
abbrev DTIR := Rho → Kap → (List R → Kap → Prop) → Prop
def wRefs (we : DTE) : DTIR := fun ρ κ P => we ρ κ fun r κ1 => match r with
  | .b ks => P (ks.map R.c) κ1
  | _ => False
def lcR (g : DTG) (t : DTT) (e : DTE) (ρw : Rho) (P : R → Kap → Prop) : List R → List PyData → Kap → Prop
  | [], acc, κ => P (.f acc) κ
  | x :: xs, acc, κ => g x ρw κ fun ρ1 κ1 => t ρ1 κ1 fun b κ2 => if b = true then e ρ1 κ2 fun r κ3 => Opt (dat κ3 r.st) fun q => acc.length < sizeLine ∧ lcR g t e ρw P xs (acc ++ [q.1]) q.2 else lcR g t e ρw P xs acc κ2
def wLcR (wi : DTIR) (g : DTG) (t : DTT) (e : DTE) (vs : List Nat) : DTE := fun ρ κ P => wi ρ κ fun xs κ1 => lcR g t e (wipeR ρ vs) P xs [] κ1
section
variable {X : Cx} {elt tg iter : Expr} {ifs : List Expr} {scope : Scope} {own : List (Str × Nat)} {pos : Pos} {wi : DTI} {g : DTG} {wt : DTT} {we : DTE} {js : List Nat}
end
@[simp] theorem lcB_nil (ok : Kap → Prop) (g : DTG) (t : DTT) (e : DTE) (ρ : Rho) (P : R → Kap → Prop) (ks : List Nat) (κ : Kap) : lcB ok g t e ρ P [] ks κ = P (.b ks) κ := rfl
@[simp] theorem lcR_nil (g : DTG) (t : DTT) (e : DTE) (ρ : Rho) (P : R → Kap → Prop) (acc : List PyData) (κ : Kap) : lcR g t e ρ P [] acc κ = P (.f acc) κ := rfl
@[simp] theorem s_lcB (wi : DTI) (g : DTG) (t : DTT) (e : DTE) (vs : List Nat) (ρ : Rho) (κ : Kap) (P : R → Kap → Prop) : wLcB wi g t e vs ρ κ P = wi ρ κ fun xs ok κ1 => lcB ok g t e (wipeR ρ vs) P xs [] κ1 := rfl
@[simp] theorem s_lcR (wi : DTIR) (g : DTG) (t : DTT) (e : DTE) (vs : List Nat) (ρ : Rho) (κ : Kap) (P : R → Kap → Prop) : wLcR wi g t e vs ρ κ P = wi ρ κ fun xs κ1 => lcR g t e (wipeR ρ vs) P xs [] κ1 := rfl
@[simp] theorem s_refs (we : DTE) (ρ : Rho) (κ : Kap) (P : List R → Kap → Prop) : wRefs we ρ κ P = we ρ κ fun r κ1 => match r with
  | .b ks => P (ks.map R.c) κ1
  | _ => False := rfl
end DL
namespace DL
open PySem PySem.Spec PyProof.Rows L2
def lookM (es : List (Key × R)) (k : Key) : Option R := (es.find? fun e => decide (e.1 = k)).map (·.2)
def putM (es : List (Key × R)) (k : Key) (r : R) : List (Key × R) :=
  if (es.any fun e => decide (e.1 = k)) = true then es.map (fun e => if e.1 = k then (e.1, r) else e) else es ++ [(k, r)]
def dropM (es : List (Key × R)) (k : Key) : List (Key × R) := es.filter fun e => decide (e.1 ≠ k)
section
variable {K : PySem.W.Frag} {G H G' H' : Hp} {As : List Addr} {kvs : List (Key × V)} {es : List (Key × R)} {k : Key} {v : V} {r : R}
theorem Mp.snoc (h : Mp K G As kvs es) (hv : It K G As v r) : Mp K G As (kvs ++ [(k, v)]) (es ++ [(k, r)]) := by
  unfold Mp at h ⊢
  induction h with
  | nil => exact .cons ⟨rfl, hv⟩ .nil
  | cons q t ih => exact .cons q ih
theorem Mp.len (h : Mp K G As kvs es) : kvs.length = es.length := Paired.length h
theorem Mp.any (h : Mp K G As kvs es) : (kvs.any fun kv => decide (kv.1 = k)) = es.any fun e => decide (e.1 = k) := by
  unfold Mp at h
  induction h with
  | nil => rfl
  | cons q t ih => rw [List.any_cons, List.any_cons, ih, q.1]
theorem Mp.put (h : Mp K G As kvs es) (hv : It K G As v r) : Mp K G As (putK kvs k v) (putM es k r) := by
  unfold putK putM
  rw [h.any]
  split
  · have go : ∀ {kvs : List (Key × V)} {es : List (Key × R)}, Mp K G As kvs es → Mp K G As (kvs.map fun kv => if kv.1 = k then (kv.1, v) else kv) (es.map fun e => if e.1 = k then (e.1, r) else e) := by
      intro kvs es h
      unfold Mp at h ⊢
      induction h with
      | nil => exact .nil
      | cons q t ih =>
        rename_i kv en kvs es
        obtain ⟨q1, q2⟩ := q
        refine .cons ?_ ih
        dsimp only
        by_cases hk : en.1 = k
        · rw [if_pos hk, if_pos (q1.trans hk)]; exact ⟨q1, hv⟩
        · rw [if_neg hk, if_neg (fun z => hk (q1.symm.trans z))]; exact ⟨q1, q2⟩
    exact go h
  · exact h.snoc hv
theorem Mp.drop (h : Mp K G As kvs es) : Mp K G As (dropK kvs k) (dropM es k) := by
  unfold dropK dropM
  unfold Mp at h ⊢
  induction h with
  | nil => exact .nil
  | cons q t ih =>
    rename_i kv en kvs es
    obtain ⟨q1, q2⟩ := q
    rw [List.filter_cons, List.filter_cons, q1]
    split
    · exact .cons ⟨q1, q2⟩ ih
    · exact ih
end
section
variable {X : Cx} {pos : Pos}
theorem Step.more {G H : Hp} {As : List Addr} {q : Addr} {o : HO} (hq : H q = none) : Step G H As G (upd H q o) (As ++ [q]) :=
  ⟨Ex.refl G, ⟨[q], rfl⟩, fun a ha => by
    rcases List.mem_append.mp ha with z | z
    · exact .inl z
    · rw [List.mem_singleton] at z; subst z; exact .inr hq, (fun b u _ _ e => by rw [upd_ne (ne_of_none e hq)]; exact e), (fun b e => by
    by_cases q' : b = q
    · subst q'; exact hq
    · rw [upd_ne q'] at e; exact e), fun _ e => .inl e⟩
theorem RpA.dropLast {K : PySem.W.Frag} {G : Hp} {vs : List V} {ds : List PyData} (h : RpA K G vs ds) : RpA K G vs.dropLast ds.dropLast := by
  rw [List.dropLast_eq_take, List.dropLast_eq_take, h.len]
  exact h.take _
end
end DL
namespace DL
open PySem PySem.Spec PyProof.Rows L2
section
variable {K : PySem.W.Frag} {G H G' H' G1 H1 : Hp} {As As' As1 : List Addr} {κ κ' : Kap} {D : Addr} {o u : HO}
end
section
variable {K : PySem.W.Frag} {G H G' H' G1 H1 : Hp} {As As' As1 : List Addr} {κ κ' : Kap}
abbrev EnH (K : PySem.W.Frag) (G : Hp) (kvs : List (Key × V)) (es : List (Key × PyData)) : Prop := Paired (fun (kv : Key × V) (e : Key × PyData) => kv.1 = e.1 ∧ Rp K G kv.2 e.2) kvs es
theorem EnH.mono {kvs : List (Key × V)} {es : List (Key × PyData)} (e : Ex G G') (h : EnH K G kvs es) : EnH K G' kvs es := Paired.mapP h fun _ _ z => ⟨z.1, Rp.mono e _ _ z.2⟩
end
section
variable {X : Cx} {e tg : Expr} {t : TE} {we : DTE} {pos apos cpos : Pos}
end
section
variable {K : PySem.W.Frag} {G H : Hp} {As : List Addr} {a : Addr} {o : Obj} {kvs : List (Key × V)} {es : List (Key × PyData)}
end
section
variable {X : Cx} {e tg : Expr} {we : DTE} {pos apos cpos : Pos}
end
section
variable {X : Cx} {kx vx tg iter : Expr} {ifs : List Expr} {scope : Scope} {own : List (Str × Nat)} {pos : Pos} {wi : DTI} {g : DTG} {wt : DTT} {wk wv : DTE} {js : List Nat}
end
end DL
namespace DL
open PySem PySem.Spec PyProof.Rows L2
def cksR : List R → Option (List Nat)
  | [] => some []
  | .c k :: rs => match cksR rs with
    | some ks => some (k :: ks)
    | none => none
  | _ => none
def wLstB (wr : DTA) : DTE := fun ρ κ P => wr ρ κ fun rs κ1 => Opt (cksR rs) fun ks => ks.length ≤ sizeLine ∧ P (.b ks) κ1
section
variable {X : Cx} {es : List Expr} {wr : DTA} {pos : Pos}
end
@[simp] theorem s_lstB (wr : DTA) (ρ : Rho) (κ : Kap) (P : R → Kap → Prop) : wLstB wr ρ κ P = wr ρ κ fun rs κ1 => Opt (cksR rs) fun ks => ks.length ≤ sizeLine ∧ P (.b ks) κ1 := rfl
def forRL (g : DTG) (b : DTS) (E : DEnds) : List R → Rho → Kap → Prop
  | [], ρ, κ => E.nx ρ κ
  | x :: xs, ρ, κ => g x ρ κ fun ρ1 κ1 => b { nx := fun ρ2 κ2 => forRL g b E xs ρ2 κ2, rt := E.rt, bk := E.nx, ct := fun ρ2 κ2 => forRL g b E xs ρ2 κ2 } ρ1 κ1
def wForR (wi : DTIR) (g : DTG) (b : DTS) : DTS := fun E ρ κ => wi ρ κ fun xs κ1 => forRL g b E xs ρ κ1
@[simp] theorem s_forR (wi : DTIR) (g : DTG) (b : DTS) (E : DEnds) (ρ : Rho) (κ : Kap) : wForR wi g b E ρ κ = wi ρ κ fun xs κ1 => forRL g b E xs ρ κ1 := rfl
@[simp] theorem forRL_nil (g : DTG) (b : DTS) (E : DEnds) (ρ : Rho) (κ : Kap) : forRL g b E [] ρ κ = E.nx ρ κ := rfl
@[simp] theorem forRL_cons (g : DTG) (b : DTS) (E : DEnds) (x : R) (xs : List R) (ρ : Rho) (κ : Kap) : forRL g b E (x :: xs) ρ κ = g x ρ κ fun ρ1 κ1 => b { nx := fun ρ2 κ2 => forRL g b E xs ρ2 κ2, rt := E.rt, bk := E.nx, ct := fun ρ2 κ2 => forRL g b E xs ρ2 κ2 } ρ1 κ1 := rfl
section
variable {X : Cx} {tg it : Expr} {body : List Stmt} {wi : DTIR} {g : DTG} {b : DTS} {js : List Nat} {pos : Pos}
end
def lcRk (ok : Kap → Prop) (g : DTG) (t : DTT) (e : DTE) (ρw : Rho) (P : R → Kap → Prop) : List R → List PyData → Kap → Prop
  | [], acc, κ => P (.f acc) κ
  | x :: xs, acc, κ => g x ρw κ fun ρ1 κ1 => t ρ1 κ1 fun b κ2 => if b = true then e ρ1 κ2 fun r κ3 => Opt (dat κ3 r.st) fun q => acc.length < sizeLine ∧ ok q.2 ∧ lcRk ok g t e ρw P xs (acc ++ [q.1]) q.2 else ok κ2 ∧ lcRk ok g t e ρw P xs acc κ2
@[simp] theorem lcRk_nil (ok : Kap → Prop) (g : DTG) (t : DTT) (e : DTE) (ρ : Rho) (P : R → Kap → Prop) (acc : List PyData) (κ : Kap) : lcRk ok g t e ρ P [] acc κ = P (.f acc) κ := rfl
section
variable {X : Cx} {elt tg iter : Expr} {ifs : List Expr} {scope : Scope} {own : List (Str × Nat)} {pos : Pos} {g : DTG} {wt : DTT} {we : DTE} {js : List Nat}
end
end DL
namespace SH
open PySem PySem.Spec PyProof.Rows L2 DL
theorem lc_map {α : Type} {ok : Kap → Prop} {g : DTG} {we : DTE} {ρw : Rho} {P : R → Kap → Prop} {κ : Kap} (f e : α → PyData) (hok : ok κ) : ∀ (xs : List α) (acc : List PyData), acc.length + xs.length ≤ sizeLine →
    (∀ x ∈ xs, ∀ C : R → Kap → Prop, C (.d (e x)) κ → g (.d (f x)) ρw κ fun ρ1 κ1 => we ρ1 κ1 C) → P (.f (acc ++ xs.map e)) κ → lcL ok g wYes we ρw P (xs.map f) acc κ
  | [], acc, _, _, hp => by simpa using hp
  | x :: xs, acc, hl, h, hp => by
    rw [List.map_cons, lcL_cons]
    refine h x (List.mem_cons_self ..) _ ?_
    simp only [List.length_cons] at hl
    refine ⟨by omega, hok, lc_map f e hok xs _ (by rw [List.length_append, List.length_singleton]; omega) (fun y hy => h y (List.mem_cons_of_mem _ hy)) ?_⟩
    rw [List.append_assoc]
    exact hp
theorem lc_filter {α : Type} {ok : Kap → Prop} {g : DTG} {wt : DTT} {we : DTE} {ρw : Rho} {P : R → Kap → Prop} {κ : Kap} (f : α → PyData) (p : α → Bool) (e : α → PyData) (hok : ok κ) : ∀ (xs : List α) (acc : List PyData), acc.length + xs.length ≤ sizeLine →
    (∀ x ∈ xs, ∀ C : Bool → Rho → Kap → Prop, (∀ ρ1, (p x = true → ∀ D : R → Kap → Prop, D (.d (e x)) κ → we ρ1 κ D) → C (p x) ρ1 κ) → g (.d (f x)) ρw κ fun ρ1 κ1 => wt ρ1 κ1 fun b κ2 => C b ρ1 κ2) →
    P (.f (acc ++ (xs.filter p).map e)) κ → lcL ok g wt we ρw P (xs.map f) acc κ
  | [], acc, _, _, hp => by simpa using hp
  | x :: xs, acc, hl, h, hp => by
    rw [List.map_cons, lcL_cons]
    simp only [List.length_cons] at hl
    refine h x (List.mem_cons_self ..) (fun b ρ1 κ2 => if b = true then we ρ1 κ2 fun r κ3 => Opt (dat κ3 r.st) fun q => acc.length < sizeLine ∧ ok q.2 ∧ lcL ok g wt we ρw P (xs.map f) (acc ++ [q.1]) q.2 else ok κ2 ∧ lcL ok g wt we ρw P (xs.map f) acc κ2) fun ρ1 hw => ?_
    by_cases hb : p x = true
    · rw [if_pos hb]
      refine hw hb _ ⟨by omega, hok, lc_filter f p e hok xs _ (by rw [List.length_append, List.length_singleton]; omega) (fun y hy => h y (List.mem_cons_of_mem _ hy)) ?_⟩
      rw [List.filter_cons_of_pos hb] at hp
      rw [List.append_assoc]
      exact hp
    · rw [if_neg hb]
      refine ⟨hok, lc_filter f p e hok xs acc (by omega) (fun y hy => h y (List.mem_cons_of_mem _ hy)) ?_⟩
      rw [List.filter_cons_of_neg hb] at hp
      exact hp
abbrev Hook := Str × Str × Int
abbrev Row := List Hook
def hookD (h : Hook) : PyData := .tuple [.str h.1, .str h.2.1, .int h.2.2]
def turned (h : Hook) : Hook := (h.1, h.2.1, -h.2.2)
def back (r : Row) : Row := r.reverse.map turned
theorem back_len (r : Row) : (back r).length = r.length := by unfold back; rw [List.length_map, List.length_reverse]
def Ph_back (rs : List R) (P : R → Prop) : Prop := ∃ r : Row, rs = [.d (.list (r.map hookD))] ∧ r.length ≤ sizeLine ∧ P (.f ((back r).map hookD))
abbrev Ph_law_back := Ph_back
def Box (N : Int) (bs : List PyData) : Prop := ∃ x c n : Int, bs = [.int x, .int c, .int n] ∧ 0 ≤ x ∧ 0 ≤ c ∧ c ≤ 2 ^ 40 ∧ 0 ≤ n ∧ n ≤ N
theorem Box.mono {N M : Int} {bs : List PyData} (h : Box N bs) (l : N ≤ M) : Box M bs := by
  obtain ⟨x, c, n, e, h1, h2, h3, h4, h5⟩ := h
  exact ⟨x, c, n, e, h1, h2, h3, h4, by omega⟩
def Ph_law_take (bs : List PyData) (rs : List R) (P : R → List PyData → Prop) : Prop := ∃ N b : Int, Box N bs ∧ N < 2 ^ 40 ∧ rs = [.d (.int b)] ∧ 0 < b ∧ b < 2 ^ 30 ∧ ∀ (r : Int) (bs' : List PyData), 0 ≤ r → r < b → Box (N + 1) bs' → P (.d (.int r)) bs'
def Ph_law_box (rs : List R) (P : R → Prop) : Prop := ∃ (ns : List Int) (k : Int), rs = [.s ns, .d (.int k)] ∧ 0 ≤ k ∧ k ≤ 1000 ∧ ∀ bs, Box 0 bs → P (.f bs)
end SH
namespace SH
open PySem PySem.Spec PyProof.Rows L2 DL
/-- _law_take -/
def w_law_take : DTS := (wSeq (wIfS (wB (wBin (ciD gtI) (wBin ixD (wVar 0) (wC (.int 0))) (wC (.int 0)))) (wSeq (wSet false 2 (wBin modD (wBin ixD (wVar 0) (wC (.int 0))) (wVar 1)))
  (wSeq (wAsg (wBin fdivD (wBin ixD (wVar 0) (wC (.int 0))) (wVar 1)) (wSub (wVar 0) (wC (.int 0))))
  (wRet (wVar 2)))) wNext)
  (wSeq (wAsg (wBin addD (wBin ixD (wVar 0) (wC (.int 2))) (wC (.int 1))) (wSub (wVar 0) (wC (.int 2))))
  (wSeq (wSet false 3 (wBin modD (wBin powD (wBin addD (wBin ixD (wVar 0) (wC (.int 1))) (wBin mulD (wC (.int 39373)) (wBin ixD (wVar 0) (wC (.int 2))))) (wC (.int 5))) (wC (.int 2147483647))))
  (wRet (wBin modD (wBin fdivD (wBin modD (wBin addD (wBin mulD (wVar 3) (wBin addD (wBin modD (wVar 3) (wC (.int 40009))) (wC (.int 7)))) (wBin mulD (wBin ixD (wVar 0) (wC (.int 2))) (wC (.int 7919)))) (wC (.int 2147483629))) (wC (.int 64))) (wVar 1))))))
theorem ix3_0 (a b c : PyData) : ixD (.list [a, b, c]) (.int 0) = some (.v a) := rfl
theorem ix3_1 (a b c : PyData) : ixD (.list [a, b, c]) (.int 1) = some (.v b) := rfl
theorem ix3_2 (a b c : PyData) : ixD (.list [a, b, c]) (.int 2) = some (.v c) := rfl
theorem ixN3_0 : ixN 3 0 = some 0 := rfl
theorem ixN3_2 : ixN 3 2 = some 2 := rfl
theorem r_law_take (bs : List PyData) (rs : List R) (Pd : R → List PyData → Prop) (h : Ph_law_take bs rs Pd) (hl : rs.length = 1) : w_law_take { nx := fun _ κ => endL κ (.d .none) Pd, rt := fun r κ => endL κ r Pd } (some (.c 0) :: (rs.map some ++ List.replicate 2 none)) [.l bs] := by
  obtain ⟨N, b, ⟨x, c, n, rfl, hx, hc, hc2, hn, hn2⟩, hN, rfl, hb, hb2, k⟩ := h
  have hp : (c + 39373 * (n + 1)).natAbs < 2 ^ 64 := by omega
  have hm : ∀ q : Int, 0 ≤ q % 2147483647 ∧ q % 2147483647 < 2147483647 := fun q => ⟨Int.emod_nonneg _ (by decide), Int.emod_lt_of_pos _ (by decide)⟩
  simp [w_law_take, ix3_0, ix3_1, ix3_2, ixN3_0, ixN3_2, gtI]
  by_cases h0 : 0 < x
  · rw [if_pos h0]
    rw [modD_int hb, Opt_some]
    simp [fdivD_int hb (by omega), ix3_0, ixN3_0]
    refine k _ _ (Int.emod_nonneg _ (by omega)) (Int.emod_lt_of_pos _ hb) ⟨_, c, n, rfl, Int.ediv_nonneg hx (by omega), hc, hc2, hn, by omega⟩
  · rw [if_neg h0]
    rw [mulD_int (.inl (by decide)), Opt_some]
    simp only [out_v, addD_int, Opt_some, st_d, val_d]
    rw [powD_int (by decide) (by decide) hp, Opt_some]
    simp only [out_v, Opt_some, st_d, val_d]
    rw [modD_int (by decide), Opt_some]
    obtain ⟨q1, q2⟩ := hm ((c + 39373 * (n + 1)) ^ (5 : Int).toNat)
    generalize (c + 39373 * (n + 1)) ^ (5 : Int).toNat % 2147483647 = o at q1 q2
    simp only [out_v, Opt_some, st_d, val_d, List.set_cons_succ, List.set_cons_zero, List.getElem?_cons_succ, List.getElem?_cons_zero]
    rw [modD_int (by decide), Opt_some]
    simp only [out_v, addD_int, Opt_some, st_d, val_d]
    rw [mulD_int (.inl (by omega)), Opt_some, mulD_int (.inl (by omega)), Opt_some]
    simp only [out_v, addD_int, Opt_some, st_d, val_d]
    rw [modD_int (by decide), Opt_some]
    simp only [out_v, Opt_some, st_d, val_d]
    rw [fdivD_int (by decide) (by decide), Opt_some]
    simp only [out_v, Opt_some, st_d, val_d]
    rw [modD_int hb, Opt_some]
    simp only [out_v, endL_d]
    exact k _ _ (Int.emod_nonneg _ (by omega)) (Int.emod_lt_of_pos _ hb) ⟨x, c, n + 1, rfl, hx, hc, hc2, by omega, by omega⟩
/-- _law_box -/
def w_law_box : DTS := (wSeq (wSet false 2 (wC (.int 0)))
  (wSeq (wIfS (wB (wBin (ordD ltI ltS) (wVar 1) (wLenS (wVar 0)))) (wSet false 2 (wScr (wVar 0) (wVar 1))) wNext)
  (wRet (wLst (wCons (wBin mulD (wCB absD (wCons (wVar 2) wNil)) (wCB intC (wCons (wBin (ciD geI) (wCB absD (wCons (wVar 2) wNil)) (wBin powD (wC (.int 10)) (wC (.int 18)))) wNil))) (wCons (wBin addD (wBin addD (wBin modD (wVar 2) (wC (.int 2147483629))) (wBin mulD (wC (.int 7919)) (wVar 1))) (wC (.int 11))) (wCons (wC (.int 0)) wNil)))))))
theorem r_law_box (rs : List R) (Pd : R → Prop) (h : Ph_law_box rs Pd) (hl : rs.length = 2) : w_law_box { nx := fun _ _ => Pd (.d .none), rt := fun r κ => Opt (outR κ 0 r) Pd } (rs.map some ++ List.replicate 1 none) [] := by
  obtain ⟨ns, k, rfl, h0, h1, q⟩ := h
  have fin : ∀ z : Int, wRet (wLst (wCons (wBin mulD (wCB absD (wCons (wVar 2) wNil)) (wCB intC (wCons (wBin (ciD geI) (wCB absD (wCons (wVar 2) wNil)) (wBin powD (wC (.int 10)) (wC (.int 18)))) wNil))) (wCons (wBin addD (wBin addD (wBin modD (wVar 2) (wC (.int 2147483629))) (wBin mulD (wC (.int 7919)) (wVar 1))) (wC (.int 11))) (wCons (wC (.int 0)) wNil)))) { nx := fun _ _ => Pd (.d .none), rt := fun r κ => Opt (outR κ 0 r) Pd } [some (.s ns), some (.d (.int k)), some (.d (.int z))] [] := fun z => by
    simp [geI, powD_int (i := 10) (j := 18) (by decide) (by decide) (by decide)]
    rw [mulD_int (.inr (by constructor <;> (repeat' split) <;> decide)), Opt_some]
    simp
    rw [modD_int (by decide), Opt_some, mulD_int (.inl (by decide)), Opt_some]
    simp [sizeLine_eq]
    refine q _ ⟨_, _, _, rfl, ?_, ?_, ?_, Int.le_refl 0, Int.le_refl 0⟩
    · split <;> split <;> omega
    · have := Int.emod_nonneg z (show (2147483629 : Int) ≠ 0 by decide)
      omega
    · have := Int.emod_lt_of_pos z (show (0 : Int) < 2147483629 by decide)
      omega
  simp only [w_law_box, s_seq, s_set, s_c, s_if, s_B, s_bin, s_var, s_lenS, s_scr, List.map_cons, List.map_nil, List.cons_append, List.nil_append, List.replicate_succ, List.replicate_zero, sto_f, st_d, val_d, Opt_some, List.set_cons_succ, List.set_cons_zero, List.getElem?_cons_succ, List.getElem?_cons_zero, ordD_int, out_v, s_next]
  by_cases hk : k < (ns.length : Int)
  · simp only [ltI, decide_eq_true hk, if_true]
    obtain ⟨j, rfl⟩ : ∃ j : Nat, k = (j : Int) := ⟨k.toNat, by omega⟩
    have hj : j < ns.length := by omega
    rw [atI_nat (List.getElem?_eq_getElem hj), Opt_some]
    exact fin _
  · simp only [ltI, decide_eq_false hk, Bool.false_eq_true, if_false]
    exact fin 0
end SH
namespace SH
open PySem PySem.Spec PyProof.Rows L2 DL
abbrev cs (z : Str) : List Nat := z.cps.toList
theorem cs_inj {x y : Str} (h : cs x = cs y) : x = y := PySem.W.str_of_cps h
theorem cs_app (x y : Str) : cs (x ++ y) = cs x ++ cs y := by
  show (x.cps ++ y.cps).toList = _
  rw [Array.toList_append]
theorem cs_len (x : Str) : (cs x).length = x.length := by show x.cps.toList.length = x.cps.size; rw [Array.length_toList]
theorem join_eq (sep : Str) (l : List Str) : Txt.join sep l = Str.join sep l := eq_of_beq (PyProof.Rows.join_plain_closes sep l)
theorem cs_join0 {e : Str} (he : cs e = []) : ∀ l : List Str, cs (Txt.join e l) = (l.map cs).flatten := by
  intro l
  rw [join_eq]
  induction l with
  | nil => rfl
  | cons x l ih =>
    cases l with
    | nil => show cs x = _; simp
    | cons y l =>
      show cs (x ++ e ++ Str.join e (y :: l)) = _
      rw [cs_app, cs_app, he, ih]
      simp
/-- a NAME: one to six letters -/
def IsName (z : Str) : Prop := 1 ≤ (cs z).length ∧ (cs z).length ≤ 6 ∧ ∀ c ∈ cs z, 97 ≤ c ∧ c ≤ 122
/-- rising names -/
def Names (ns : List Str) : Prop := (∀ z ∈ ns, IsName z) ∧ ns.Pairwise fun x y => cs x < cs y
theorem IsName.shaped {z : Str} (h : IsName z) : SeqAt.shaped (.str z) = true := by
  have e : z.cps.all (fun c => decide (c < 0x110000)) = true := by
    rw [← Array.all_toList]
    rw [List.all_eq_true]
    intro c hc
    have := (h.2.2 c hc).2
    exact decide_eq_true (by omega)
  unfold SeqAt.shaped PyData.canLay0
  rw [Bool.and_eq_true]
  exact ⟨e, by simp [PyData.depth]⟩
theorem shaped_strs : ∀ {ns : List Str}, (∀ z ∈ ns, IsName z) → SeqAt.shaped (.list (ns.map .str)) = true := by
  intro ns h
  unfold SeqAt.shaped PyData.canLay0
  rw [Bool.and_eq_true]
  have a1 : PyData.canLayAll0 (ns.map .str) = true ∧ PyData.depthAll (ns.map .str) = 0 := by
    induction ns with
    | nil => exact ⟨by simp [PyData.canLayAll0], by simp [PyData.depthAll]⟩
    | cons z ns ih =>
      obtain ⟨h1, h2⟩ := ih fun y hy => h y (List.mem_cons_of_mem _ hy)
      have q := (h z (List.mem_cons_self ..)).shaped
      unfold SeqAt.shaped at q
      rw [Bool.and_eq_true] at q
      rw [List.map_cons]
      exact ⟨by rw [PyData.canLayAll0, q.1, h1]; rfl, by rw [PyData.depthAll, h2]; simp [PyData.depth]⟩
  exact ⟨a1.1, by rw [PyData.depth, a1.2]; decide⟩
theorem eqv_str (x y : Str) : PyData.eqv (.str x) (.str y) = (x == y) := by rw [PyData.eqv]
theorem any_str (ns : List Str) (z : Str) : ((ns.map PyData.str).any fun y => PyData.eqv y (.str z)) = decide (z ∈ ns) := by
  rw [List.any_map]
  induction ns with
  | nil => rfl
  | cons y ns ih =>
    rw [List.any_cons, ih]
    show (PyData.eqv (.str y) (.str z) || _) = _
    rw [eqv_str]
    by_cases e : y = z
    · subst e; simp
    · have e' : ¬ z = y := fun q => e q.symm
      simp [e, e']
/-- more unlike ones than there is room for -/
theorem some_out : ∀ {l fs : List Str}, l.Nodup → fs.length < l.length → ∃ z ∈ l, z ∉ fs
  | [], fs, _, h => by simp at h
  | x :: l, fs, hn, h => by
    by_cases hx : x ∈ fs
    · have hn' := List.nodup_cons.mp hn
      have hl : (fs.erase x).length < l.length := by
        rw [List.length_erase_of_mem hx]
        have : 0 < fs.length := List.length_pos_of_mem hx
        simp only [List.length_cons] at h
        omega
      obtain ⟨z, hz, hz2⟩ := some_out hn'.2 hl
      refine ⟨z, List.mem_cons_of_mem _ hz, fun hm => hz2 ?_⟩
      have hne : z ≠ x := fun e => hn'.1 (by rw [← e]; exact hz)
      exact (List.mem_erase_of_ne hne).mpr hm
    · exact ⟨x, List.mem_cons_self .., hx⟩
abbrev letters : Str := "abcdefghijklmnopqrstuvwxyz"
theorem cs_letters : cs letters = (List.range 26).map (· + 97) := by decide +kernel
theorem letters_at {r : Int} (h0 : 0 ≤ r) (h1 : r < 26) : atI letters.cps.toList r = some (r.toNat + 97) := by
  obtain ⟨j, rfl⟩ : ∃ j : Nat, r = (j : Int) := ⟨r.toNat, by omega⟩
  refine atI_nat ?_
  show (cs letters)[j]? = _
  rw [cs_letters, List.getElem?_map, List.getElem?_range (by omega)]
  simp
theorem letters_len : letters.length ≤ sizeLine := by rw [← cs_len, cs_letters, sizeLine_eq]; simp
theorem cs_cut5 (z : Str) : cs (cutS z none (some 5)) = (cs z).take 5 := by
  have e : cutS z none (some 5) = ⟨((z.cps.toList.drop (HT.sIx z.length 0 none)).take (HT.sIx z.length z.length (some 5) - HT.sIx z.length 0 none)).toArray⟩ := rfl
  rw [e]
  show (((cs z).drop _).take _).toArray.toList = _
  rw [List.toList_toArray, HT.sIx_none, List.drop_zero]
  have e2 : HT.sIx z.length z.length (some 5) = min 5 z.length := HT.sIx_nat z.length z.length 5
  rw [e2, ← cs_len]
  rcases Nat.le_total 5 (cs z).length with h | h
  · rw [Nat.min_eq_left h]
  · rw [Nat.min_eq_right h, Nat.sub_zero, List.take_of_length_le (Nat.le_refl _), List.take_of_length_le h]
/-- what may be the next name -/
def cands (z : Str) : List Str := z :: (cs letters).map fun c => cutS z none (some 5) ++ (⟨#[c]⟩ : Str)
theorem cs_cand (z : Str) (c : Nat) : cs (cutS z none (some 5) ++ (⟨#[c]⟩ : Str)) = (cs z).take 5 ++ [c] := by rw [cs_app, cs_cut5]
theorem cands_name {z : Str} (h : IsName z) : ∀ y ∈ cands z, IsName y := by
  intro y hy
  rcases List.mem_cons.mp hy with rfl | hy
  · exact h
  · obtain ⟨c, hc, rfl⟩ := List.mem_map.mp hy
    rw [cs_letters] at hc
    obtain ⟨i, hi, rfl⟩ := List.mem_map.mp hc
    rw [List.mem_range] at hi
    unfold IsName
    rw [cs_cand]
    refine ⟨by simp, by simp; omega, fun d hd => ?_⟩
    rcases List.mem_append.mp hd with hd | hd
    · exact h.2.2 d (List.mem_of_mem_take hd)
    · rw [List.mem_singleton] at hd; omega
theorem cands_out {z : Str} {fs : List Str} (h : fs.length < 26) : ∃ y ∈ cands z, y ∉ fs := by
  have nd : ((cs letters).map fun c => cutS z none (some 5) ++ (⟨#[c]⟩ : Str)).Nodup := by
    rw [cs_letters, List.map_map]
    unfold List.Nodup
    rw [List.pairwise_map]
    refine List.Pairwise.imp ?_ List.nodup_range
    intro a b hab e
    have e' := congrArg cs e
    simp only [Function.comp_apply, cs_cand] at e'
    have := List.append_cancel_left e'
    simp at this
    exact hab this
  obtain ⟨y, h1, h2⟩ := some_out nd (fs := fs) (by rw [cs_letters]; simpa using h)
  exact ⟨y, List.mem_cons_of_mem _ h1, h2⟩
theorem head_filter {l : List Str} {fs : List Str} (h : ∃ y ∈ l, y ∉ fs) : ∃ y ys, l.filter (fun z => !decide (z ∈ fs)) = y :: ys ∧ y ∈ l ∧ y ∉ fs := by
  obtain ⟨y, h1, h2⟩ := h
  have hm : y ∈ l.filter (fun z => !decide (z ∈ fs)) := List.mem_filter.mpr ⟨h1, by simp [h2]⟩
  cases e : l.filter (fun z => !decide (z ∈ fs)) with
  | nil => rw [e] at hm; cases hm
  | cons x xs =>
    have hx : x ∈ l.filter (fun z => !decide (z ∈ fs)) := by rw [e]; exact List.mem_cons_self ..
    obtain ⟨q1, q2⟩ := List.mem_filter.mp hx
    exact ⟨x, xs, rfl, q1, by simpa using q2⟩
theorem sortOk_strs {ns : List Str} (hl : ns.length ≤ sizeLine) : SortOk (ns.map .str) :=
  ⟨PySem.W.AllAlike.of fun _ _ => by rw [PySem.W.alike], PySem.W.Sortable.others fun b => ⟨(fun z => nomatch z), (fun _ z => nomatch z)⟩, fun x hx => by
    obtain ⟨z, _, rfl⟩ := List.mem_map.mp hx
    simp [PyData.depth], by rw [List.length_map]; exact hl⟩
def strLe (x y : Str) : Bool := decide (cs x ≤ cs y)
theorem dLe_str (x y : Str) : dLe (.str x) (.str y) = strLe x y := by
  have h := congrFun (congrFun (PySem.W.dataLe_str (fun z : Str => z)) x) y
  exact h
theorem sort_strs (ns : List Str) : (ns.map PyData.str).mergeSort dLe = (ns.mergeSort strLe).map .str :=
  (List.map_mergeSort fun a _ b _ => (dLe_str a b).symm).symm
theorem sorted_names {ns : List Str} (h : ∀ z ∈ ns, IsName z) (nd : ns.Nodup) : Names (ns.mergeSort strLe) ∧ (ns.mergeSort strLe).length = ns.length := by
  have pm := List.mergeSort_perm ns strLe
  refine ⟨⟨fun z hz => h z (pm.mem_iff.mp hz), ?_⟩, pm.length_eq⟩
  have srt : (ns.mergeSort strLe).Pairwise fun a b => strLe a b = true := by
    refine List.pairwise_mergeSort (fun a b c h1 h2 => ?_) (fun a b => ?_) ns
    · unfold strLe at *
      exact decide_eq_true (List.le_trans (of_decide_eq_true h1) (of_decide_eq_true h2))
    · unfold strLe
      rcases List.le_total (cs a) (cs b) with q | q
      · simp [q]
      · simp [q]
  have nd' : (ns.mergeSort strLe).Nodup := pm.nodup_iff.mpr nd
  refine (List.Pairwise.and srt nd').imp fun {a b} ⟨h1, h2⟩ => ?_
  have h1 := of_decide_eq_true h1
  rcases List.le_iff_lt_or_eq.mp h1 with q | q
  · exact q
  · exact absurd (cs_inj q) h2
def IsLet (z : Str) : Prop := (cs z).length = 1 ∧ ∀ c ∈ cs z, 97 ≤ c ∧ c ≤ 122
/-- letters drawn one by one -/
theorem draw_letters {m k q a b : Option R} {fs : List PyData} {P : R → Kap → Prop} : ∀ (xs : List PyData) (zs : List Str) (bs : List PyData) (N : Int), Box N bs → N + (xs.length : Int) < 2 ^ 40 → (∀ z ∈ zs, IsLet z) → zs.length + xs.length ≤ 1000 →
    (∀ (zs' : List Str) (bs' : List PyData), zs'.length = zs.length + xs.length → (∀ z ∈ zs', IsLet z) → Box (N + (xs.length : Int)) bs' → P (.f (zs'.map .str)) [.l bs', .l fs]) →
    lcL (fun _ => True) (wName 6) wYes (wBin ixD (wVar 2) (wCallL Ph_law_take (wCons (wVar 0) (wCons (wC (.int 26)) wNil)))) [some (.c 0), m, some (.d (.str letters)), some (.c 1), k, q, none, a, b] P xs (zs.map .str) [.l bs, .l fs]
  | [], zs, bs, N, hb, _, hz, _, hp => by
    rw [lcL_nil]
    exact hp zs bs (by simp) hz (by simpa using hb)
  | x :: xs, zs, bs, N, hb, hN, hz, hl, hp => by
    simp only [List.length_cons] at hN hl
    rw [lcL_cons]
    simp
    refine ⟨N, 26, hb, by omega, rfl, by decide, by decide, fun r bs' h0 h1 hb' => ?_⟩
    have e : ixD (.str letters) (.int r) = some (.v (.str ⟨#[r.toNat + 97]⟩)) := by
      unfold ixD
      simp only [if_pos letters_len, letters_at h0 h1]
      rfl
    simp only [lab_d, st_d, val_d, Opt_some, e]
    simp
    refine ⟨by rw [sizeLine_eq]; omega, ?_⟩
    have z1 : (zs.map PyData.str) ++ [PyData.str ⟨#[r.toNat + 97]⟩] = (zs ++ [(⟨#[r.toNat + 97]⟩ : Str)]).map .str := by simp
    rw [z1]
    refine draw_letters xs _ bs' (N + 1) hb' (by omega) (fun z hm => ?_) (by simp; omega) fun zs' bs2 h2 h3 h4 => hp zs' bs2 (by simp at h2 ⊢; omega) h3 (h4.mono (by simp; omega))
    rcases List.mem_append.mp hm with hm | hm
    · exact hz z hm
    · rw [List.mem_singleton] at hm
      subst hm
      refine ⟨rfl, fun c hc => ?_⟩
      have : c = r.toNat + 97 := by simpa [cs] using hc
      omega
end SH
namespace SH
open PySem PySem.Spec PyProof.Rows L2 DL
def Ph_law_names (bs : List PyData) (rs : List R) (P : R → List PyData → Prop) : Prop := ∃ (N : Int) (m : Nat), Box N bs ∧ N ≤ 2 ^ 39 ∧ rs = [.d (.int m)] ∧ m ≤ 20 ∧ ∀ (ns : List Str) (bs' : List PyData), ns.length = m → Names ns → Box (N + 200) bs' → P (.f (ns.map .str)) bs'
def wb_names : DTS := (wSeq (wSet false 5 (wBM "str" joinC (wC (.str "")) (wCons (wLc (wRng1 (wCons (wBin ixD (wLst (wCons (wC (.int 1)) (wCons (wC (.int 1)) (wCons (wC (.int 2)) (wCons (wC (.int 6)) wNil))))) (wCallL Ph_law_take (wCons (wVar 0) (wCons (wC (.int 4)) wNil)))) wNil)) (wName 6) wYes (wBin ixD (wVar 2) (wCallL Ph_law_take (wCons (wVar 0) (wCons (wC (.int 26)) wNil)))) [6]) wNil)))
  (wDrop (wAppend (wVar 3) (wBin ixD (wLc (wSq (wBin addD (wLst (wCons (wVar 5) wNil)) (wLc (wSq (wVar 2)) (wName 8) wYes (wBin addD (wSl (wVar 5) wNoP (wP (wC (.int 5)))) (wVar 8)) [8]))) (wName 7) (wB (wBin (inD true) (wVar 7) (wVar 3))) (wVar 7) [7]) (wC (.int 0))))))
/-- _law_names -/
def w_law_names : DTS := (wSeq (wPar 2 3 (wConsM false (wC (.str "abcdefghijklmnopqrstuvwxyz")) (wConsM true (wLst wNil) wNil)))
  (wSeq (wFor (wRng1 (wCons (wVar 1) wNil)) (wName 4) wb_names)
  (wRet (wCB sortC (wCons (wVar 3) wNil)))))
theorem strL_map : ∀ zs : List Str, strL (zs.map PyData.str) = some zs
  | [] => rfl
  | z :: zs => by rw [List.map_cons]; unfold strL; rw [strL_map zs]; rfl
theorem sum_let : ∀ ys : List Str, (∀ z ∈ ys, IsLet z) → (ys.map (·.length)).sum = ys.length
  | [], _ => rfl
  | y :: ys, h => by rw [List.map_cons, List.sum_cons, sum_let ys fun z hz => h z (List.mem_cons_of_mem _ hz), ← cs_len, (h y (List.mem_cons_self ..)).1, List.length_cons, Nat.add_comm]
theorem join_let {zs : List Str} (h : ∀ z ∈ zs, IsLet z) (hl : zs.length ≤ 1000) : joinC (.str "") [.list (zs.map .str)] = some (.v (.str (Txt.join "" zs))) := by
  unfold joinC
  simp only [strL_map]
  rw [if_pos]
  rw [sum_let zs h]
  show zs.length + zs.length * 0 ≤ _
  omega
theorem name_let {zs : List Str} (h : ∀ z ∈ zs, IsLet z) (h1 : 1 ≤ zs.length) (h6 : zs.length ≤ 6) : IsName (Txt.join "" zs) := by
  have e1 : cs (Txt.join "" zs) = (zs.map cs).flatten := cs_join0 rfl zs
  unfold IsName
  rw [e1]
  have e2 : ∀ zs : List Str, (∀ z ∈ zs, IsLet z) → ((zs.map cs).flatten).length = zs.length := fun zs h => by
    induction zs with
    | nil => rfl
    | cons z zs ih =>
      rw [List.map_cons, List.flatten_cons, List.length_append, (h z (List.mem_cons_self ..)).1, List.length_cons]
      rw [ih (fun w hw => h w (List.mem_cons_of_mem _ hw)), Nat.add_comm]
  rw [e2 zs h]
  refine ⟨by omega, by omega, fun d hd => ?_⟩
  obtain ⟨l, hl1, hl2⟩ := List.mem_flatten.mp hd
  obtain ⟨z, hz1, rfl⟩ := List.mem_map.mp hl1
  exact (h z hz1).2 d hl2
theorem cands_map (y : Str) : [PyData.str y] ++ (cs letters).map (fun c => PyData.str (cutS y none (some 5) ++ (⟨#[c]⟩ : Str))) = (cands y).map .str := by
  unfold cands
  generalize cs letters = l
  rw [List.map_cons, List.map_map]
  rfl
theorem letters26 : (cs letters).length = 26 := by rw [cs_letters, List.length_map, List.length_range]
theorem cands_len (y : Str) : (cands y).length = 27 := by unfold cands; rw [List.length_cons, List.length_map, letters26]
theorem cands_fit (y : Str) : [PyData.str y].length + ((cs letters).map fun c => PyData.str (cutS y none (some 5) ++ (⟨#[c]⟩ : Str))).length ≤ sizeLine := by
  rw [List.length_map, letters26, sizeLine_eq, List.length_singleton]
  omega
theorem names_body {E : DEnds} {m x p5 : Option R} {fs : List Str} {bs : List PyData} {N : Int} (hb : Box N bs) (hN : N + 8 < 2 ^ 40) (hz : ∀ z ∈ fs, IsName z) (hl : fs.length < 26)
    (k : ∀ (y z : Str) (bs' : List PyData), IsName z → z ∉ fs → Box (N + 8) bs' → E.nx [some (.c 0), m, some (.d (.str letters)), some (.c 1), x, some (.d (.str y)), none, none, none] [.l bs', .l ((fs ++ [z]).map .str)]) :
    wb_names E [some (.c 0), m, some (.d (.str letters)), some (.c 1), x, p5, none, none, none] [.l bs, .l (fs.map .str)] := by
  simp [wb_names, sizeLine_eq, tyOk]
  refine ⟨N, 4, hb, by omega, rfl, by decide, by decide, fun r bs1 h0 h1 hb1 => ?_⟩
  obtain ⟨c, ec, hc0, hc6⟩ : ∃ c : Int, ixD (.list [.int 1, .int 1, .int 2, .int 6]) (.int r) = some (.v (.int c)) ∧ 1 ≤ c ∧ c ≤ 6 := by
    have : r = 0 ∨ r = 1 ∨ r = 2 ∨ r = 3 := by omega
    rcases this with rfl | rfl | rfl | rfl
    · exact ⟨1, rfl, by decide, by decide⟩
    · exact ⟨1, rfl, by decide, by decide⟩
    · exact ⟨2, rfl, by decide, by decide⟩
    · exact ⟨6, rfl, by decide, by decide⟩
  simp only [lab_d, st_d, val_d, Opt_some, ec]
  simp
  refine ⟨by omega, by omega, ?_⟩
  refine draw_letters _ [] bs1 (N + 1) hb1 ?_ (by simp) ?_ fun zs bs2 l1 l2 b2 => ?_
  · simp; omega
  · simp; omega
  simp at l1
  have ej := join_let l2 (by omega)
  have hy' := name_let l2 (by omega) (by omega)
  simp [ej]
  obtain ⟨y, ey⟩ : ∃ y, y = Txt.join "" zs := ⟨_, rfl⟩
  have hy : IsName y := by rw [ey]; exact hy'
  rw [← ey]
  have ly : y.length ≤ 6 := by rw [← cs_len]; exact hy.2.1
  have hl27 := cands_fit y
  have hcm := cands_map y
  have hcl := cands_len y
  have hcn := cands_name hy
  have hco := cands_out (z := y) hl
  have hl26 := letters26
  obtain ⟨C, hC⟩ : ∃ C, C = cands y := ⟨_, rfl⟩
  rw [← hC] at hcm hcl hcn hco
  have e1 : (List.map (fun c => PyData.str { cps := #[c] }) letters.cps.toList) = (cs letters).map fun c => PyData.str ⟨#[c]⟩ := rfl
  rw [e1]
  obtain ⟨L, hL⟩ : ∃ L, L = cs letters := ⟨_, rfl⟩
  rw [← hL] at hcm hl27 hl26 ⊢
  refine lc_map (fun c => PyData.str ⟨#[c]⟩) (fun c => PyData.str (cutS y none (some 5) ++ (⟨#[c]⟩ : Str))) trivial L [] (by rw [hl26, sizeLine_eq, List.length_nil]; omega) (fun c _ C hC => ?_) ?_
  · have l2 : (cutS y none (some 5)).length + (⟨#[c]⟩ : Str).length ≤ sizeLine := by
      rw [← cs_len, cs_cut5, sizeLine_eq]
      show ((cs y).take 5).length + 1 ≤ _
      rw [List.length_take]
      omega
    simp [slD_str none (some 5) (show y.length ≤ sizeLine by rw [sizeLine_eq]; omega), addD_str l2]
    exact hC
  simp only [List.nil_append, st_f, val_d, Opt_some, addD_list hl27, out_n]
  rw [hcm]
  refine lc_filter (κ := [Cell.l bs2, Cell.l (List.map PyData.str fs)]) PyData.str (fun z => !decide (z ∈ fs)) PyData.str trivial C [] (by rw [hcl, sizeLine_eq, List.length_nil]; omega) (fun z hz1 C hC => ?_) ?_
  · simp
    have sh := shaped_strs hz
    have sz := (hcn z hz1).shaped
    have ei : inD true (.str z) (.list (fs.map .str)) = some (.v (.bool (!decide (z ∈ fs)))) := by
      refine (show inD true (.str z) (.list (fs.map .str)) = some (.v (.bool (!(fs.map PyData.str).any fun y => PyData.eqv y (.str z)))) from ?_).trans (by rw [any_str])
      show (if SeqAt.shaped (.str z) = true ∧ SeqAt.shaped (.list (fs.map .str)) = true then _ else none) = _
      rw [if_pos ⟨sz, sh⟩]
      rfl
    rw [ei]
    simp
    refine hC _ fun _ D hD => ?_
    simp
    exact hD
  · obtain ⟨z, zs', ez, hz1, hz2⟩ := head_filter hco
    rw [ez]
    simp
    rw [ixD_list (i := 0) (x := .str z) (atI_nat (j := 0) rfl)]
    simp
    refine ⟨by omega, ?_⟩
    have e3 : fs.map PyData.str ++ [.str z] = (fs ++ [z]).map .str := by simp
    rw [e3]
    refine k y z bs2 (hcn z hz1) hz2 (b2.mono ?_)
    simp
    omega
theorem names_loop {E : DEnds} {m : Option R} : ∀ (xs : List PyData) (fs : List Str) (bs : List PyData) (N : Int) (p4 p5 : Option R), Box N bs → N + 8 * (xs.length : Int) < 2 ^ 40 → (∀ z ∈ fs, IsName z) → fs.Nodup → fs.length + xs.length ≤ 26 →
    (∀ (fs' : List Str) (bs' : List PyData) (q4 q5 : Option R), fs'.length = fs.length + xs.length → (∀ z ∈ fs', IsName z) → fs'.Nodup → Box (N + 8 * (xs.length : Int)) bs' → E.nx [some (.c 0), m, some (.d (.str letters)), some (.c 1), q4, q5, none, none, none] [.l bs', .l (fs'.map .str)]) →
    forL (fun _ => True) (wName 4) wb_names E xs [some (.c 0), m, some (.d (.str letters)), some (.c 1), p4, p5, none, none, none] [.l bs, .l (fs.map .str)]
  | [], fs, bs, N, p4, p5, hb, hN, hz, nd, hl, k => by
    rw [forL_nil]
    exact k fs bs p4 p5 (by simp) hz nd (by simpa using hb)
  | x :: xs, fs, bs, N, p4, p5, hb, hN, hz, nd, hl, k => by
    rw [forL_cons]
    simp only [List.length_cons] at hN hl k
    refine names_body (x := some (.d x)) hb (by omega) hz (by omega) fun y z bs' hz1 hz2 hb' => ⟨trivial, ?_⟩
    refine names_loop xs (fs ++ [z]) bs' (N + 8) _ _ hb' (by omega) (fun w hw => ?_) ?_ (by simp; omega) fun fs' bs2 q4 q5 h1 h2 h3 h4 => k fs' bs2 q4 q5 (by simp at h1; omega) h2 h3 (h4.mono (by omega))
    · rcases List.mem_append.mp hw with hw | hw
      · exact hz w hw
      · rw [List.mem_singleton] at hw; rw [hw]; exact hz1
    · rw [List.nodup_append]
      refine ⟨nd, by simp, fun a ha b hb2 => ?_⟩
      rw [List.mem_singleton] at hb2
      intro e
      exact hz2 (by rw [← hb2, ← e]; exact ha)
theorem r_law_names (bs : List PyData) (rs : List R) (Pd : R → List PyData → Prop) (h : Ph_law_names bs rs Pd) (hl : rs.length = 1) : w_law_names { nx := fun _ κ => endL κ (.d .none) Pd, rt := fun r κ => endL κ r Pd } (some (.c 0) :: (rs.map some ++ List.replicate 7 none)) [.l bs] := by
  obtain ⟨N, m, hb, hN, rfl, hm, k⟩ := h
  simp [w_law_names, sizeLine_eq]
  refine ⟨by omega, ?_⟩
  refine names_loop _ [] bs N none none hb ?_ (fun z hz => nomatch hz) List.nodup_nil ?_ fun fs' bs' q4 q5 h1 h2 h3 h4 => ?_
  · simp; omega
  · simp; omega
  simp at h1
  simp
  rw [sortC_list (sortOk_strs (by rw [sizeLine_eq]; omega))]
  obtain ⟨n1, n2⟩ := sorted_names h2 h3
  rw [sort_strs]
  simp
  refine k _ _ (by rw [n2, h1]) n1 (h4.mono ?_)
  simp
  omega
end SH
namespace SH
open PySem PySem.Spec PyProof.Rows L2 DL
def GoodN : Nat → PyData → Prop
  | 0, _ => False
  | n + 1, .list xs => xs.length ≤ sizeLine ∧ ∀ x ∈ xs, GoodN n x
  | n + 1, .tuple xs => xs.length ≤ sizeLine ∧ ∀ x ∈ xs, GoodN n x
  | _ + 1, .str z => SeqAt.shaped (.str z) = true
  | _ + 1, .int _ => True
  | _ + 1, .bool _ => True
  | _ + 1, .none => True
  | _, _ => False
def Ph_law_sameN (n : Nat) (rs : List R) (P : R → Prop) : Prop := ∃ x, rs = [.d x, .d x] ∧ GoodN n x ∧ P (.d (.bool true))
theorem n_law_same {rs : List R} {P : R → Prop} (h : Ph_law_sameN 0 rs P) : False := by
  obtain ⟨x, _, g, _⟩ := h
  cases x <;> exact g.elim
/-- _law_same -/
def w_law_same (Ph_law_same : List R → (R → Prop) → Prop) : DTS := (wSeq (wIfS (wTru (wIsi2 .list .tuple (wVar 1))) (wSeq (wIfS (wOr (wB (wBin (eqD true) (wIsi .list (wVar 0)) (wIsi .list (wVar 1)))) (wB (wBin (eqD true) (wIsi .tuple (wVar 0)) (wIsi .tuple (wVar 1))))) (wRet (wC (.bool false))) wNext)
  (wRet (wAndV (wBin (eqD false) (wCB lenD (wCons (wVar 0) wNil)) (wCB lenD (wCons (wVar 1) wNil))) (wCB (allC fun bs => bs.all id) (wCons (wLc (wZip (wCons (wVar 0) (wCons (wVar 1) wNil))) (wTupG 2 (wgCons (wName 2) (wgCons (wName 3) wgNil))) wYes (wCall Ph_law_same (wCons (wVar 2) (wCons (wVar 3) wNil))) [2, 3]) wNil))))) wNext)
  (wSeq (wIfS (wOr (wB (wBin (isND false) (wVar 1) (wC .none))) (wTru (wIsi .str (wVar 1)))) (wRet (wAndV (wBin (eqD false) (wVar 0) (wVar 1)) (wBin (eqD false) (wIsi .str (wVar 0)) (wIsi .str (wVar 1))))) wNext)
  (wRet (wAndV (wIsi .int (wVar 0)) (wAndV (wBin (eqD false) (wIsi .bool (wVar 0)) (wIsi .bool (wVar 1))) (wBin (eqD false) (wVar 0) (wVar 1)))))))
theorem eqD_bool (neg a b : Bool) : eqD neg (.bool a) (.bool b) = some (.v (.bool (if neg then !(a == b) else a == b))) := by
  cases a <;> cases b <;> cases neg <;> rfl
theorem eqD_int (i : Int) : eqD false (.int i) (.int i) = some (.v (.bool true)) := by
  rw [eqD_of (by unfold SeqAt.shaped PyData.canLay0; simp [PyData.depth]) (by unfold SeqAt.shaped PyData.canLay0; simp [PyData.depth])]
  simp [PyData.eqv]
theorem eqD_str {z : Str} (h : SeqAt.shaped (.str z) = true) : eqD false (.str z) (.str z) = some (.v (.bool true)) := by
  rw [eqD_of h h]
  simp [PyData.eqv]
theorem isND_none : isND false .none .none = some (.v (.bool true)) := rfl
theorem isND_str (z : Str) : isND false (.str z) .none = some (.v (.bool false)) := rfl
theorem isND_int (i : Int) : isND false (.int i) .none = some (.v (.bool false)) := rfl
theorem isND_bool (b : Bool) : isND false (.bool b) .none = some (.v (.bool false)) := rfl
theorem eqD_none : eqD false .none .none = some (.v (.bool true)) := rfl
theorem zip_self : ∀ xs : List PyData, zipD xs xs = xs.map fun x => .tuple [x, x]
  | [] => rfl
  | x :: xs => by rw [List.map_cons, ← zip_self xs]; rfl
theorem bools_map {α : Type} (b : Bool) : ∀ xs : List α, bools (xs.map fun _ => PyData.bool b) = some (xs.map fun _ => b)
  | [] => rfl
  | x :: xs => by rw [List.map_cons]; unfold bools; rw [bools_map b xs]; rfl
theorem all_map {α : Type} (xs : List α) : allC (fun bs => bs.all id) [.list (xs.map fun _ => PyData.bool true)] = some (.v (.bool true)) := by
  unfold allC
  simp [bools_map]
theorem same_in {ok : Kap → Prop} {n : Nat} {xs : List PyData} {p q : Option R} {P : R → Kap → Prop} {κ : Kap} (hok : ok κ) (hl : xs.length ≤ sizeLine) (h : ∀ x ∈ xs, GoodN n x) (k : P (.f (xs.map fun _ => .bool true)) κ) :
    lcL ok (wTupG 2 (wgCons (wName 2) (wgCons (wName 3) wgNil))) wYes (wCall (Ph_law_sameN n) (wCons (wVar 2) (wCons (wVar 3) wNil))) [p, q, none, none] P (zipD xs xs) [] κ := by
  rw [zip_self]
  refine lc_map (fun x => .tuple [x, x]) (fun _ => .bool true) hok xs [] (by simpa using hl) (fun x hx C hC => ?_) (by simpa using k)
  simp
  exact ⟨x, rfl, h x hx, hC⟩
theorem r_law_same (n : Nat) (rs : List R) (Pd : R → Prop) (h : Ph_law_sameN (n + 1) rs Pd) (hl : rs.length = 2) : w_law_same (Ph_law_sameN n) { nx := fun _ _ => Pd (.d .none), rt := fun r κ => Opt (outR κ 0 r) Pd } (rs.map some ++ List.replicate 2 none) [] := by
  obtain ⟨x, rfl, g, k⟩ := h
  cases x with
  | list xs =>
    simp [w_law_same, isi, truth, eqD_bool, eqD_int]
    refine same_in trivial g.1 g.2 ?_
    simp [all_map]
    exact k
  | tuple xs =>
    simp [w_law_same, isi, truth, eqD_bool, eqD_int]
    refine same_in trivial g.1 g.2 ?_
    simp [all_map]
    exact k
  | none =>
    simp [w_law_same, isi, truth, eqD_bool, eqD_int, isND_none, eqD_none]
    exact k
  | str z =>
    simp [w_law_same, isi, truth, eqD_bool, eqD_int, isND_str, eqD_str g]
    exact k
  | int i =>
    simp [w_law_same, isi, truth, eqD_bool, eqD_int, isND_int]
    exact k
  | bool b =>
    simp [w_law_same, isi, truth, eqD_bool, eqD_int, isND_bool]
    exact k
  | _ => exact g.elim
end SH
namespace SH
open PySem PySem.Spec PyProof.Rows L2 DL
def kstep (r : Row) (l x : Str) : Row := r ++ [(l, x, 1)] ++ back r ++ [(l, x, -1)]
def knotL : Row → Str → List Str → Row
  | r, _, [] => r
  | r, l, x :: xs => knotL (kstep r l x) x xs
def knot : List Str → Row
  | a :: b :: ns => knotL [(a, b, 1)] b ns
  | _ => []
theorem kstep_len (r : Row) (l x : Str) : (kstep r l x).length = 2 * r.length + 2 := by
  unfold kstep
  simp [back_len]
  omega
theorem knotL_len : ∀ (ns : List Str) (r : Row) (l : Str), (knotL r l ns).length + 2 = (r.length + 2) * 2 ^ ns.length
  | [], r, l => by simp [knotL]
  | x :: xs, r, l => by
    rw [knotL, knotL_len xs, kstep_len, List.length_cons, Nat.pow_succ, Nat.mul_comm (2 ^ xs.length) 2, ← Nat.mul_assoc]
    congr 1
    omega
def Ph_law_knot (rs : List R) (P : R → Prop) : Prop := ∃ (a b : Str) (ns : List Str) (d : PyData), rs = [.d d] ∧ (d = .tuple ((a :: b :: ns).map .str) ∨ d = .list ((a :: b :: ns).map .str)) ∧ ns.length ≤ 16 ∧ P (.d (.list ((knot (a :: b :: ns)).map hookD)))
end SH
namespace SH
open PySem PySem.Spec PyProof.Rows L2 DL
theorem cut_1 {α : Type} (x : α) (xs : List α) : cut (x :: xs) (some 1) none = xs := by
  unfold cut
  rw [show HT.sIx (x :: xs).length 0 (some 1) = min 1 (x :: xs).length from HT.sIx_nat _ 0 1, HT.sIx_none]
  simp
theorem cut_2 {α : Type} (x y : α) (xs : List α) : cut (x :: y :: xs) (some 2) none = xs := by
  unfold cut
  rw [show HT.sIx (x :: y :: xs).length 0 (some 2) = min 2 (x :: y :: xs).length from HT.sIx_nat _ 0 2, HT.sIx_none]
  simp
/-- _law_back -/
def w_law_back : DTS := (wRet (wLc (wSq (wRevS (wVar 0))) (wTupG 3 (wgCons (wName 1) (wgCons (wName 2) (wgCons (wName 3) wgNil)))) wYes (wTup (wCons (wVar 1) (wCons (wVar 2) (wCons (wUn negD (wVar 3)) wNil)))) [1, 2, 3]))
theorem r_law_back (rs : List R) (Pd : R → Prop) (h : Ph_law_back rs Pd) (hl : rs.length = 1) : w_law_back { nx := fun _ _ => Pd (.d .none), rt := fun r κ => Opt (outR κ 0 r) Pd } (rs.map some ++ List.replicate 3 none) [] := by
  obtain ⟨r, rfl, hr, k⟩ := h
  simp [w_law_back]
  rw [← List.map_reverse]
  refine lc_map hookD (fun h => hookD (turned h)) (by simp) r.reverse [] (by simpa using hr) (fun h _ C hC => ?_) ?_
  · simp [hookD, sizeLine_eq]
    exact hC
  · have e : (back r).map hookD = r.reverse.map (fun h => hookD (turned h)) := by
      unfold back; rw [List.map_map]; rfl
    rw [e] at k
    simpa only [outR_f, Opt_some, List.nil_append] using k
def wb_law_knot : DTS := (wSet false 1 (wBin addD (wBin addD (wBin addD (wVar 1) (wLst (wCons (wTup (wCons (wVar 2) (wCons (wVar 3) (wCons (wC (.int 1)) wNil)))) wNil))) (wCall Ph_law_back (wCons (wVar 1) wNil))) (wLst (wCons (wTup (wCons (wVar 2) (wCons (wVar 3) (wCons (wUn negD (wC (.int 1))) wNil)))) wNil))))
/-- _law_knot -/
def w_law_knot : DTS := (wSeq (wSet false 1 (wLst (wCons (wTup (wCons (wBin ixD (wVar 0) (wC (.int 0))) (wCons (wBin ixD (wVar 0) (wC (.int 1))) (wCons (wC (.int 1)) wNil)))) wNil)))
  (wSeq (wFor (wZip (wCons (wSl (wVar 0) (wP (wC (.int 1))) wNoP) (wCons (wSl (wVar 0) (wP (wC (.int 2))) wNoP) wNil))) (wTupG 2 (wgCons (wName 2) (wgCons (wName 3) wgNil))) wb_law_knot)
  (wRet (wVar 1))))
theorem law_knot_body {E : DEnds} {p0 : Option R} {r : Row} {l x : Str} {κ : Kap} (hr : 2 * r.length + 2 ≤ sizeLine)
    (kk : E.nx [p0, some (.d (.list ((kstep r l x).map hookD))), some (.d (.str l)), some (.d (.str x))] κ) :
    wb_law_knot E [p0, some (.d (.list (r.map hookD))), some (.d (.str l)), some (.d (.str x))] κ := by
  have hr' := hr
  rw [sizeLine_eq] at hr'
  have a1 : addD (.list (r.map hookD)) (.list [hookD (l, x, 1)]) = some (.n (r.map hookD ++ [hookD (l, x, 1)])) := addD_list (by simp; omega)
  have a2 : addD (.list (r.map hookD ++ [hookD (l, x, 1)])) (.list ((back r).map hookD)) = some (.n (r.map hookD ++ [hookD (l, x, 1)] ++ (back r).map hookD)) := addD_list (by simp [back_len]; omega)
  have a3 : addD (.list (r.map hookD ++ [hookD (l, x, 1)] ++ (back r).map hookD)) (.list [hookD (l, x, -1)]) = some (.n ((kstep r l x).map hookD)) := by
    rw [addD_list (by simp [back_len]; omega)]; simp [kstep, turned]
  have e0 : PyData.tuple [.str l, .str x, .int 1] = hookD (l, x, 1) := rfl
  have e1 : PyData.tuple [.str l, .str x, .int (-1)] = hookD (l, x, -1) := rfl
  simp [wb_law_knot, sizeLine_eq, e0, a1, e1]
  refine ⟨r, rfl, by omega, ?_⟩
  simp only [lab_f, st_f, val_f, val_d, Opt_some, a2, out_n, a3]
  exact kk
theorem law_knot_loop {ok : Kap → Prop} {E : DEnds} {p0 : Option R} {κ : Kap} (hok : ok κ) : ∀ (xs : List Str) (r : Row) (l : Str) (p2 p3 : Option R), (r.length + 2) * 2 ^ xs.length ≤ sizeLine →
    (∀ p2 p3, E.nx [p0, some (.d (.list ((knotL r l xs).map hookD))), p2, p3] κ) →
    forL ok (wTupG 2 (wgCons (wName 2) (wgCons (wName 3) wgNil))) wb_law_knot E (zipD ((l :: xs).map .str) (xs.map .str)) [p0, some (.d (.list (r.map hookD))), p2, p3] κ
  | [], r, l, p2, p3, _, kk => by
    show forL _ _ _ _ [] _ _
    rw [forL_nil]; exact kk _ _
  | x :: xs, r, l, p2, p3, hl, kk => by
    show forL _ _ _ _ (.tuple [.str l, .str x] :: zipD ((x :: xs).map .str) (xs.map .str)) _ _
    have e : ((kstep r l x).length + 2) * 2 ^ xs.length = (r.length + 2) * 2 ^ (x :: xs).length := by
      rw [kstep_len, List.length_cons, Nat.pow_succ, Nat.mul_comm (2 ^ xs.length) 2, ← Nat.mul_assoc]
      congr 1
      omega
    rw [← e] at hl
    rw [forL_cons, s_tupG]
    refine ⟨rfl, ?_⟩
    refine law_knot_body ?_ ⟨hok, law_knot_loop hok xs _ x _ _ hl kk⟩
    have : 0 < 2 ^ xs.length := Nat.two_pow_pos _
    have := Nat.le_trans (Nat.le_mul_of_pos_right _ this) hl
    rw [kstep_len] at this
    omega
theorem r_law_knot (rs : List R) (Pd : R → Prop) (h : Ph_law_knot rs Pd) (hl : rs.length = 1) : w_law_knot { nx := fun _ _ => Pd (.d .none), rt := fun r κ => Opt (outR κ 0 r) Pd } (rs.map some ++ List.replicate 3 none) [] := by
  obtain ⟨a, b, ns, d, rfl, hd, hn, k⟩ := h
  clear hl
  rcases hd with rfl | rfl
  · have i0 : ixD (.tuple (.str a :: .str b :: ns.map .str)) (.int 0) = some (.v (.str a)) := ixD_tuple (atI_nat (j := 0) rfl)
    have i1 : ixD (.tuple (.str a :: .str b :: ns.map .str)) (.int 1) = some (.v (.str b)) := ixD_tuple (atI_nat (j := 1) rfl)
    simp [w_law_knot, sizeLine_eq, i0, i1, cut_1, cut_2]
    refine law_knot_loop (r := [(a, b, 1)]) trivial ns b none none ?_ fun p2 p3 => ?_
    · show 3 * 2 ^ ns.length ≤ _
      have := Nat.pow_le_pow_right (n := 2) (by decide) hn
      rw [sizeLine_eq]
      omega
    · simp
      exact k
  · have i0 : ixD (.list (.str a :: .str b :: ns.map .str)) (.int 0) = some (.v (.str a)) := ixD_list (atI_nat (j := 0) rfl)
    have i1 : ixD (.list (.str a :: .str b :: ns.map .str)) (.int 1) = some (.v (.str b)) := ixD_list (atI_nat (j := 1) rfl)
    simp [w_law_knot, sizeLine_eq, i0, i1, cut_1, cut_2]
    refine law_knot_loop (r := [(a, b, 1)]) trivial ns b none none ?_ fun p2 p3 => ?_
    · show 3 * 2 ^ ns.length ≤ _
      have := Nat.pow_le_pow_right (n := 2) (by decide) hn
      rw [sizeLine_eq]
      omega
    · simp
      exact k
abbrev Ph_law_same := Ph_law_sameN 8
theorem good_hook {a b : Str} {i : Int} {n : Nat} (ha : IsName a) (hb : IsName b) : GoodN (n + 2) (hookD (a, b, i)) :=
  ⟨by rw [sizeLine_eq]; show 3 ≤ 16777216; decide, fun x hx => by
    rcases List.mem_cons.mp hx with rfl | hx
    · exact ha.shaped
    rcases List.mem_cons.mp hx with rfl | hx
    · exact hb.shaped
    rw [List.mem_singleton.mp hx]
    trivial⟩
def RowOk (r : Row) : Prop := ∀ h ∈ r, IsName h.1 ∧ IsName h.2.1
theorem RowOk.back {r : Row} (h : RowOk r) : RowOk (back r) := fun x hx => by
  obtain ⟨y, hy, rfl⟩ := List.mem_map.mp hx
  exact h y (List.mem_reverse.mp hy)
theorem RowOk.step {r : Row} {l x : Str} (h : RowOk r) (hl : IsName l) (hx : IsName x) : RowOk (kstep r l x) := fun y hy => by
  unfold kstep at hy
  simp only [List.mem_append, List.mem_singleton] at hy
  rcases hy with ((hy | rfl) | hy) | rfl
  · exact h y hy
  · exact ⟨hl, hx⟩
  · exact h.back y hy
  · exact ⟨hl, hx⟩
theorem for_each {ok : Kap → Prop} {g : DTG} {b : DTS} {E : DEnds} (Inv : Rho → Kap → Prop) (hok : ∀ κ, ok κ) : ∀ (xs : List PyData) (ρ : Rho) (κ : Kap), Inv ρ κ →
    (∀ x ∈ xs, ∀ ρ κ, Inv ρ κ → ∀ E' : DEnds, E'.rt = E.rt → E'.bk = E.nx → (∀ ρ' κ', Inv ρ' κ' → E'.nx ρ' κ') → (∀ ρ' κ', Inv ρ' κ' → E'.ct ρ' κ') → g (.d x) ρ κ fun ρ1 κ1 => b E' ρ1 κ1) →
    (∀ ρ κ, Inv ρ κ → E.nx ρ κ) → forL ok g b E xs ρ κ
  | [], ρ, κ, h, _, k => by rw [forL_nil]; exact k ρ κ h
  | x :: xs, ρ, κ, h, hb, k => by
    rw [forL_cons]
    exact hb x (List.mem_cons_self ..) ρ κ h _ rfl rfl (fun ρ' κ' h' => ⟨hok _, for_each Inv hok xs ρ' κ' h' (fun y hy => hb y (List.mem_cons_of_mem _ hy)) k⟩)
      (fun ρ' κ' h' => ⟨hok _, for_each Inv hok xs ρ' κ' h' (fun y hy => hb y (List.mem_cons_of_mem _ hy)) k⟩)
end SH
namespace DL
open PySem PySem.Spec PyProof.Rows L2
section
variable {X : Cx}
/-- the values of a dict, all known for good -/
def datM : List (Key × R) → Option (List PyData)
  | [] => some []
  | (_, .d x) :: es => match datM es with
    | some xs => some (x :: xs)
    | none => none
  | _ => none
theorem Mp.dats {K : PySem.W.Frag} {G : Hp} {As : List Addr} : ∀ {kvs : List (Key × V)} {es : List (Key × R)} {xs : List PyData}, Mp K G As kvs es → datM es = some xs → RpA K G (kvs.map (·.2)) xs
  | _, _, _, .nil, e => by cases e; exact .nil
  | _, _, _, .cons (b := en) q t, e => by
    obtain ⟨k, r⟩ := en
    cases r with
    | d x =>
      unfold datM at e
      split at e
      · rename_i ys ey
        cases e
        exact .cons q.2 (Mp.dats t ey)
      · cases e
    | _ => cases e
end
end DL
namespace SH
open PySem PySem.Spec PyProof.Rows L2 DL
abbrev KR := List (Nat × Hook)
def touches (r : Str) (h : Hook) : Bool := decide (h.1 = r) || decide (h.2.1 = r)
def posOf (r : Str) (ks : KR) : List Nat := (ks.filter fun p => touches r p.2).map (·.1)
def sStep (row : Row) (ks : KR) (i : Nat) (h : Hook) : KR :=
  match (posOf h.1 ks).getLast?, (posOf h.2.1 ks).getLast? with
  | some p, some q => if p = q ∧ row[p]? = some (turned h) then ks.filter (fun e => decide (e.1 ≠ p)) else ks ++ [(i, h)]
  | _, _ => ks ++ [(i, h)]
def sLoop (row : Row) : KR → Nat → Row → KR
  | ks, _, [] => ks
  | ks, i, h :: hs => sLoop row (sStep row ks i h) (i + 1) hs
def settledF (row : Row) : Row := (sLoop row [] 0 row).map (·.2)
/-- hooks of unlike ropes -/
def RowIn (r : Row) : Prop := ∀ h ∈ r, IsName h.1 ∧ IsName h.2.1 ∧ h.1 ≠ h.2.1
/-- a row as a list or a tuple -/
def RowD (D : PyData) (row : Row) : Prop := D = .list (row.map hookD) ∨ D = .tuple (row.map hookD)
def natsD (l : List Nat) : List PyData := l.map fun (i : Nat) => .int (i : Int)
def keptE (f : Hook → PyData) (ks : KR) : List (Key × R) := ks.map fun p => (Sum.inl (p.1 : Int), R.d (f p.2))
/-- the stacks and what is kept, as they stand -/
structure SInv (f : Hook → PyData) (n : Nat) (κ : Kap) (st : List (Key × R)) (ks : KR) : Prop where
  s0 : κ[0]? = some (.m st)
  s1 : κ[1]? = some (.m (keptE f ks))
  ln : st.length ≤ n
  at_ : ∀ r j, lookM st (.inr r) = some (.c j) → 2 ≤ j ∧ κ[j]? = some (.l (natsD (posOf r ks)))
  no : ∀ r, lookM st (.inr r) = none → posOf r ks = []
  only : ∀ r x, lookM st (.inr r) = some x → ∃ j, x = .c j
  apart : ∀ r r' j, lookM st (.inr r) = some (.c j) → lookM st (.inr r') = some (.c j) → r = r'
variable {f : Hook → PyData}
theorem SInv.grow {n m : Nat} {κ : Kap} {st : List (Key × R)} {ks : KR} (I : SInv f n κ st ks) (h : n ≤ m) : SInv f m κ st ks := ⟨I.s0, I.s1, Nat.le_trans I.ln h, I.at_, I.no, I.only, I.apart⟩
/-- what is kept stands in the row at its place -/
structure KOk (row : Row) (i : Nat) (ks : KR) : Prop where
  lt : ∀ p ∈ ks, p.1 < i
  inr : ∀ p ∈ ks, row[p.1]? = some p.2
  nd : (ks.map (·.1)).Nodup
theorem posOf_app (r : Str) (ks : KR) (i : Nat) (h : Hook) : posOf r (ks ++ [(i, h)]) = if touches r h then posOf r ks ++ [i] else posOf r ks := by
  unfold posOf
  rw [List.filter_append]
  by_cases e : touches r h = true
  · rw [if_pos e, List.filter_cons_of_pos (by simpa using e)]; simp
  · rw [if_neg e, List.filter_cons_of_neg (by simpa using e)]; simp
theorem posOf_mem {r : Str} {ks : KR} {p : Nat} (h : p ∈ posOf r ks) : ∃ g, (p, g) ∈ ks ∧ touches r g = true := by
  unfold posOf at h
  obtain ⟨q, hq, rfl⟩ := List.mem_map.mp h
  obtain ⟨h1, h2⟩ := List.mem_filter.mp hq
  exact ⟨q.2, h1, h2⟩
theorem posOf_drop (r : Str) (ks : KR) (p : Nat) : posOf r (ks.filter fun e => decide (e.1 ≠ p)) = (posOf r ks).filter fun i => decide (i ≠ p) := by
  unfold posOf
  rw [List.filter_map, List.filter_filter, List.filter_filter]
  congr 1
  refine List.filter_congr fun q _ => ?_
  simp only [Function.comp_apply]
  rw [Bool.and_comm]
theorem posOf_nd {r : Str} {ks : KR} (h : (ks.map (·.1)).Nodup) : (posOf r ks).Nodup := by
  unfold posOf
  exact h.sublist (List.Sublist.map _ List.filter_sublist)
theorem filter_last {l : List Nat} {p : Nat} (nd : l.Nodup) (e : l.getLast? = some p) : l.filter (fun i => decide (i ≠ p)) = l.dropLast := by
  obtain ⟨l', rfl⟩ := List.getLast?_eq_some_iff.mp e
  rw [List.dropLast_concat, List.filter_append, List.filter_cons_of_neg (by simp)]
  rw [List.nodup_append] at nd
  have : l'.filter (fun i => decide (i ≠ p)) = l' := by
    rw [List.filter_eq_self]
    intro a ha
    exact decide_eq_true (nd.2.2 a ha p (by simp))
  rw [this]
  simp
theorem KOk.get {row : Row} {i p : Nat} {ks : KR} {r : Str} (K : KOk row i ks) (h : p ∈ posOf r ks) : ∃ g, (p, g) ∈ ks ∧ row[p]? = some g ∧ touches r g = true ∧ p < i := by
  obtain ⟨g, h1, h2⟩ := posOf_mem h
  exact ⟨g, h1, K.inr _ h1, h2, K.lt _ h1⟩
theorem KOk.app {row : Row} {i : Nat} {ks : KR} {h : Hook} (K : KOk row i ks) (e : row[i]? = some h) : KOk row (i + 1) (ks ++ [(i, h)]) where
  lt := fun p hp => by
    rcases List.mem_append.mp hp with hp | hp
    · have := K.lt p hp; omega
    · rw [List.mem_singleton.mp hp]; exact Nat.lt_succ_self _
  inr := fun p hp => by
    rcases List.mem_append.mp hp with hp | hp
    · exact K.inr p hp
    · rw [List.mem_singleton.mp hp]; exact e
  nd := by
    rw [List.map_append, List.nodup_append]
    refine ⟨K.nd, by simp, fun a ha b hb => ?_⟩
    obtain ⟨q, hq, rfl⟩ := List.mem_map.mp ha
    have := K.lt q hq
    simp at hb
    omega
theorem KOk.del {row : Row} {i p : Nat} {ks : KR} (K : KOk row i ks) : KOk row (i + 1) (ks.filter fun e => decide (e.1 ≠ p)) where
  lt := fun q hq => by have := K.lt q (List.mem_filter.mp hq).1; omega
  inr := fun q hq => K.inr q (List.mem_filter.mp hq).1
  nd := K.nd.sublist (List.Sublist.map _ List.filter_sublist)
end SH
namespace SH
open PySem PySem.Spec PyProof.Rows L2 DL
theorem SInv.upd {f : Hook → PyData} {n : Nat} {κ κ' : Kap} {st : List (Key × R)} {ks ks' : KR} (I : SInv f n κ st ks) (h0 : κ'[0]? = κ[0]?) (h1 : κ'[1]? = some (.m (keptE f ks'))) (ha : ∀ r j, lookM st (.inr r) = some (.c j) → κ'[j]? = some (.l (natsD (posOf r ks'))))
    (hn : ∀ r, lookM st (.inr r) = none → posOf r ks' = []) : SInv f n κ' st ks' :=
  ⟨h0.trans I.s0, h1, I.ln, fun r j h => ⟨(I.at_ r j h).1, ha r j h⟩, hn, I.only, I.apart⟩
theorem natsD_snoc (l : List Nat) (i : Nat) : natsD l ++ [.int (i : Int)] = natsD (l ++ [i]) := by unfold natsD; rw [List.map_append]; rfl
theorem SInv.app {f : Hook → PyData} {n i : Nat} {κ : Kap} {st : List (Key × R)} {ks : KR} {h : Hook} {j1 j2 : Nat} (I : SInv f n κ st ks) (l1 : lookM st (.inr h.1) = some (.c j1)) (l2 : lookM st (.inr h.2.1) = some (.c j2)) :
    SInv f n (((κ.set j1 (Cell.l (natsD (posOf h.1 ks) ++ [.int (i : Int)]))).set j2 (Cell.l (natsD (posOf h.2.1 ks) ++ [.int (i : Int)]))).set 1 (Cell.m (keptE f (ks ++ [(i, h)])))) st (ks ++ [(i, h)]) := by
  obtain ⟨g1, a1⟩ := I.at_ _ _ l1
  obtain ⟨g2, a2⟩ := I.at_ _ _ l2
  have b2 : ((κ.set j1 (Cell.l (natsD (posOf h.1 ks) ++ [.int (i : Int)]))).set j2 (Cell.l (natsD (posOf h.2.1 ks) ++ [.int (i : Int)])))[1]? = some (.m (keptE f ks)) := by
    rw [List.getElem?_set_ne (by omega), List.getElem?_set_ne (by omega)]; exact I.s1
  refine I.upd ?_ ?_ (fun r j lr => ?_) fun r lr => ?_
  · rw [List.getElem?_set_ne (by decide), List.getElem?_set_ne (by omega), List.getElem?_set_ne (by omega)]
  · rw [List.getElem?_set_self]
    have := (List.getElem?_eq_some_iff.mp b2).1
    exact this
  · obtain ⟨gj, aj⟩ := I.at_ r j lr
    rw [List.getElem?_set_ne (by omega), posOf_app]
    by_cases e2 : j = j2
    · subst e2
      have er := I.apart _ _ _ lr l2
      subst er
      rw [List.getElem?_set_self (by rw [List.length_set]; exact (List.getElem?_eq_some_iff.mp a2).1), if_pos (by simp [touches]), natsD_snoc]
    · rw [List.getElem?_set_ne (fun z => e2 z.symm)]
      by_cases e1 : j = j1
      · subst e1
        have er := I.apart _ _ _ lr l1
        subst er
        rw [List.getElem?_set_self (List.getElem?_eq_some_iff.mp a1).1, if_pos (by simp [touches]), natsD_snoc]
      · rw [List.getElem?_set_ne (fun z => e1 z.symm), aj, if_neg]
        intro ht
        unfold touches at ht
        rw [Bool.or_eq_true] at ht
        rcases ht with ht | ht
        · have := of_decide_eq_true ht
          subst this
          rw [l1] at lr; cases lr; exact e1 rfl
        · have := of_decide_eq_true ht
          subst this
          rw [l2] at lr; cases lr; exact e2 rfl
  · rw [posOf_app, if_neg, I.no r lr]
    intro ht
    unfold touches at ht
    rw [Bool.or_eq_true] at ht
    rcases ht with ht | ht
    · have := of_decide_eq_true ht
      subst this
      rw [l1] at lr; cases lr
    · have := of_decide_eq_true ht
      subst this
      rw [l2] at lr; cases lr
theorem SInv.del {f : Hook → PyData} {n i p : Nat} {κ : Kap} {st : List (Key × R)} {ks : KR} {h g : Hook} {row : Row} {j1 j2 : Nat} (I : SInv f n κ st ks) (K : KOk row i ks) (l1 : lookM st (.inr h.1) = some (.c j1)) (l2 : lookM st (.inr h.2.1) = some (.c j2)) (hne : h.1 ≠ h.2.1)
    (e1 : (posOf h.1 ks).getLast? = some p) (e2 : (posOf h.2.1 ks).getLast? = some p) (hg : (p, g) ∈ ks) (hgt : g = turned h) :
    SInv f n (((κ.set j1 (Cell.l (natsD (posOf h.1 ks).dropLast))).set 1 (Cell.m (keptE f (ks.filter fun e => decide (e.1 ≠ p))))).set j2 (Cell.l (natsD (posOf h.2.1 ks).dropLast))) st (ks.filter fun e => decide (e.1 ≠ p)) := by
  obtain ⟨g1, a1⟩ := I.at_ _ _ l1
  obtain ⟨g2, a2⟩ := I.at_ _ _ l2
  have j12 : j1 ≠ j2 := fun e => by
    subst e
    exact hne (I.apart _ _ _ l1 l2)
  have b1 : (κ.set j1 (Cell.l (natsD (posOf h.1 ks).dropLast)))[1]? = some (.m (keptE f ks)) := by rw [List.getElem?_set_ne (by omega)]; exact I.s1
  have b2 : ((κ.set j1 (Cell.l (natsD (posOf h.1 ks).dropLast))).set 1 (Cell.m (keptE f (ks.filter fun e => decide (e.1 ≠ p)))))[j2]? = some (.l (natsD (posOf h.2.1 ks))) := by
    rw [List.getElem?_set_ne (by omega), List.getElem?_set_ne j12]; exact a2
  have nd := K.nd
  have fl1 : (posOf h.1 ks).filter (fun i => decide (i ≠ p)) = (posOf h.1 ks).dropLast := filter_last (posOf_nd nd) e1
  have fl2 : (posOf h.2.1 ks).filter (fun i => decide (i ≠ p)) = (posOf h.2.1 ks).dropLast := filter_last (posOf_nd nd) e2
  refine I.upd ?_ ?_ (fun r j lr => ?_) fun r lr => ?_
  · rw [List.getElem?_set_ne (by omega), List.getElem?_set_ne (by decide), List.getElem?_set_ne (by omega)]
  · rw [List.getElem?_set_ne (by omega), List.getElem?_set_self (by
      have := (List.getElem?_eq_some_iff.mp b1).1
      exact this)]
  · obtain ⟨gj, aj⟩ := I.at_ r j lr
    rw [posOf_drop]
    by_cases q2 : j = j2
    · subst q2
      have er := I.apart _ _ _ lr l2
      subst er
      rw [List.getElem?_set_self (by have := (List.getElem?_eq_some_iff.mp b2).1; exact this), fl2]
    · rw [List.getElem?_set_ne (fun z => q2 z.symm), List.getElem?_set_ne (by omega)]
      by_cases q1 : j = j1
      · subst q1
        have er := I.apart _ _ _ lr l1
        subst er
        rw [List.getElem?_set_self (List.getElem?_eq_some_iff.mp a1).1, fl1]
      · rw [List.getElem?_set_ne (fun z => q1 z.symm), aj]
        have : (posOf r ks).filter (fun i => decide (i ≠ p)) = posOf r ks := by
          rw [List.filter_eq_self]
          intro a ha
          refine decide_eq_true fun z => ?_
          subst z
          obtain ⟨g', hg', ht⟩ := posOf_mem ha
          have eg : g' = g := by
            have x1 := K.inr _ hg'
            have x2 := K.inr _ hg
            rw [x1] at x2
            exact Option.some.inj x2
          rw [eg, hgt] at ht
          unfold touches turned at ht
          rw [Bool.or_eq_true] at ht
          rcases ht with ht | ht
          · have ht := of_decide_eq_true ht
            have ht : h.1 = r := ht
            subst ht
            rw [l1] at lr; cases lr; exact q1 rfl
          · have ht := of_decide_eq_true ht
            have ht : h.2.1 = r := ht
            subst ht
            rw [l2] at lr; cases lr; exact q2 rfl
        rw [this]
  · rw [posOf_drop, I.no r lr]
    rfl
theorem sStep_true {row : Row} {ks : KR} {i p : Nat} {h : Hook} (e1 : (posOf h.1 ks).getLast? = some p) (e2 : (posOf h.2.1 ks).getLast? = some p) (e3 : row[p]? = some (turned h)) : sStep row ks i h = ks.filter fun e => decide (e.1 ≠ p) := by
  unfold sStep
  rw [e1, e2]
  simp only
  rw [if_pos ⟨trivial, e3⟩]
theorem sStep_false {row : Row} {ks : KR} {i : Nat} {h : Hook} (e : ¬ ∃ p, (posOf h.1 ks).getLast? = some p ∧ (posOf h.2.1 ks).getLast? = some p ∧ row[p]? = some (turned h)) : sStep row ks i h = ks ++ [(i, h)] := by
  unfold sStep
  cases e1 : (posOf h.1 ks).getLast? with
  | none => rfl
  | some p =>
    cases e2 : (posOf h.2.1 ks).getLast? with
    | none => rfl
    | some q =>
      simp only
      rw [if_neg]
      intro z
      obtain ⟨z1, z2⟩ := z
      subst z1
      exact e ⟨p, e1, e2, z2⟩
theorem sStep_ok {row : Row} {ks : KR} {i : Nat} {h : Hook} (K : KOk row i ks) (e : row[i]? = some h) : KOk row (i + 1) (sStep row ks i h) := by
  by_cases q : ∃ p, (posOf h.1 ks).getLast? = some p ∧ (posOf h.2.1 ks).getLast? = some p ∧ row[p]? = some (turned h)
  · obtain ⟨p, e1, e2, e3⟩ := q
    rw [sStep_true e1 e2 e3]
    exact K.del
  · rw [sStep_false q]
    exact K.app e
theorem nd_len : ∀ (i : Nat) (l : List Nat), l.Nodup → (∀ x ∈ l, x < i) → l.length ≤ i
  | 0, [], _, _ => Nat.le_refl _
  | 0, x :: l, _, h => absurd (h x (List.mem_cons_self ..)) (by omega)
  | i + 1, l, nd, h => by
    have ih := nd_len i (l.erase i) (nd.sublist List.erase_sublist) fun x hx => by
      have h1 := h x (List.mem_of_mem_erase hx)
      have h2 : x ≠ i := fun e => by
        subst e
        exact nd.not_mem_erase hx
      omega
    by_cases hm : i ∈ l
    · rw [List.length_erase_of_mem hm] at ih
      omega
    · rw [List.erase_of_not_mem hm] at ih
      omega
theorem KOk.len {row : Row} {i : Nat} {ks : KR} (K : KOk row i ks) : ks.length ≤ i := by
  have := nd_len i (ks.map (·.1)) K.nd fun x hx => by
    obtain ⟨q, hq, rfl⟩ := List.mem_map.mp hx
    exact K.lt q hq
  rwa [List.length_map] at this
end SH
namespace DL
open PySem PySem.Spec PyProof.Rows L2
/-- xs.pop(i), i from the front -/
def wPop1 (wo wi : DTE) : DTE := fun ρ κ P => wo ρ κ fun ro κ1 => match ro with
  | .c k => (∃ zs, κ1[k]? = some (.l zs)) ∧ wi ρ κ1 fun ri κ2 => match ri, κ2[k]? with
    | .d (.int i), some (.l xs) => 0 ≤ i ∧ i < 2 ^ 62 ∧ Opt (xs[i.toNat]?) fun y => P (.d y) (κ2.set k (Cell.l (xs.eraseIdx i.toNat)))
    | _, _ => False
  | _ => False
theorem RpA.erase {K : PySem.W.Frag} {G : Hp} : ∀ {vs : List V} {ds : List PyData} (i : Nat), RpA K G vs ds → RpA K G (vs.eraseIdx i) (ds.eraseIdx i)
  | _, _, _, .nil => .nil
  | _, _, 0, .cons _ t => t
  | _, _, i + 1, .cons r t => .cons r (RpA.erase i t)
section
variable {X : Cx} {o e : Expr} {wo we : DTE} {apos cpos : Pos}
theorem de_pop1 (ho : DE X o wo) (ha : DE X e we) (hbase : attributeBase o "pop" X.env (eval o X.env) = eval o X.env := by rfl)
    (hfew : ((backTo cpos (starEach [e] X.env)).all (fun x => !x.1) && (backToKw cpos (keywordEach [] X.env)).all (fun x => x.1.isSome) && decide (([e] : List Expr).length + ([] : List Keyword).length + (if ([] : List Keyword).isEmpty then 0 else 1) < 30)) = true := by rfl)
    (hline : (apos.endLine == cpos.line) = true := by rfl) (hs : starEach [e] X.env = (false, eval e X.env) :: starEach [] X.env := by rfl) (hplain : (backTo cpos (starEach [] X.env)).any (·.1) = false := by rfl) :
    DE X (.Call (.Attribute o "pop" apos) [e] [] cpos) (wPop1 wo we) := by
  obtain ⟨to, po, ho⟩ := ho
  obtain ⟨ta, pa, ha⟩ := ha
  refine ⟨_, pe_bm PySem.F.plainAttrs_list PySem.F.slot_list_pop PySem.F.type_list_pop mt_popAt po (pa_cons pa pa_nil hs) hbase hfew hline hs hplain, fun G H As σ ρ κ P Q c p w k => ?_⟩
  refine ho G H As σ ρ κ _ _ c p w fun v1 r1 G1 H1 As1 κ1 s1 c1 p1 i1 w1 => ?_
  cases r1 with
  | c kk =>
    obtain ⟨l, hl, rfl⟩ := i1
    obtain ⟨⟨zs, ez⟩, w1⟩ := w1
    obtain ⟨_, zv, z2, _⟩ := c1.ok kk _ l ez hl
    refine ⟨.inl ⟨rfl, zv, sql_of z2⟩, ?_⟩
    refine ha G1 H1 As1 σ ρ κ1 _ _ c1 p1 w1 fun v2 r2 G2 H2 As2 κ2 s2 c2 p2 i2 w2 => ?_
    split at w2
    · rename_i o1 o2 i xs hk
      obtain ⟨h0, h1, w3⟩ := w2
      obtain ⟨y, ey, w4⟩ := w3.ex
      have i2 : Rp X.K G2 v2 (.int i) := i2
      cases i2
      obtain ⟨bs, eb⟩ := s2.pre
      have hl2 : As2[kk]? = some l := by rw [eb, List.getElem?_append_left (List.getElem?_eq_some_iff.mp hl).1]; exact hl
      obtain ⟨g0, vs, hq, rp⟩ := c2.ok kk _ l hk hl2
      obtain ⟨v, e1, e2⟩ := rp.get ey
      have hlt : i.toNat < vs.length := (List.getElem?_eq_some_iff.mp e1).1
      refine ⟨l, vs, i, i.toNat, v, rfl, rfl, hq, by omega, by omega, seqIndex_of h0 (by omega), e1, ?_⟩
      have sw : Step G2 H2 As2 G2 (upd H2 l (.lst (vs.eraseIdx i.toNat))) As2 := Step.write (List.mem_of_getElem? hl2) hq
      have sa := (s1.trans s2).trans sw
      exact k v (.d y) G2 _ As2 _ sa (c2.write hk hl2 (rp.erase _)) (p.step sa) e2 w4
    · exact w2.elim
  | _ => exact w1.elim
end
end DL
namespace DL
open PySem PySem.Spec PyProof.Rows L2
def wPar3 (i j l : Nat) (wa : DTA) : DTS := fun E ρ κ => wa ρ κ fun rs κ1 => match rs with
  | [q1, q2, q3] => E.nx (((ρ.set i (some q1)).set j (some q2)).set l (some q3)) κ1
  | _ => False
section
variable {X : Cx} {a b c : Expr} {wr : DTA} {pos : Pos}
theorem ds_par3 (i j l : Nat) {x y z : Str} {px py pz pt : Pos} {kt k2 : Nat} {pt2 : Pos} (hc : X.calm = true) (hN : X.N.Nodup) (ha : DA X [a, b, c] wr) (hi : X.N[i]? = some x := by rfl) (hj : X.N[j]? = some y := by rfl) (hl : X.N[l]? = some z := by rfl) (hij : i ≠ j := by decide) (hil : i ≠ l := by decide) (hjl : j ≠ l := by decide)
    (hx : X.env.scope.names.lookup x = some .local := by rfl) (hy : X.env.scope.names.lookup y = some .local := by rfl) (hz : X.env.scope.names.lookup z = some .local := by rfl)
    (hw : swappedStores [.Tuple [.Name x px, .Name y py, .Name z pz] kt pt] (.Tuple [a, b, c] k2 pt2) X.env = pure (some [x, y, z]) := by rfl)
    (hs : swapsWithSole [.Tuple [.Name x px, .Name y py, .Name z pz] kt pt] (.Tuple [a, b, c] k2 pt2) pos.line X.env = pure false := by rfl) :
    DS X (.Assign [.Tuple [.Name x px, .Name y py, .Name z pz] kt pt] (.Tuple [a, b, c] k2 pt2) pos) (wPar3 i j l wr) := by
  obtain ⟨t, ptt, ha⟩ := ha
  refine ⟨_, ps_par3 hc hN hi hj hl hij hil hjl hx hy hz ptt hw hs, fun G H As σ ρ κ E D c p w r => ?_⟩
  refine ha G H As σ ρ κ _ _ c p w fun vs rs G1 H1 As1 κ1 s1 c1 p1 i1 l1 w1 => ?_
  match rs, vs, i1, w1 with
  | [q1, q2, q3], _, .cons h1 (.cons h2 (.cons h3 .nil)), w1 => exact ⟨_, _, _, rfl, r.nx _ _ G1 H1 As1 κ1 s1 c1 (((p1.put i h1).put j h2).put l h3) w1⟩
  | [], _, _, w1 => exact w1.elim
  | [_], _, _, w1 => exact w1.elim
  | [_, _], _, _, w1 => exact w1.elim
  | _ :: _ :: _ :: _ :: _, _, _, w1 => exact w1.elim
end
end DL
namespace SH
open PySem PySem.Spec PyProof.Rows L2 DL
/-- a hook of these names -/
def HookOf (ns : List Str) (h : Hook) : Prop := h.1 ∈ ns ∧ h.2.1 ∈ ns ∧ cs h.1 < cs h.2.1 ∧ (h.2.2 = 1 ∨ h.2.2 = -1)
def Ph_law_hook (bs : List PyData) (rs : List R) (P : R → List PyData → Prop) : Prop := ∃ (N : Int) (ns : List Str), Box N bs ∧ N ≤ 2 ^ 39 ∧ rs = [.d (.list (ns.map .str))] ∧ 2 ≤ ns.length ∧ ns.length ≤ 1000 ∧ Names ns ∧ ∀ (h : Hook) (bs' : List PyData), HookOf ns h → Box (N + 3) bs' → P (.d (hookD h)) bs'
/-- _law_hook -/
def w_law_hook : DTS := (wSeq (wPar 2 3 (wConsM false (wCallL Ph_law_take (wCons (wVar 0) (wCons (wCB lenD (wCons (wVar 1) wNil)) wNil))) (wConsM false (wCallL Ph_law_take (wCons (wVar 0) (wCons (wBin subD (wCB lenD (wCons (wVar 1) wNil)) (wC (.int 1))) wNil))) wNil)))
  (wSeq (wSet false 3 (wBin addD (wVar 3) (wCB intC (wCons (wBin (ciD geI) (wVar 3) (wVar 2)) wNil))))
  (wRet (wTup (wCons (wBin ixD (wVar 1) (wCB min2D (wCons (wVar 2) (wCons (wVar 3) wNil)))) (wCons (wBin ixD (wVar 1) (wCB max2D (wCons (wVar 2) (wCons (wVar 3) wNil)))) (wCons (wBin subD (wC (.int 1)) (wBin mulD (wC (.int 2)) (wCallL Ph_law_take (wCons (wVar 0) (wCons (wC (.int 2)) wNil))))) wNil)))))))
theorem ix_names {ns : List Str} {i : Nat} {z : Str} (h : ns[i]? = some z) : ixD (.list (ns.map .str)) (.int (i : Int)) = some (.v (.str z)) := by
  refine ixD_list (atI_nat ?_)
  rw [List.getElem?_map, h]
  rfl
theorem names_lt {ns : List Str} (hn : Names ns) {i j : Nat} {x y : Str} (hi : ns[i]? = some x) (hj : ns[j]? = some y) (h : i < j) : cs x < cs y := by
  obtain ⟨l1, q1⟩ := List.getElem?_eq_some_iff.mp hi
  obtain ⟨l2, q2⟩ := List.getElem?_eq_some_iff.mp hj
  have := List.pairwise_iff_getElem.mp hn.2 i j l1 l2 h
  rw [q1, q2] at this
  exact this
theorem r_law_hook (bs : List PyData) (rs : List R) (Pd : R → List PyData → Prop) (h : Ph_law_hook bs rs Pd) (hl : rs.length = 1) : w_law_hook { nx := fun _ κ => endL κ (.d .none) Pd, rt := fun r κ => endL κ r Pd } (some (.c 0) :: (rs.map some ++ List.replicate 2 none)) [.l bs] := by
  obtain ⟨N, ns, hb, hN, rfl, h2, h3, hn, k⟩ := h
  clear hl
  simp [w_law_hook, sizeLine_eq]
  refine ⟨N, ns.length, hb, by omega, rfl, by omega, by omega, fun a bs1 a0 a1 hb1 => ?_⟩
  simp
  refine ⟨N + 1, (ns.length : Int) - 1, hb1, by omega, rfl, by omega, by omega, fun b bs2 b0 b1 hb2 => ?_⟩
  obtain ⟨a, rfl⟩ : ∃ q : Nat, a = (q : Int) := ⟨a.toNat, by omega⟩
  obtain ⟨b, rfl⟩ : ∃ q : Nat, b = (q : Int) := ⟨b.toNat, by omega⟩
  -- the two places, the lower one first
  obtain ⟨c, hc, hac⟩ : ∃ c : Nat, ((b : Int) + if geI (b : Int) (a : Int) = true then 1 else 0) = (c : Int) ∧ c < ns.length ∧ c ≠ a := by
    by_cases q : a ≤ b
    · have d : geI (b : Int) (a : Int) = true := decide_eq_true (by omega)
      rw [if_pos d]
      exact ⟨b + 1, by omega, by omega, by omega⟩
    · have d : ¬ geI (b : Int) (a : Int) = true := fun z => absurd (of_decide_eq_true z) (by omega)
      rw [if_neg d]
      exact ⟨b, by omega, by omega, by omega⟩
  obtain ⟨i, hi1, hi2⟩ : ∃ i : Nat, (if c < a then (c : Int) else (a : Int)) = (i : Int) ∧ i = min a c := by
    by_cases q : c < a
    · rw [if_pos q]; exact ⟨c, rfl, by omega⟩
    · rw [if_neg q]; exact ⟨a, rfl, by omega⟩
  obtain ⟨j, hj1, hj2⟩ : ∃ j : Nat, (if a < c then (c : Int) else (a : Int)) = (j : Int) ∧ j = max a c := by
    by_cases q : a < c
    · rw [if_pos q]; exact ⟨c, rfl, by omega⟩
    · rw [if_neg q]; exact ⟨a, rfl, by omega⟩
  have hij : i < j := by omega
  have li : i < ns.length := by omega
  have lj : j < ns.length := by omega
  have ei := ix_names (List.getElem?_eq_getElem li)
  have ej := ix_names (List.getElem?_eq_getElem lj)
  have hlt := names_lt hn (List.getElem?_eq_getElem li) (List.getElem?_eq_getElem lj) hij
  simp [hc, hi1, hj1, ei, ej]
  refine ⟨N + 1 + 1, 2, hb2, by omega, rfl, by decide, by decide, fun z bs3 z0 z1 hb3 => ?_⟩
  simp [mulD_int (i := 2) (j := z) (.inl (by decide))]
  refine k (ns[i], ns[j], 1 - 2 * z) bs3 ⟨List.getElem_mem li, List.getElem_mem lj, hlt, ?_⟩ (hb3.mono (by omega))
  show 1 - 2 * z = 1 ∨ 1 - 2 * z = -1
  omega
def Ph_law_some (bs : List PyData) (rs : List R) (P : R → List PyData → Prop) : Prop := ∃ (N : Int) (ns : List Str) (few : Nat), Box N bs ∧ N ≤ 2 ^ 39 ∧ rs = [.d (.list (ns.map .str)), .d (.int few)] ∧ few ≤ ns.length ∧ ns.length ≤ 1000 ∧ Names ns ∧
  ∀ (ms : List Str) (bs' : List PyData), Names ms → few ≤ ms.length → ms.length ≤ ns.length → (∀ z ∈ ms, z ∈ ns) → Box (N + 1001) bs' → P (.f (ms.map .str)) bs'
def wb_some : DTS := (wDrop (wAppend (wVar 4) (wPop1 (wVar 3) (wCallL Ph_law_take (wCons (wVar 0) (wCons (wCB lenD (wCons (wVar 3) wNil)) wNil))))))
/-- _law_some -/
def w_law_some : DTS := (wSeq (wPar 3 4 (wConsM true (wCB listC (wCons (wVar 1) wNil)) (wConsM true (wLst wNil) wNil)))
  (wSeq (wFor (wRng1 (wCons (wBin addD (wVar 2) (wCallL Ph_law_take (wCons (wVar 0) (wCons (wBin addD (wBin subD (wCB lenD (wCons (wVar 1) wNil)) (wVar 2)) (wC (.int 1))) wNil)))) wNil)) (wName 5) wb_some)
  (wRet (wCB sortC (wCons (wVar 4) wNil)))))
@[simp] theorem s_pop1 (wo wi : DTE) (ρ : Rho) (κ : Kap) (P : R → Kap → Prop) : wPop1 wo wi ρ κ P = wo ρ κ fun ro κ1 => match ro with
  | .c k => (∃ zs, κ1[k]? = some (.l zs)) ∧ wi ρ κ1 fun ri κ2 => match ri, κ2[k]? with
    | .d (.int i), some (.l xs) => 0 ≤ i ∧ i < 2 ^ 62 ∧ Opt (xs[i.toNat]?) fun y => P (.d y) (κ2.set k (Cell.l (xs.eraseIdx i.toNat)))
    | _, _ => False
  | _ => False := rfl
theorem erase_map {α β : Type} (f : α → β) : ∀ (xs : List α) (i : Nat), (xs.map f).eraseIdx i = (xs.eraseIdx i).map f
  | [], _ => rfl
  | _ :: _, 0 => rfl
  | x :: xs, i + 1 => by
    show f x :: (xs.map f).eraseIdx i = f x :: (xs.eraseIdx i).map f
    rw [erase_map f xs i]
theorem el_perm {α : Type} : ∀ (st : List α) (i : Nat) (hi : i < st.length), (st[i] :: st.eraseIdx i).Perm st
  | x :: st, 0, _ => List.Perm.refl _
  | x :: st, i + 1, hi => by
    have ih := el_perm st i (by simpa using hi)
    exact (List.Perm.swap x _ _).trans (ih.cons x)
theorem val_c2 (c d : Cell) (xs : List PyData) (κ : Kap) : val (c :: d :: .l xs :: κ) (.c 2) = some (.list xs) := rfl
theorem some_loop {E : DEnds} {p1 p2 : Option R} {ns : List Str} (hns : ns.length ≤ 1000) : ∀ (xs : List PyData) (st fs : List Str) (bs : List PyData) (N : Int) (p5 : Option R), Box N bs → N + (xs.length : Int) < 2 ^ 40 → xs.length ≤ st.length → (fs ++ st).Perm ns →
    (∀ (st' fs' : List Str) (bs' : List PyData) (p5 : Option R), (fs' ++ st').Perm ns → fs'.length = fs.length + xs.length → Box (N + (xs.length : Int)) bs' → E.nx [some (.c 0), p1, p2, some (.c 1), some (.c 2), p5] [.l bs', .l (st'.map .str), .l (fs'.map .str)]) →
    forL (fun _ => True) (wName 5) wb_some E xs [some (.c 0), p1, p2, some (.c 1), some (.c 2), p5] [.l bs, .l (st.map .str), .l (fs.map .str)]
  | [], st, fs, bs, N, p5, hb, _, _, hp, k => by
    rw [forL_nil]
    exact k st fs bs p5 hp (by simp) (by simpa using hb)
  | x :: xs, st, fs, bs, N, p5, hb, hN, hl, hp, k => by
    rw [forL_cons]
    simp only [List.length_cons] at hN hl k
    have hlen : fs.length + st.length = ns.length := by
      have := hp.length_eq
      simpa using this
    simp [wb_some]
    refine ⟨N, st.length, hb, by omega, rfl, by omega, by omega, fun r bs' r0 r1 hb' => ?_⟩
    obtain ⟨i, rfl⟩ : ∃ i : Nat, r = (i : Int) := ⟨r.toNat, by omega⟩
    have hi : i < st.length := by omega
    have e1 : (st.map PyData.str)[i]? = some (.str st[i]) := by rw [List.getElem?_map, List.getElem?_eq_getElem hi]; rfl
    simp [e1, erase_map]
    refine ⟨by omega, by rw [sizeLine_eq]; omega, ?_⟩
    have e2 : fs.map PyData.str ++ [.str st[i]] = (fs ++ [st[i]]).map .str := by simp
    rw [e2]
    have pm : (fs ++ [st[i]] ++ st.eraseIdx i).Perm ns := by
      refine List.Perm.trans ?_ hp
      rw [List.append_assoc]
      refine List.Perm.append_left fs ?_
      exact el_perm st i hi
    refine some_loop hns xs (st.eraseIdx i) (fs ++ [st[i]]) bs' (N + 1) _ hb' (by omega) ?_ pm fun st' fs' bs2 p5 q1 q2 q3 => k st' fs' bs2 p5 q1 (by simp at q2; omega) (q3.mono (by omega))
    rw [List.length_eraseIdx, if_pos hi]
    omega
theorem r_law_some (bs : List PyData) (rs : List R) (Pd : R → List PyData → Prop) (h : Ph_law_some bs rs Pd) (hl : rs.length = 2) : w_law_some { nx := fun _ κ => endL κ (.d .none) Pd, rt := fun r κ => endL κ r Pd } (some (.c 0) :: (rs.map some ++ List.replicate 3 none)) [.l bs] := by
  obtain ⟨N, ns, few, hb, hN, rfl, hf, hl1, hn, k⟩ := h
  clear hl
  simp [w_law_some, sizeLine_eq]
  refine ⟨N, (ns.length : Int) - few + 1, hb, by omega, rfl, by omega, by omega, fun r bs1 r0 r1 hb1 => ?_⟩
  simp
  obtain ⟨m, hm⟩ : ∃ m : Nat, (few : Int) + r = (m : Int) := ⟨((few : Int) + r).toNat, by omega⟩
  rw [hm]
  refine ⟨by omega, by omega, ?_⟩
  have e0 : ([] : List PyData) = (([] : List Str).map .str) := rfl
  rw [e0]
  refine some_loop (ns := ns) hl1 _ ns [] bs1 (N + 1) _ hb1 (by simp; omega) (by simp; omega) (List.Perm.refl _) fun st' fs' bs2 p5 q1 q2 q3 => ?_
  simp at q2
  have nd : (fs' ++ st').Nodup := q1.nodup_iff.mpr (hn.2.imp fun {a b} z e => by subst e; exact absurd z (List.lt_irrefl _))
  have nd1 : fs'.Nodup := (List.nodup_append.mp nd).1
  have sub : ∀ z ∈ fs', z ∈ ns := fun z hz => q1.mem_iff.mp (List.mem_append_left _ hz)
  have ll := q1.length_eq
  rw [List.length_append] at ll
  obtain ⟨n1, n2⟩ := sorted_names (fun z hz => hn.1 z (sub z hz)) nd1
  simp [val_c2]
  rw [sortC_list (sortOk_strs (by rw [sizeLine_eq]; omega)), sort_strs]
  simp
  refine k _ bs2 n1 (by omega) (by omega) (fun z hz => sub z ((List.mergeSort_perm _ _).mem_iff.mp hz)) (q3.mono (by simp; omega))
end SH
namespace SH
open PySem PySem.Spec PyProof.Rows L2 DL
def RowOf (ns : List Str) (r : Row) : Prop := ∀ h ∈ r, HookOf ns h
theorem HookOf.turn {ns : List Str} {h : Hook} (a : HookOf ns h) : HookOf ns (turned h) := ⟨a.1, a.2.1, a.2.2.1, by
  show -h.2.2 = 1 ∨ -h.2.2 = -1
  rcases a.2.2.2 with e | e <;> rw [e] <;> simp⟩
theorem RowOf.back {ns : List Str} {r : Row} (a : RowOf ns r) : RowOf ns (back r) := fun x hx => by
  obtain ⟨y, hy, rfl⟩ := List.mem_map.mp hx
  exact (a y (List.mem_reverse.mp hy)).turn
theorem RowOf.app {ns : List Str} {r q : Row} (a : RowOf ns r) (b : RowOf ns q) : RowOf ns (r ++ q) := fun x hx => by
  rcases List.mem_append.mp hx with h | h
  · exact a x h
  · exact b x h
theorem RowOf.mono {ns ms : List Str} {r : Row} (a : RowOf ms r) (h : ∀ z ∈ ms, z ∈ ns) : RowOf ns r := fun x hx => ⟨h _ (a x hx).1, h _ (a x hx).2.1, (a x hx).2.2⟩
theorem knotL_of {ns : List Str} : ∀ (xs : List Str) (r : Row) (l : Str), RowOf ns r → l ∈ ns → (∀ z ∈ xs, z ∈ ns) → (l :: xs).Pairwise (fun x y => cs x < cs y) → RowOf ns (knotL r l xs)
  | [], r, l, h, _, _, _ => h
  | x :: xs, r, l, h, hl, hn, hp => by
    rw [knotL]
    have hp' := List.pairwise_cons.mp hp
    have hx := hn x (List.mem_cons_self ..)
    have one : HookOf ns (l, x, 1) := ⟨hl, hx, hp'.1 x (List.mem_cons_self ..), .inl rfl⟩
    have two : HookOf ns (l, x, -1) := ⟨hl, hx, hp'.1 x (List.mem_cons_self ..), .inr rfl⟩
    refine knotL_of xs _ x ?_ hx (fun z hz => hn z (List.mem_cons_of_mem _ hz)) hp'.2
    unfold kstep
    refine ((h.app fun y hy => ?_).app h.back).app fun y hy => ?_
    · rw [List.mem_singleton.mp hy]; exact one
    · rw [List.mem_singleton.mp hy]; exact two
theorem knot_of {a b : Str} {xs : List Str} (h : Names (a :: b :: xs)) : RowOf (a :: b :: xs) (knot (a :: b :: xs)) := by
  have hp := List.pairwise_cons.mp h.2
  refine knotL_of xs _ b (fun y hy => ?_) (by simp) (fun z hz => by simp [hz]) hp.2
  rw [List.mem_singleton.mp hy]
  exact ⟨by simp, by simp, hp.1 b (List.mem_cons_self ..), .inl rfl⟩
def Ph_law_piece (bs : List PyData) (rs : List R) (P : R → List PyData → Prop) : Prop := ∃ (N : Int) (ns : List Str), Box N bs ∧ N ≤ 2 ^ 38 ∧ rs = [.d (.list (ns.map .str))] ∧ 2 ≤ ns.length ∧ ns.length ≤ 1000 ∧ Names ns ∧
  ∀ (r : Row) (bs' : List PyData), RowOf ns r → 1 ≤ r.length → r.length ≤ 40 → Box (N + 2000) bs' → P (.f (r.map hookD)) bs' ∧ P (.d (.list (r.map hookD))) bs'
/-- _law_piece -/
def w_law_piece : DTS := (wSeq (wPar3 2 3 4 (wConsM false (wCallL Ph_law_take (wCons (wVar 0) (wCons (wC (.int 9)) wNil))) (wConsM false (wCallL Ph_law_hook (wCons (wVar 0) (wCons (wVar 1) wNil))) (wConsM false (wCallL Ph_law_hook (wCons (wVar 0) (wCons (wVar 1) wNil))) wNil))))
  (wSeq (wIfS (wB (wBin (ordD ltI ltS) (wVar 2) (wC (.int 3)))) (wRet (wLst (wCons (wVar 3) wNil))) wNext)
  (wSeq (wIfS (wB (wBin (eqD false) (wVar 2) (wC (.int 3)))) (wRet (wBin mulD (wLst (wCons (wVar 3) wNil)) (wBin addD (wC (.int 2)) (wCallL Ph_law_take (wCons (wVar 0) (wCons (wC (.int 2)) wNil)))))) wNext)
  (wSeq (wIfS (wB (wBin (ordD ltI ltS) (wVar 2) (wC (.int 6)))) (wRet (wBin addD (wLst (wCons (wVar 3) (wCons (wVar 4) wNil))) (wCall Ph_law_back (wCons (wLst (wCons (wVar 4) (wCons (wVar 3) wNil))) wNil)))) wNext)
  (wSeq (wIfS (wB (wBin (eqD false) (wVar 2) (wC (.int 6)))) (wRet (wCall Ph_law_knot (wCons (wCallL Ph_law_some (wCons (wVar 0) (wCons (wSl (wVar 1) wNoP (wP (wC (.int 4)))) (wCons (wC (.int 2)) wNil)))) wNil))) wNext)
  (wRet (wIf (wB (wBin (eqD false) (wVar 2) (wC (.int 7)))) (wBin addD (wLst (wCons (wVar 3) (wCons (wVar 4) wNil))) (wCall Ph_law_back (wCons (wLst (wCons (wVar 3) wNil)) wNil))) (wBin addD (wLst (wCons (wVar 3) wNil)) (wCall Ph_law_back (wCons (wLst (wCons (wVar 3) wNil)) wNil))))))))))
@[simp] theorem s_par3 (i j l : Nat) (wa : DTA) (E : DEnds) (ρ : Rho) (κ : Kap) : wPar3 i j l wa E ρ κ = wa ρ κ fun rs κ1 => match rs with
  | [q1, q2, q3] => E.nx (((ρ.set i (some q1)).set j (some q2)).set l (some q3)) κ1
  | _ => False := rfl
theorem eqD_ii (i j : Int) : eqD false (.int i) (.int j) = some (.v (.bool (decide (i = j)))) := by
  rw [eqD_of (by unfold SeqAt.shaped PyData.canLay0; simp [PyData.depth]) (by unfold SeqAt.shaped PyData.canLay0; simp [PyData.depth])]
  have e : PyData.eqv (.int i) (.int j) = decide (i = j) := by
    rw [PyData.eqv]
    by_cases q : i = j <;> simp [q]
  rw [e]
  rfl
theorem mulD_one {x : PyData} {n : Nat} (h : n ≤ 1000) : mulD (.list [x]) (.int (n : Int)) = some (.n (List.replicate n x)) := by
  unfold mulD
  simp only
  rw [if_pos ⟨by omega, by omega, by rw [sizeLine_eq]; simp; omega⟩, Int.toNat_natCast]
  have : (List.replicate n [x]).flatten = List.replicate n x := by
    induction n with
    | zero => rfl
    | succ n ih => rw [List.replicate_succ, List.flatten_cons, ih (by omega), List.replicate_succ]; rfl
  rw [this]
theorem cut_take {α : Type} (xs : List α) (m : Nat) : cut xs none (some (m : Int)) = xs.take m := by
  unfold cut
  rw [show HT.sIx xs.length xs.length (some (m : Int)) = min m xs.length from HT.sIx_nat _ _ m, HT.sIx_none, List.drop_zero, Nat.sub_zero]
  rcases Nat.le_total m xs.length with h | h
  · rw [Nat.min_eq_left h]
  · rw [Nat.min_eq_right h, List.take_of_length_le (Nat.le_refl _), List.take_of_length_le h]
theorem r_law_piece (bs : List PyData) (rs : List R) (Pd : R → List PyData → Prop) (h : Ph_law_piece bs rs Pd) (hl : rs.length = 1) : w_law_piece { nx := fun _ κ => endL κ (.d .none) Pd, rt := fun r κ => endL κ r Pd } (some (.c 0) :: (rs.map some ++ List.replicate 3 none)) [.l bs] := by
  obtain ⟨N, ns, hb, hN, rfl, h2, h3, hn, k⟩ := h
  clear hl
  unfold w_law_piece
  rw [s_seq, s_par3]
  simp only [s_consM, s_callL, s_cons, s_nil, s_c, s_var, List.map_cons, List.map_nil, List.cons_append, List.nil_append, List.getElem?_cons_zero, List.getElem?_cons_succ, st_c, st_d, lend_c, args_d, DL.args_nil, Opt_some]
  refine ⟨N, 9, hb, by omega, rfl, by decide, by decide, fun w bs1 w0 w1 hb1 => ?_⟩
  simp
  refine ⟨N + 1, ns, hb1, by omega, rfl, h2, h3, hn, fun g bs2 hg hb2 => ?_⟩
  simp
  refine ⟨N + 1 + 3, ns, hb2, by omega, rfl, h2, h3, hn, fun t bs3 ht hb3 => ?_⟩
  simp
  have bx : ∀ {M : Int} {b : List PyData}, Box M b → M ≤ N + 2000 → Box (N + 2000) b := fun h l => h.mono l
  have one : RowOf ns [g] := fun y hy => by rw [List.mem_singleton.mp hy]; exact hg
  have two : RowOf ns [g, t] := fun y hy => by
    rcases List.mem_cons.mp hy with rfl | hy
    · exact hg
    · rw [List.mem_singleton.mp hy]; exact ht
  have owt : RowOf ns [t, g] := fun y hy => by
    rcases List.mem_cons.mp hy with rfl | hy
    · exact ht
    · rw [List.mem_singleton.mp hy]; exact hg
  have hb4 : Box (N + 2000) bs3 := bx hb3 (by omega)
  by_cases c3 : w < 3
  · rw [if_pos (show ltI w 3 = true from decide_eq_true c3)]
    exact ⟨by rw [sizeLine_eq]; decide, (k [g] bs3 one (by simp) (by simp) hb4).1⟩
  rw [if_neg (show ¬ ltI w 3 = true from fun z => c3 (of_decide_eq_true z)), eqD_ii, Opt_some]
  simp only [out_v]
  by_cases e3 : w = 3
  · rw [if_pos (decide_eq_true e3)]
    refine ⟨by rw [sizeLine_eq]; decide, N + 1 + 3 + 3, 2, hb3, by omega, rfl, by decide, by decide, fun z bs4 z0 z1 hb5 => ?_⟩
    obtain ⟨q, hq⟩ : ∃ q : Nat, 2 + z = (q : Int) := ⟨(2 + z).toNat, by omega⟩
    simp only [lab_d, st_d, val_d, Opt_some, addD_int, out_v, hq]
    rw [mulD_one (n := q) (by omega)]
    simp only [Opt_some, out_n, endL_f]
    have e : List.replicate q (hookD g) = (List.replicate q g).map hookD := by rw [List.map_replicate]
    rw [e]
    exact (k _ bs4 (fun y hy => by rw [List.eq_of_mem_replicate hy]; exact hg) (by rw [List.length_replicate]; omega) (by rw [List.length_replicate]; omega) (bx hb5 (by omega))).1
  rw [if_neg (by simpa using e3)]
  by_cases c6 : w < 6
  · rw [if_pos (show ltI w 6 = true from decide_eq_true c6)]
    refine ⟨by rw [sizeLine_eq]; decide, [t, g], rfl, by rw [sizeLine_eq]; show 2 ≤ 16777216; decide, ?_⟩
    simp only [st_f, val_d, Opt_some]
    have e : addD (.list [hookD g, hookD t]) (.list ((back [t, g]).map hookD)) = some (.n (([g, t] ++ back [t, g]).map hookD)) := by
      rw [addD_list (by simp [back_len, sizeLine_eq])]; simp
    rw [e]
    simp only [Opt_some, out_n, endL_f]
    exact (k _ bs3 (two.app owt.back) (by simp) (by simp [back_len]) hb4).1
  rw [if_neg (show ¬ ltI w 6 = true from fun z => c6 (of_decide_eq_true z)), eqD_ii, Opt_some]
  simp only [out_v]
  by_cases e6 : w = 6
  · rw [if_pos (decide_eq_true e6), show ((4 : Int)) = ((4 : Nat) : Int) from rfl, cut_take, ← List.map_take]
    have hn4 : Names (ns.take 4) := ⟨fun z hz => hn.1 z (List.mem_of_mem_take hz), hn.2.sublist (List.take_sublist _ _)⟩
    have l4 : (ns.take 4).length = min 4 ns.length := List.length_take
    refine ⟨N + 1 + 3 + 3, ns.take 4, 2, hb3, by omega, rfl, by omega, by omega, hn4, fun ms bs4 hm m1 m2 sub hb5 => ?_⟩
    simp only [lab_f, st_f, args_d, DL.args_nil, Opt_some]
    obtain ⟨a, b, ms', rfl⟩ : ∃ a b ms', ms = a :: b :: ms' := by
      match ms, m1 with
      | a :: b :: ms', _ => exact ⟨a, b, ms', rfl⟩
    simp only [List.length_cons] at m1 m2
    refine ⟨a, b, ms', _, rfl, .inr rfl, by omega, ?_⟩
    have kl : (knot (a :: b :: ms')).length + 2 = 3 * 2 ^ ms'.length := knotL_len ms' _ b
    have pw := Nat.pow_le_pow_right (n := 2) (by decide) (show ms'.length ≤ 2 by omega)
    have p1 : 1 ≤ 2 ^ ms'.length := Nat.one_le_two_pow
    exact (k _ bs4 ((knot_of hm).mono fun z hz => List.mem_of_mem_take (sub z hz)) (by omega) (by omega) (bx hb5 (by omega))).2
  rw [if_neg (by simpa using e6), eqD_ii, Opt_some]
  simp only [out_v]
  by_cases e7 : w = 7
  · rw [if_pos (decide_eq_true e7)]
    refine ⟨by rw [sizeLine_eq]; decide, by rw [sizeLine_eq]; decide, [g], rfl, by rw [sizeLine_eq]; show 1 ≤ 16777216; decide, ?_⟩
    simp only [st_f, val_d, Opt_some]
    have e : addD (.list [hookD g, hookD t]) (.list ((back [g]).map hookD)) = some (.n (([g, t] ++ back [g]).map hookD)) := by
      rw [addD_list (by simp [back_len, sizeLine_eq])]; simp
    rw [e]
    simp only [Opt_some, out_n, endL_f]
    exact (k _ bs3 (two.app one.back) (by simp) (by simp [back_len]) hb4).1
  rw [if_neg (by simpa using e7)]
  refine ⟨by rw [sizeLine_eq]; decide, [g], rfl, by rw [sizeLine_eq]; show 1 ≤ 16777216; decide, ?_⟩
  simp only [st_f, val_d, Opt_some]
  have e : addD (.list [hookD g]) (.list ((back [g]).map hookD)) = some (.n (([g] ++ back [g]).map hookD)) := by
    rw [addD_list (by simp [back_len, sizeLine_eq])]; simp
  rw [e]
  simp only [Opt_some, out_n, endL_f]
  exact (k _ bs3 (one.app one.back) (by simp) (by simp [back_len]) hb4).1
end SH
namespace SH
open PySem PySem.Spec PyProof.Rows L2 DL
theorem lay_hook {h : Hook} (a : IsName h.1) (b : IsName h.2.1) : PyData.canLay0 (hookD h) = true ∧ (hookD h).depth = 1 := by
  have s1 := a.shaped
  have s2 := b.shaped
  unfold SeqAt.shaped at s1 s2
  rw [Bool.and_eq_true] at s1 s2
  have q1 := s1.1
  have q2 := s2.1
  simp [PyData.canLay0] at q1 q2
  exact ⟨by simp [hookD, PyData.canLay0, PyData.canLayAll0, q1, q2], by simp [hookD, PyData.depth, PyData.depthAll]⟩
theorem shaped_row {ns : List Str} (hn : Names ns) {r : Row} (h : RowOf ns r) : SeqAt.shaped (.list (r.map hookD)) = true := by
  have a1 : PyData.canLayAll0 (r.map hookD) = true ∧ PyData.depthAll (r.map hookD) ≤ 1 := by
    induction r with
    | nil => exact ⟨by simp [PyData.canLayAll0], by simp [PyData.depthAll]⟩
    | cons z r ih =>
      obtain ⟨h1, h2⟩ := ih fun y hy => h y (List.mem_cons_of_mem _ hy)
      have hz := h z (List.mem_cons_self ..)
      obtain ⟨l1, l2⟩ := lay_hook (hn.1 _ hz.1) (hn.1 _ hz.2.1)
      rw [List.map_cons]
      refine ⟨by rw [PyData.canLayAll0, l1, h1]; rfl, ?_⟩
      rw [PyData.depthAll, l2]
      omega
  unfold SeqAt.shaped PyData.canLay0
  rw [Bool.and_eq_true]
  refine ⟨a1.1, ?_⟩
  rw [PyData.depth]
  exact decide_eq_true (by omega)
theorem eqD_row0 {ns : List Str} (hn : Names ns) {r : Row} (h : RowOf ns r) : eqD true (.list (r.map hookD)) (.list []) = some (.v (.bool (!r.isEmpty))) := by
  rw [eqD_of (shaped_row hn h) (by unfold SeqAt.shaped PyData.canLay0; simp [PyData.canLayAll0, PyData.depth, PyData.depthAll])]
  cases r <;> simp [PyData.eqv, PyData.eqvAll]
theorem cut_map {α β : Type} (f : α → β) (xs : List α) (lo hi : Option Int) : cut (xs.map f) lo hi = (cut xs lo hi).map f := by
  unfold cut
  rw [List.length_map, List.map_take, List.map_drop]
theorem cut_sub {α : Type} (xs : List α) (lo hi : Option Int) : (∀ y ∈ cut xs lo hi, y ∈ xs) ∧ (cut xs lo hi).length ≤ xs.length := by
  unfold cut
  refine ⟨fun y hy => List.mem_of_mem_drop (List.mem_of_mem_take hy), ?_⟩
  rw [List.length_take, List.length_drop]
  omega
def Ph_law_row (bs : List PyData) (rs : List R) (P : R → List PyData → Prop) : Prop := ∃ (N : Int) (ns : List Str) (room : Nat), Box N bs ∧ N ≤ 2 ^ 37 ∧ rs = [.d (.list (ns.map .str)), .d (.int room)] ∧ 2 ≤ ns.length ∧ ns.length ≤ 1000 ∧ Names ns ∧ room ≤ 1000 ∧
  ∀ (r : Row) (bs' : List PyData), RowOf ns r → r.length ≤ room → Box (N + 20000) bs' → P (.d (.list (r.map hookD))) bs'
def wb_row : DTS := (wSeq (wSet false 5 (wCallL Ph_law_piece (wCons (wVar 0) (wCons (wVar 1) wNil))))
  (wSeq (wIfS (wAnd (wB (wBin (eqD true) (wVar 3) (wLst wNil))) (wB (wBin (eqD false) (wCallL Ph_law_take (wCons (wVar 0) (wCons (wC (.int 4)) wNil))) (wC (.int 0))))) (wSeq (wSet false 6 (wCallL Ph_law_take (wCons (wVar 0) (wCons (wCB lenD (wCons (wVar 3) wNil)) wNil))))
  (wSet false 5 (wCall Ph_law_back (wCons (wSl (wVar 3) (wP (wVar 6)) (wP (wBin addD (wBin addD (wVar 6) (wC (.int 1))) (wCallL Ph_law_take (wCons (wVar 0) (wCons (wC (.int 6)) wNil)))))) wNil)))) wNext)
  (wIfS (wB (wBin (ciD leI) (wBin addD (wCB lenD (wCons (wVar 3) wNil)) (wCB lenD (wCons (wVar 5) wNil))) (wVar 2))) (wSet false 3 (wBin addD (wVar 3) (wVar 5))) wNext)))
/-- _law_row -/
def w_law_row : DTS := (wSeq (wSet false 3 (wLst wNil))
  (wSeq (wFor (wRng1 (wCons (wBin addD (wC (.int 1)) (wCallL Ph_law_take (wCons (wVar 0) (wCons (wC (.int 8)) wNil)))) wNil)) (wName 4) wb_row)
  (wRet (wVar 3))))
theorem row_body {E : DEnds} {N : Int} {ns : List Str} {room : Nat} {bs : List PyData} {f : Row} {p4 p5 p6 : Option R} (hb : Box N bs) (hN : N ≤ 2 ^ 38 - 1) (h2 : 2 ≤ ns.length) (h3 : ns.length ≤ 1000) (hn : Names ns) (hr : room ≤ 1000) (hf : RowOf ns f) (fl : f.length ≤ room)
    (k : ∀ f' bs' p5 p6, RowOf ns f' → f'.length ≤ room → Box (N + 2003) bs' → E.nx [some (.c 0), some (.d (.list (ns.map .str))), some (.d (.int room)), some (.d (.list (f'.map hookD))), p4, p5, p6] [.l bs']) :
    wb_row E [some (.c 0), some (.d (.list (ns.map .str))), some (.d (.int room)), some (.d (.list (f.map hookD))), p4, p5, p6] [.l bs] := by
  have fin : ∀ (q : Row) (bs' : List PyData) (p6 : Option R), RowOf ns q → q.length ≤ 1000 → Box (N + 2003) bs' →
      wIfS (wB (wBin (ciD leI) (wBin addD (wCB lenD (wCons (wVar 3) wNil)) (wCB lenD (wCons (wVar 5) wNil))) (wVar 2))) (wSet false 3 (wBin addD (wVar 3) (wVar 5))) wNext E [some (.c 0), some (.d (.list (ns.map .str))), some (.d (.int room)), some (.d (.list (f.map hookD))), p4, some (.d (.list (q.map hookD))), p6] [.l bs'] := fun q bs' p6 hq lq hb' => by
    have ea : addD (.list (f.map hookD)) (.list (q.map hookD)) = some (.n ((f ++ q).map hookD)) := by
      rw [addD_list (by rw [List.length_map, List.length_map, sizeLine_eq]; omega)]; simp
    by_cases c : f.length + q.length ≤ room
    · have d : leI ((f.length : Int) + (q.length : Int)) (room : Int) = true := decide_eq_true (by omega)
      simp [d, ea]
      rw [← List.map_append]
      exact k _ bs' _ _ (hf.app hq) (by rw [List.length_append]; exact c) hb'
    · have d : leI ((f.length : Int) + (q.length : Int)) (room : Int) = false := decide_eq_false (by omega)
      simp [d]
      exact k _ bs' _ _ hf fl hb'
  unfold wb_row
  rw [s_seq, s_set]
  simp only [s_callL, s_cons, s_nil, s_var, List.getElem?_cons_zero, List.getElem?_cons_succ, st_c, st_d, lend_c, args_d, DL.args_nil, Opt_some]
  refine ⟨N, ns, hb, by omega, rfl, h2, h3, hn, fun q bs1 hq q1 q2 hb1 => ?_⟩
  have e0 := eqD_row0 hn hf
  have main : wSeq (wIfS (wAnd (wB (wBin (eqD true) (wVar 3) (wLst wNil))) (wB (wBin (eqD false) (wCallL Ph_law_take (wCons (wVar 0) (wCons (wC (.int 4)) wNil))) (wC (.int 0))))) (wSeq (wSet false 6 (wCallL Ph_law_take (wCons (wVar 0) (wCons (wCB lenD (wCons (wVar 3) wNil)) wNil))))
      (wSet false 5 (wCall Ph_law_back (wCons (wSl (wVar 3) (wP (wVar 6)) (wP (wBin addD (wBin addD (wVar 6) (wC (.int 1))) (wCallL Ph_law_take (wCons (wVar 0) (wCons (wC (.int 6)) wNil)))))) wNil)))) wNext)
      (wIfS (wB (wBin (ciD leI) (wBin addD (wCB lenD (wCons (wVar 3) wNil)) (wCB lenD (wCons (wVar 5) wNil))) (wVar 2))) (wSet false 3 (wBin addD (wVar 3) (wVar 5))) wNext) E
      [some (.c 0), some (.d (.list (ns.map .str))), some (.d (.int room)), some (.d (.list (f.map hookD))), p4, some (.d (.list (q.map hookD))), p6] [.l bs1] := by
    rw [s_seq]
    generalize hC : wIfS (wB (wBin (ciD leI) (wBin addD (wCB lenD (wCons (wVar 3) wNil)) (wCB lenD (wCons (wVar 5) wNil))) (wVar 2))) (wSet false 3 (wBin addD (wVar 3) (wVar 5))) wNext = C at fin
    cases hem : f.isEmpty with
    | true =>
      rw [hem] at e0
      simp [e0]
      exact fin q bs1 _ hq (by omega) (hb1.mono (by omega))
    | false =>
      rw [hem] at e0
      simp [e0]
      refine ⟨N + 2000, 4, hb1, by omega, rfl, by decide, by decide, fun z bs2 z0 z1 hb2 => ?_⟩
      simp [eqD_ii]
      have fpos : 0 < f.length := by
        cases f with
        | nil => simp at hem
        | cons x r => simp
      by_cases cz : z = 0
      · rw [if_pos cz]
        refine ⟨N + 2000 + 1, f.length, hb2, by omega, rfl, by omega, by omega, fun a bs3 a0 a1 hb3 => ?_⟩
        simp
        refine ⟨N + 2000 + 1 + 1, 6, hb3, by omega, rfl, by decide, by decide, fun u bs4 u0 u1 hb4 => ?_⟩
        simp
        rw [cut_map]
        obtain ⟨cs1, cs2⟩ := cut_sub f (some a) (some (a + 1 + u))
        generalize cut f (some a) (some (a + 1 + u)) = g at cs1 cs2
        refine ⟨g, rfl, by rw [sizeLine_eq]; omega, ?_⟩
        have hg : RowOf ns g := fun y hy => hf y (cs1 y hy)
        exact fin (back g) bs4 _ hg.back (by rw [back_len]; omega) (hb4.mono (by omega))
      · rw [if_neg cz]
        exact fin q bs2 _ hq (by omega) (hb2.mono (by omega))
  exact ⟨main, main⟩
theorem row_loop {E : DEnds} {ns : List Str} {room : Nat} (h2 : 2 ≤ ns.length) (h3 : ns.length ≤ 1000) (hn : Names ns) (hr : room ≤ 1000) : ∀ (xs : List PyData) (N : Int) (bs : List PyData) (f : Row) (p4 p5 p6 : Option R), Box N bs → N + 2003 * (xs.length : Int) ≤ 2 ^ 38 - 1 → RowOf ns f → f.length ≤ room →
    (∀ (f' : Row) (bs' : List PyData) (p4 p5 p6 : Option R), RowOf ns f' → f'.length ≤ room → Box (N + 2003 * (xs.length : Int)) bs' → E.nx [some (.c 0), some (.d (.list (ns.map .str))), some (.d (.int room)), some (.d (.list (f'.map hookD))), p4, p5, p6] [.l bs']) →
    forL (fun _ => True) (wName 4) wb_row E xs [some (.c 0), some (.d (.list (ns.map .str))), some (.d (.int room)), some (.d (.list (f.map hookD))), p4, p5, p6] [.l bs]
  | [], N, bs, f, p4, p5, p6, hb, _, hf, fl, k => by
    rw [forL_nil]
    exact k f bs p4 p5 p6 hf fl (by simpa using hb)
  | x :: xs, N, bs, f, p4, p5, p6, hb, hN, hf, fl, k => by
    rw [forL_cons]
    simp only [List.length_cons] at hN k
    refine row_body (p4 := some (.d x)) hb (by omega) h2 h3 hn hr hf fl fun f' bs' p5 p6 hf' fl' hb' => ⟨trivial, ?_⟩
    exact row_loop h2 h3 hn hr xs (N + 2003) bs' f' _ _ _ hb' (by omega) hf' fl' fun f2 bs2 p4 p5 p6 g1 g2 g3 => k f2 bs2 p4 p5 p6 g1 g2 (g3.mono (by omega))
theorem r_law_row (bs : List PyData) (rs : List R) (Pd : R → List PyData → Prop) (h : Ph_law_row bs rs Pd) (hl : rs.length = 2) : w_law_row { nx := fun _ κ => endL κ (.d .none) Pd, rt := fun r κ => endL κ r Pd } (some (.c 0) :: (rs.map some ++ List.replicate 4 none)) [.l bs] := by
  obtain ⟨N, ns, room, hb, hN, rfl, h2, h3, hn, hr, k⟩ := h
  clear hl
  simp [w_law_row, sizeLine_eq]
  refine ⟨N, 8, hb, by omega, rfl, by decide, by decide, fun z bs1 z0 z1 hb1 => ?_⟩
  simp
  refine ⟨by omega, by omega, ?_⟩
  have e0 : ([] : List PyData) = (([] : Row).map hookD) := rfl
  rw [e0]
  refine row_loop h2 h3 hn hr _ (N + 1) bs1 [] _ _ _ hb1 (by simp; omega) (fun y hy => nomatch hy) (Nat.zero_le _) fun f' bs' p4 p5 p6 g1 g2 g3 => ?_
  simp
  exact k f' bs' g1 g2 (g3.mono (by simp; omega))
end SH
namespace DL
open PySem PySem.Spec PyProof.Rows L2
section
variable {prog : Program} {w : World} {A : Around} {E : Value → Shared → Prop} {s : Shared}
end
section
variable {X : Cx}
end
end DL
namespace DL
open PySem PySem.Spec PyProof.Rows L2
section
variable {X : Cx} {o i e : Expr} {wo wi we : DTE} {pos tpos : Pos}
end
end DL
namespace SH
open PySem PySem.Spec PyProof.Rows L2 DL
end SH
namespace SH
open PySem PySem.Spec PyProof.Rows L2 DL
/-- the hooks of a row with their places -/
def enR : Nat → Row → KR
  | _, [] => []
  | i, h :: hs => (i, h) :: enR (i + 1) hs
def ltN (a b : Str) : Prop := a.cps.toList < b.cps.toList
instance (a b : Str) : Decidable (ltN a b) := inferInstanceAs (Decidable (a.cps.toList < b.cps.toList))
def ltH (g h : Hook) : Prop := ltN g.1 h.1 ∨ (¬ ltN h.1 g.1 ∧ (ltN g.2.1 h.2.1 ∨ (¬ ltN h.2.1 g.2.1 ∧ g.2.2 < h.2.2)))
instance (g h : Hook) : Decidable (ltH g h) := by unfold ltH; infer_instance
theorem lex_i (i j : Int) (r t : List (Int ⊕ List Nat)) : PyProof.Rows.lexLt PyProof.Rows.itemOrd (Sum.inl i :: r) (Sum.inl j :: t) = (decide (i < j) || (!decide (j < i) && PyProof.Rows.lexLt PyProof.Rows.itemOrd r t)) := rfl
theorem lex_s (i j : List Nat) (r t : List (Int ⊕ List Nat)) : PyProof.Rows.lexLt PyProof.Rows.itemOrd (Sum.inr i :: r) (Sum.inr j :: t) = (decide (i < j) || (!decide (j < i) && PyProof.Rows.lexLt PyProof.Rows.itemOrd r t)) := rfl
theorem dataLt_hook (g h : Hook) : PySem.W.dataLt (hookD g) (hookD h) = decide (ltH g h) := by
  obtain ⟨a, b, c⟩ := g
  obtain ⟨a', b', c'⟩ := h
  unfold PySem.W.dataLt hookD
  simp only [PySem.W.keyToks, PySem.W.keyToksAll, List.nil_append, List.cons_append]
  rw [lex_i, lex_s, lex_i, lex_s, lex_i, lex_i, lex_i]
  unfold ltH ltN
  by_cases h1 : a.cps.toList < a'.cps.toList <;> by_cases h2 : a'.cps.toList < a.cps.toList <;> by_cases h3 : b.cps.toList < b'.cps.toList <;> by_cases h4 : b'.cps.toList < b.cps.toList <;> by_cases h5 : c < c' <;> simp [h1, h2, h3, h4, h5, PyProof.Rows.lexLt]
def minH (x : Hook) (xs : Row) : Hook := xs.foldl (fun a y => if ltH y a then y else a) x
abbrev tkH (g : Hook) : List (Int ⊕ List Nat) := PySem.W.keyToks (hookD g)
theorem ltH_iff (g h : Hook) : ltH g h ↔ PyProof.Rows.lexLt PyProof.Rows.itemOrd (tkH g) (tkH h) = true := by
  have e := dataLt_hook g h
  unfold PySem.W.dataLt at e
  rw [show PyProof.Rows.lexLt PyProof.Rows.itemOrd (tkH g) (tkH h) = decide (ltH g h) from e]
  exact decide_eq_true_iff.symm
theorem ltH_false (g h : Hook) : ¬ ltH g h ↔ PyProof.Rows.lexLt PyProof.Rows.itemOrd (tkH g) (tkH h) = false := by
  rw [ltH_iff, Bool.not_eq_true]
theorem tkH_inj {g h : Hook} (e : tkH g = tkH h) : g = h := by
  obtain ⟨a, b, c⟩ := g
  obtain ⟨a', b', c'⟩ := h
  unfold tkH hookD at e
  simp only [PySem.W.keyToks, PySem.W.keyToksAll, List.nil_append, List.cons_append] at e
  injection e with _ e
  injection e with e1 e
  injection e with _ e
  injection e with e2 e
  injection e with _ e
  injection e with e3 e
  have q1 := PySem.W.str_of_cps (Sum.inr.inj e1)
  have q2 := PySem.W.str_of_cps (Sum.inr.inj e2)
  have q3 : c = c' := Sum.inl.inj e3
  rw [q1, q2, q3]
theorem ltH_irrefl (g : Hook) : ¬ ltH g g := (ltH_false g g).mpr (PyProof.Rows.lex_irrefl _)
theorem ltH_neg {a c : Hook} (b : Hook) (h : ltH a c) : ltH a b ∨ ltH b c := by
  rw [ltH_iff, ltH_iff]
  exact PyProof.Rows.lex_negTrans _ (tkH b) _ ((ltH_iff _ _).mp h)
theorem ltH_total {a b : Hook} (h : ¬ ltH a b) (h' : ¬ ltH b a) : a = b := tkH_inj (PyProof.Rows.lex_total _ _ ((ltH_false _ _).mp h) ((ltH_false _ _).mp h'))
theorem ltH_asymm {a b : Hook} (h : ltH a b) : ¬ ltH b a := fun h' => ltH_irrefl a ((ltH_iff _ _).mpr (PyProof.Rows.lex_trans _ _ _ ((ltH_iff _ _).mp h) ((ltH_iff _ _).mp h')))
theorem leH_trans {a b c : Hook} (h : ¬ ltH b a) (h' : ¬ ltH c b) : ¬ ltH c a := fun w => by
  rcases ltH_neg b w with q | q
  · exact h' q
  · exact h q
theorem minH_spec : ∀ (xs : Row) (x : Hook), minH x xs ∈ x :: xs ∧ ∀ y ∈ x :: xs, ¬ ltH y (minH x xs)
  | [], x => ⟨List.mem_cons_self .., fun y hy => by rw [List.mem_singleton.mp hy]; exact ltH_irrefl x⟩
  | z :: zs, x => by
    have e : minH x (z :: zs) = minH (if ltH z x then z else x) zs := rfl
    obtain ⟨h1, h2⟩ := minH_spec zs (if ltH z x then z else x)
    rw [e]
    by_cases q : ltH z x
    · rw [if_pos q] at h1 h2 ⊢
      refine ⟨List.mem_cons_of_mem _ h1, fun y hy => ?_⟩
      rcases List.mem_cons.mp hy with rfl | hy
      · exact leH_trans (h2 z (List.mem_cons_self ..)) (ltH_asymm q)
      · exact h2 y hy
    · rw [if_neg q] at h1 h2 ⊢
      refine ⟨?_, fun y hy => ?_⟩
      · rcases List.mem_cons.mp h1 with h1 | h1
        · rw [h1]; exact List.mem_cons_self ..
        · exact List.mem_cons_of_mem _ (List.mem_cons_of_mem _ h1)
      · rcases List.mem_cons.mp hy with rfl | hy
        · exact h2 y (List.mem_cons_self ..)
        rcases List.mem_cons.mp hy with rfl | hy
        · exact leH_trans (h2 x (List.mem_cons_self ..)) q
        · exact h2 y (List.mem_cons_of_mem _ hy)
/-- what stands first on both its ropes -/
def avail (K : KR) : KR := K.filter fun p => decide ((posOf p.2.1 K).head? = some p.1) && decide ((posOf p.2.2.1 K).head? = some p.1)
def firstG : Nat → KR → Row
  | 0, _ => []
  | n + 1, K => match (avail K).map (·.2) with
    | [] => []
    | x :: xs => minH x xs :: firstG n (K.filter fun e => decide (some e.1 ≠ (posOf (minH x xs).1 K).head?))
def firstF (row : Row) : Row := firstG row.length (enR 0 row)
theorem enR_len : ∀ (i : Nat) (row : Row), (enR i row).length = row.length
  | _, [] => rfl
  | i, _ :: hs => congrArg (· + 1) (enR_len (i + 1) hs)
theorem enR_get : ∀ (row : Row) (i p : Nat) (h : Hook), (p, h) ∈ enR i row → i ≤ p ∧ row[p - i]? = some h
  | [], _, _, _, q => by cases q
  | g :: gs, i, p, h, q => by
    rcases List.mem_cons.mp q with q | q
    · cases q
      exact ⟨Nat.le_refl _, by rw [Nat.sub_self]; rfl⟩
    · obtain ⟨h1, h2⟩ := enR_get gs (i + 1) p h q
      refine ⟨by omega, ?_⟩
      rw [show p - i = (p - (i + 1)) + 1 by omega]
      exact h2
theorem enR_nd : ∀ (row : Row) (i : Nat), ((enR i row).map (·.1)).Nodup
  | [], _ => List.nodup_nil
  | g :: gs, i => by
    show (i :: (enR (i + 1) gs).map (·.1)).Nodup
    rw [List.nodup_cons]
    refine ⟨fun h => ?_, enR_nd gs (i + 1)⟩
    obtain ⟨e, he, q⟩ := List.mem_map.mp h
    obtain ⟨h1, _⟩ := enR_get gs (i + 1) e.1 e.2 he
    omega
/-- what is left of the row's hooks -/
structure KSt (row : Row) (K : KR) : Prop where
  sub : K.Sublist (enR 0 row)
  suf : ∀ r, ∃ t, posOf r (enR 0 row) = t ++ posOf r K
theorem KSt.nd {row : Row} {K : KR} (h : KSt row K) : (K.map (·.1)).Nodup := (enR_nd row 0).sublist (h.sub.map _)
theorem KSt.get {row : Row} {K : KR} {p : Nat} {h : Hook} (s : KSt row K) (m : (p, h) ∈ K) : row[p]? = some h := by
  have := (enR_get row 0 p h (s.sub.subset m)).2
  rwa [Nat.sub_zero] at this
theorem avail_mem {K : KR} {p : Nat} {h : Hook} : (p, h) ∈ avail K ↔ (p, h) ∈ K ∧ (posOf h.1 K).head? = some p ∧ (posOf h.2.1 K).head? = some p := by
  unfold avail
  rw [List.mem_filter, Bool.and_eq_true, decide_eq_true_iff, decide_eq_true_iff]
theorem touches_iff {r : Str} {h : Hook} : touches r h = true ↔ h.1 = r ∨ h.2.1 = r := by
  unfold touches
  rw [Bool.or_eq_true, decide_eq_true_iff, decide_eq_true_iff]
theorem posOf_cons (r : Str) (p : Nat) (h : Hook) (K : KR) : posOf r ((p, h) :: K) = if touches r h = true then p :: posOf r K else posOf r K := by
  unfold posOf
  by_cases q : touches r h = true
  · rw [if_pos q, List.filter_cons_of_pos (by exact q)]; rfl
  · rw [if_neg q, List.filter_cons_of_neg (by exact q)]
theorem avail_ne {p : Nat} {h : Hook} {K : KR} : (p, h) ∈ avail ((p, h) :: K) := by
  rw [avail_mem, posOf_cons, posOf_cons, if_pos (touches_iff.mpr (.inl rfl)), if_pos (touches_iff.mpr (.inr rfl))]
  exact ⟨List.mem_cons_self .., rfl, rfl⟩
theorem filter_head {l : List Nat} {p : Nat} (nd : l.Nodup) (e : l.head? = some p) : l.filter (fun i => decide (i ≠ p)) = l.tail := by
  cases l with
  | nil => cases e
  | cons x xs =>
    cases e
    rw [List.nodup_cons] at nd
    rw [List.filter_cons_of_neg (by simp), List.tail_cons, List.filter_eq_self]
    intro a ha
    exact decide_eq_true fun z => nd.1 (z ▸ ha)
/-- the hook at p is taken -/
theorem KSt.take {row : Row} {K : KR} {p : Nat} {m : Hook} (s : KSt row K) (h : (p, m) ∈ avail K) : KSt row (K.filter fun e => decide (e.1 ≠ p)) ∧
    (∀ r, posOf r (K.filter fun e => decide (e.1 ≠ p)) = if touches r m = true then (posOf r K).tail else posOf r K) ∧ (∀ r, touches r m = true → (posOf r K).head? = some p) ∧ (K.filter fun e => decide (e.1 ≠ p)).length + 1 = K.length := by
  obtain ⟨h1, h2, h3⟩ := avail_mem.mp h
  have hd : ∀ r, touches r m = true → (posOf r K).head? = some p := fun r t => by
    rcases touches_iff.mp t with rfl | rfl
    · exact h2
    · exact h3
  have po : ∀ r, posOf r (K.filter fun e => decide (e.1 ≠ p)) = if touches r m = true then (posOf r K).tail else posOf r K := fun r => by
    rw [posOf_drop]
    by_cases t : touches r m = true
    · rw [if_pos t, filter_head (posOf_nd s.nd) (hd r t)]
    · rw [if_neg t, List.filter_eq_self]
      intro a ha
      refine decide_eq_true fun z => ?_
      subst z
      obtain ⟨g, hg, tg⟩ := posOf_mem ha
      have e1 := s.get hg
      have e2 := s.get h1
      rw [e1] at e2
      cases e2
      exact t tg
  refine ⟨⟨List.filter_sublist.trans s.sub, fun r => ?_⟩, po, hd, ?_⟩
  · obtain ⟨t, et⟩ := s.suf r
    rw [po r]
    by_cases q : touches r m = true
    · rw [if_pos q]
      have hh := hd r q
      cases e : posOf r K with
      | nil => rw [e] at hh; cases hh
      | cons x xs => exact ⟨t ++ [x], by rw [et, e]; simp⟩
    · rw [if_neg q]; exact ⟨t, et⟩
  · have nd := s.nd
    clear po hd h h2 h3 s
    induction K with
    | nil => cases h1
    | cons x xs ih =>
      have nd : (x.1 :: xs.map (·.1)).Nodup := nd
      rw [List.nodup_cons] at nd
      rcases List.mem_cons.mp h1 with rfl | h1
      · rw [List.filter_cons_of_neg (by simp)]
        have : xs.filter (fun e => decide (e.1 ≠ p)) = xs := by
          rw [List.filter_eq_self]
          intro a ha
          exact decide_eq_true fun z => nd.1 (List.mem_map.mpr ⟨a, ha, z⟩)
        rw [this]
        rfl
      · have ne : x.1 ≠ p := fun z => nd.1 (List.mem_map.mpr ⟨(p, m), h1, z.symm⟩)
        rw [List.filter_cons_of_pos (by simpa using ne), List.length_cons, List.length_cons, ih h1 nd.2]
def gK (row : Row) (K : KR) (r : Str) : Nat := (posOf r (enR 0 row)).length - (posOf r K).length
theorem KSt.drop {row : Row} {K : KR} (s : KSt row K) (r : Str) : (posOf r (enR 0 row)).drop (gK row K r) = posOf r K ∧ gK row K r + (posOf r K).length = (posOf r (enR 0 row)).length := by
  obtain ⟨t, et⟩ := s.suf r
  unfold gK
  rw [et, List.length_append, Nat.add_sub_cancel]
  exact ⟨List.drop_left .., rfl⟩
end SH
namespace SH
open PySem PySem.Spec PyProof.Rows L2 DL
end SH
namespace DL
open PySem PySem.Spec PyProof.Rows L2
section
variable {X : Cx} {elt tg iter tg1 iter1 : Expr} {ifs ifs1 : List Expr} {scope : Scope} {own : List (Str × Nat)} {pos : Pos} {wi wi1 : DTI} {g g1 : DTG} {wt wt1 : DTT} {we : DTE} {js js1 : List Nat}
end
end DL
namespace DL
open PySem PySem.Spec PyProof.Rows L2
def kOf (e : Int × Value) : Key := match e.2 with
  | .int i _ => .inl i
  | .str z _ => .inr z
  | _ => .inl 0
def OkE (w : World) (e : Int × Value) : Prop := ∃ k, keyIs k e.2 = true ∧ e.1 = keyH w k
/-- the set at a holds the keys ks, and it can be walked -/
def SetM (w : World) (h : Heap) (a : Addr) (S : Key → Bool) (n : Nat) : Prop :=
  ∃ o es ep t, h.get? a = some o ∧ o.ExactSet ∧ o.data = .set es ep t ∧ (∀ e ∈ es.toList, OkE w e) ∧ (es.toList.map kOf).Nodup ∧ (∀ k, S k = true ↔ k ∈ es.toList.map kOf) ∧
    (es.size < scanBound ∧ t.fits es.size = true) ∧ es.size = n ∧ Ris t.place.toList ∧ (w.params.followText "set-order" = true ∨ t.led = true)
section
variable {P : Program} {w : World} {h h' : Heap} {a : Addr} {S : Key → Bool} {n : Nat}
theorem SetM.keep (R : SetM w h a S n) (k : ∀ o, h.get? a = some o → h'.get? a = some o) : SetM w h' a S n := by
  obtain ⟨o, es, ep, t, ho, r⟩ := R
  exact ⟨o, es, ep, t, k o ho, r⟩
end
section
variable {P : Program} {w : World} {A : Around} {E : Value → Shared → Prop} {s : Shared} {a : Addr} {S : Key → Bool} {n : Nat}
end
end DL
namespace DL
open PySem PySem.Spec PyProof.Rows L2
section
variable {P : Program} {w : World} {A : Around} {E : Value → Shared → Prop} {s : Shared}
def inK (ks : List Key) (k : Key) : Bool := ks.any fun x => decide (x = k)
theorem inK_iff {ks : List Key} {k : Key} : inK ks k = true ↔ k ∈ ks := by
  unfold inK
  rw [List.any_eq_true]
  exact ⟨fun ⟨x, hx, q⟩ => (of_decide_eq_true q) ▸ hx, fun h => ⟨k, h, decide_eq_true rfl⟩⟩
def leK (a b : Key) : Bool := !PySem.W.dataLt (keyP b) (keyP a)
end
end DL
namespace DL
open PySem PySem.Spec PyProof.Rows L2
section
variable {X : Cx} {elt : Expr} {gs : List Comprehension} {scope : Scope} {cpos p : Pos} {tg : Expr} {ifs : List Expr} {k : Nat} {acc : Value} {body : Sem PySem.Fin} {g : TG} {tt : TT}
end
section
variable {X : Cx} {pins : List (Addr × Obj)} {σ : L2.St} {H : Hp} {s : Shared}
end
section
variable {prog : Program} {w : World} {A : Around} {R : Result → Shared → Prop} {s : Shared}
end
section
variable {X : Cx} {elt tg iter tg1 iter1 : Expr} {ifs ifs1 : List Expr} {scope : Scope} {own : List (Str × Nat)} {vs1 : List Nat} {cpos : Pos} {wi wi1 : TI} {g g1 : TG} {tt tt1 : TT} {te : TE}
end
end DL
namespace DL
open PySem PySem.Spec PyProof.Rows L2
abbrev tkK (k : Key) : List (Int ⊕ List Nat) := PySem.W.keyToks (keyP k)
theorem leK_eq (a b : Key) : leK a b = !PyProof.Rows.lexLt PyProof.Rows.itemOrd (tkK b) (tkK a) := rfl
theorem tkK_inj {a b : Key} (e : tkK a = tkK b) : a = b := by
  cases a <;> cases b <;> simp only [tkK, keyP, PySem.W.keyToks] at e
  · injection e with e _
    cases e
    rfl
  · injection e with e _
    cases e
  · injection e with e _
    cases e
  · injection e with e _
    rw [PySem.W.str_of_cps (Sum.inr.inj e)]
theorem leK_trans (a b c : Key) (h : leK a b = true) (h' : leK b c = true) : leK a c = true := by
  rw [leK_eq, Bool.not_eq_true'] at h h' ⊢
  cases q : PyProof.Rows.lexLt PyProof.Rows.itemOrd (tkK c) (tkK a) with
  | false => rfl
  | true =>
    rcases PyProof.Rows.lex_negTrans _ (tkK b) _ q with z | z
    · rw [h'] at z; cases z
    · rw [h] at z; cases z
theorem leK_total (a b : Key) : (leK a b || leK b a) = true := by
  rw [leK_eq, leK_eq]
  cases q : PyProof.Rows.lexLt PyProof.Rows.itemOrd (tkK b) (tkK a) with
  | false => rfl
  | true =>
    cases q2 : PyProof.Rows.lexLt PyProof.Rows.itemOrd (tkK a) (tkK b) with
    | false => rfl
    | true =>
      have := PyProof.Rows.lex_trans _ _ _ q q2
      rw [PyProof.Rows.lex_irrefl] at this
      cases this
theorem leK_anti {a b : Key} (h : leK a b = true) (h' : leK b a = true) : a = b := by
  rw [leK_eq, Bool.not_eq_true'] at h h'
  exact tkK_inj (PyProof.Rows.lex_total _ _ h' h)
theorem sorted_uniq {α : Type} {le : α → α → Bool} (anti : ∀ {a b}, le a b = true → le b a = true → a = b) : ∀ {l1 l2 : List α}, l1.Perm l2 → l1.Pairwise (fun a b => le a b = true) → l2.Pairwise (fun a b => le a b = true) → l1 = l2
  | [], l2, p, _, _ => (List.nil_perm.mp p).symm
  | a :: l1, [], p, _, _ => by
    have := p.length_eq
    simp at this
  | a :: l1, b :: l2, p, h1, h2 => by
    obtain ⟨a1, a2⟩ := List.pairwise_cons.mp h1
    obtain ⟨b1, b2⟩ := List.pairwise_cons.mp h2
    have ab : a = b := by
      rcases List.mem_cons.mp (p.mem_iff.mp (List.mem_cons_self ..)) with z | z
      · exact z
      · rcases List.mem_cons.mp (p.mem_iff.mpr (List.mem_cons_self ..)) with y | y
        · exact y.symm
        · exact anti (a1 b y) (b1 a z)
    subst ab
    rw [sorted_uniq anti (List.Perm.cons_inv p) a2 b2]
theorem sortK_uniq {ks ls : List Key} (n1 : ks.Nodup) (n2 : ls.Nodup) (h : ∀ k, k ∈ ks ↔ k ∈ ls) : ks.mergeSort leK = ls.mergeSort leK := by
  have p : ks.Perm ls := (List.perm_ext_iff_of_nodup n1 n2).mpr h
  exact sorted_uniq (le := leK) leK_anti (((List.mergeSort_perm ks leK).trans p).trans (List.mergeSort_perm ls leK).symm) (List.pairwise_mergeSort leK_trans leK_total ks) (List.pairwise_mergeSort leK_trans leK_total ls)
def addK (acc : List Key) (k : Key) : List Key := if inK acc k = true then acc else acc ++ [k]
theorem addK_nd {acc : List Key} {k : Key} (h : acc.Nodup) : (addK acc k).Nodup := by
  unfold addK
  split
  · exact h
  · rename_i q
    rw [List.nodup_append]
    refine ⟨h, by simp, fun a ha b hb e => ?_⟩
    rw [List.mem_singleton.mp hb] at e
    exact q (inK_iff.mpr (e ▸ ha))
theorem addK_in (acc : List Key) (k j : Key) : inK (addK acc k) j = (inK acc j || decide (j = k)) := by
  have e : inK (addK acc k) j = true ↔ (inK acc j || decide (j = k)) = true := by
    rw [inK_iff, Bool.or_eq_true, inK_iff, decide_eq_true_iff]
    unfold addK
    split
    · rename_i q
      exact ⟨.inl, fun z => z.elim id fun z => z ▸ inK_iff.mp q⟩
    · rw [List.mem_append, List.mem_singleton]
  exact Bool.eq_iff_iff.mpr e
section
variable {X : Cx}
end
section
variable {X : Cx} {elt tg iter tg1 iter1 : Expr} {ifs ifs1 : List Expr} {scope : Scope} {own : List (Str × Nat)} {pos : Pos} {wi wi1 : DTI} {g g1 : DTG} {wt wt1 : DTT} {we : DTE} {js js1 : List Nat}
end
end DL
namespace SH
open PySem PySem.Spec PyProof.Rows L2 DL
def ropesK (row : Row) : List Key := row.foldl (fun acc h => addK (addK acc (.inr h.1)) (.inr h.2.1)) []
def unK : Key → Str
  | .inr s => s
  | .inl _ => ""
/-- the ropes of a row, rising -/
def ropesF (row : Row) : List Str := ((ropesK row).mergeSort leK).map unK
theorem foldR_mem : ∀ (row : Row) (acc : List Key) (k : Key), k ∈ row.foldl (fun acc h => addK (addK acc (.inr h.1)) (.inr h.2.1)) acc ↔ k ∈ acc ∨ ∃ h ∈ row, k = .inr h.1 ∨ k = .inr h.2.1
  | [], acc, k => by simp
  | h :: hs, acc, k => by
    rw [List.foldl_cons, foldR_mem hs, ← inK_iff, addK_in, addK_in, Bool.or_eq_true, Bool.or_eq_true, inK_iff, decide_eq_true_iff, decide_eq_true_iff]
    constructor
    · rintro (((z | z) | z) | ⟨x, hx, z⟩)
      · exact .inl z
      · exact .inr ⟨h, List.mem_cons_self .., .inl z⟩
      · exact .inr ⟨h, List.mem_cons_self .., .inr z⟩
      · exact .inr ⟨x, List.mem_cons_of_mem _ hx, z⟩
    · rintro (z | ⟨x, hx, z⟩)
      · exact .inl (.inl (.inl z))
      · rcases List.mem_cons.mp hx with rfl | hx
        · rcases z with z | z
          · exact .inl (.inl (.inr z))
          · exact .inl (.inr z)
        · exact .inr ⟨x, hx, z⟩
theorem foldR_nd : ∀ (row : Row) (acc : List Key), acc.Nodup → (row.foldl (fun acc h => addK (addK acc (.inr h.1)) (.inr h.2.1)) acc).Nodup
  | [], _, h => h
  | _ :: hs, _, h => foldR_nd hs _ (addK_nd (addK_nd h))
theorem ropesK_mem (row : Row) (k : Key) : k ∈ ropesK row ↔ ∃ h ∈ row, k = .inr h.1 ∨ k = .inr h.2.1 := by
  unfold ropesK
  rw [foldR_mem]
  simp
theorem ropesK_nd (row : Row) : (ropesK row).Nodup := foldR_nd row [] List.nodup_nil
theorem ropesF_mem (row : Row) (r : Str) : r ∈ ropesF row ↔ ∃ h ∈ row, touches r h = true := by
  unfold ropesF
  rw [List.mem_map]
  constructor
  · rintro ⟨k, hk, rfl⟩
    obtain ⟨h, hh, z⟩ := (ropesK_mem row k).mp ((List.mergeSort_perm _ _).mem_iff.mp hk)
    refine ⟨h, hh, touches_iff.mpr ?_⟩
    rcases z with rfl | rfl
    · exact .inl rfl
    · exact .inr rfl
  · rintro ⟨h, hh, t⟩
    refine ⟨.inr r, (List.mergeSort_perm _ _).mem_iff.mpr ((ropesK_mem row _).mpr ⟨h, hh, ?_⟩), rfl⟩
    rcases touches_iff.mp t with rfl | rfl
    · exact .inl rfl
    · exact .inr rfl
theorem ropesF_keys (row : Row) : ((ropesK row).mergeSort leK).map keyP = (ropesF row).map .str := by
  unfold ropesF
  rw [List.map_map]
  refine List.map_congr_left fun k hk => ?_
  obtain ⟨h, hh, z⟩ := (ropesK_mem row k).mp ((List.mergeSort_perm _ _).mem_iff.mp hk)
  rcases z with rfl | rfl <;> rfl
end SH
namespace SH
open PySem PySem.Spec PyProof.Rows L2 DL
/-- names as a list or a tuple -/
def NmD (D : PyData) (ss : List Str) : Prop := (D = .list (ss.map .str) ∨ D = .tuple (ss.map .str)) ∧ ∀ z ∈ ss, IsName z
def drawnF (row : Row) (ss : List Str) : Row := row.filter fun h => !decide (h.1 ∈ ss) && !decide (h.2.1 ∈ ss)
def keptF (row : Row) (ss : List Str) : Row := row.filter fun h => decide (h.1 ∈ ss) && decide (h.2.1 ∈ ss)
def leastF (row : Row) : Row := firstF (settledF row)
def heldF (row : Row) : List Str := ropesF (settledF row)
theorem sLoop_ok : ∀ (hs : Row) (row : Row) (ks : KR) (i : Nat), row.drop i = hs → KOk row i ks → KOk row (i + hs.length) (sLoop row ks i hs)
  | [], row, ks, i, _, K => K
  | h :: hs, row, ks, i, hd, K => by
    have hi : row[i]? = some h := by
      have := congrArg List.head? hd
      rw [List.head?_drop] at this
      exact this
    have hd2 : row.drop (i + 1) = hs := by
      have := congrArg List.tail hd
      rw [List.tail_drop] at this
      exact this
    rw [List.length_cons, show i + (hs.length + 1) = i + 1 + hs.length by omega]
    exact sLoop_ok hs row _ (i + 1) hd2 (sStep_ok K hi)
theorem settled_kok (row : Row) : KOk row row.length (sLoop row [] 0 row) := by
  have := sLoop_ok row row [] 0 rfl ⟨(fun p h => nomatch h), (fun p h => nomatch h), List.nodup_nil⟩
  rwa [Nat.zero_add] at this
theorem settled_mem {row : Row} {h : Hook} (m : h ∈ settledF row) : h ∈ row := by
  obtain ⟨p, hp, rfl⟩ := List.mem_map.mp m
  exact List.mem_of_getElem? ((settled_kok row).inr p hp)
theorem settled_len (row : Row) : (settledF row).length ≤ row.length := by
  unfold settledF
  rw [List.length_map]
  exact (settled_kok row).len
theorem RowIn.settled {row : Row} (h : RowIn row) : RowIn (settledF row) := fun x hx => h x (settled_mem hx)
theorem RowIn.filter {row : Row} {p : Hook → Bool} (h : RowIn row) : RowIn (row.filter p) := fun x hx => h x (List.mem_filter.mp hx).1
end SH
namespace SH
open PySem PySem.Spec PyProof.Rows L2 DL
theorem layAll_of {xs : List PyData} (h : ∀ x ∈ xs, x.canLay0 = true) : PyData.canLayAll0 xs = true := by
  induction xs with
  | nil => simp [PyData.canLayAll0]
  | cons x xs ih => rw [PyData.canLayAll0, h x (List.mem_cons_self ..), ih fun y hy => h y (List.mem_cons_of_mem _ hy)]; rfl
theorem depthAll_of {xs : List PyData} {n : Nat} (h : ∀ x ∈ xs, x.depth ≤ n) : PyData.depthAll xs ≤ n := by
  induction xs with
  | nil => simp [PyData.depthAll]
  | cons x xs ih =>
    rw [PyData.depthAll]
    have := h x (List.mem_cons_self ..)
    have := ih fun y hy => h y (List.mem_cons_of_mem _ hy)
    omega
theorem good_lay : ∀ (n : Nat) (x : PyData), GoodN n x → x.canLay0 = true ∧ x.depth ≤ n
  | 0, _, h => h.elim
  | n + 1, .list xs, h => by
    refine ⟨?_, ?_⟩
    · rw [PyData.canLay0]; exact layAll_of fun x hx => (good_lay n x (h.2 x hx)).1
    · rw [PyData.depth]; have := depthAll_of fun x hx => (good_lay n x (h.2 x hx)).2; omega
  | n + 1, .tuple xs, h => by
    refine ⟨?_, ?_⟩
    · rw [PyData.canLay0]; exact layAll_of fun x hx => (good_lay n x (h.2 x hx)).1
    · rw [PyData.depth]; have := depthAll_of fun x hx => (good_lay n x (h.2 x hx)).2; omega
  | n + 1, .str z, h => ⟨SeqAt.canLay_of_shaped h, by simp [PyData.depth]⟩
  | n + 1, .int i, _ => ⟨by simp [PyData.canLay0], by simp [PyData.depth]⟩
  | n + 1, .bool i, _ => ⟨by simp [PyData.canLay0], by simp [PyData.depth]⟩
  | n + 1, .none, _ => ⟨by simp [PyData.canLay0], by simp [PyData.depth]⟩
theorem good_shaped {n : Nat} {x : PyData} (h : GoodN n x) (hn : n ≤ 64) : SeqAt.shaped x = true := by
  obtain ⟨a, b⟩ := good_lay n x h
  unfold SeqAt.shaped
  rw [a, Bool.true_and]
  exact decide_eq_true (by omega)
/-- a good thing equals itself -/
theorem eqD_self {n : Nat} {x : PyData} (neg : Bool) (h : GoodN n x) (hn : n ≤ 64 := by decide) : eqD neg x x = some (.v (.bool (!neg))) := by
  have s := good_shaped h hn
  rw [eqD_of s s, SeqAt.eqv_refl x (good_lay n x h).1]
  cases neg <;> rfl
theorem leK_lt {x y : Str} (h : cs x < cs y) : leK (.inr x) (.inr y) = true := by
  have t := leK_total (.inr x) (.inr y)
  rw [Bool.or_eq_true] at t
  rcases t with t | t
  · exact t
  · rw [leK_eq, Bool.not_eq_true'] at t
    have e : PyProof.Rows.lexLt PyProof.Rows.itemOrd (tkK (.inr x)) (tkK (.inr y)) = true := by
      show PyProof.Rows.lexLt PyProof.Rows.itemOrd [Sum.inr x.cps.toList] [Sum.inr y.cps.toList] = true
      rw [lex_s]
      have : x.cps.toList < y.cps.toList := h
      simp [this]
    rw [e] at t; cases t
theorem cs_ne {x y : Str} (h : cs x < cs y) : x ≠ y := fun e => by
  subst e
  exact List.lt_irrefl _ h
/-- the ropes of a row are known by what they are -/
theorem ropesF_eq {row : Row} {ns : List Str} (h1 : ns.Pairwise fun x y => cs x < cs y) (h2 : ∀ r, r ∈ ns ↔ ∃ h ∈ row, touches r h = true) : ropesF row = ns := by
  have nd : (ns.map Sum.inr : List Key).Nodup := by
    rw [List.nodup_iff_pairwise_ne, List.pairwise_map]
    exact h1.imp fun {a b} q e => cs_ne q (Sum.inr.inj e)
  have pw : (ns.map Sum.inr : List Key).Pairwise fun a b => leK a b = true := by
    rw [List.pairwise_map]
    exact h1.imp fun {a b} q => leK_lt q
  have e1 : (ropesK row).mergeSort leK = ns.map Sum.inr := by
    rw [sortK_uniq (ropesK_nd row) nd fun k => ?_]
    · exact sorted_uniq (le := leK) leK_anti (List.mergeSort_perm _ _) (List.pairwise_mergeSort leK_trans leK_total _) pw
    · rw [ropesK_mem, List.mem_map]
      constructor
      · rintro ⟨h, hh, rfl | rfl⟩
        · exact ⟨h.1, (h2 _).mpr ⟨h, hh, touches_iff.mpr (.inl rfl)⟩, rfl⟩
        · exact ⟨h.2.1, (h2 _).mpr ⟨h, hh, touches_iff.mpr (.inr rfl)⟩, rfl⟩
      · rintro ⟨r, hr, rfl⟩
        obtain ⟨h, hh, t⟩ := (h2 r).mp hr
        exact ⟨h, hh, (touches_iff.mp t).imp (fun e => by rw [e]) fun e => by rw [e]⟩
  unfold ropesF
  rw [e1, List.map_map]
  exact List.map_id _
end SH
namespace DL
open PySem PySem.Spec PyProof.Rows L2
section
variable {X : Cx}
end
section
variable {X : Cx} {e : Expr} {we : DTE} {p pos : Pos}
end
end DL
namespace SH
open PySem PySem.Spec PyProof.Rows L2 DL
/-- what is kept stands in order -/
theorem sStep_pw {row : Row} {ks : KR} {i : Nat} {h : Hook} (lt : ∀ p ∈ ks, p.1 < i) (pw : (ks.map (·.1)).Pairwise (· < ·)) : ((sStep row ks i h).map (·.1)).Pairwise (· < ·) := by
  by_cases q : ∃ p, (posOf h.1 ks).getLast? = some p ∧ (posOf h.2.1 ks).getLast? = some p ∧ row[p]? = some (turned h)
  · obtain ⟨p, e1, e2, e3⟩ := q
    rw [sStep_true e1 e2 e3]
    exact pw.sublist (List.Sublist.map _ List.filter_sublist)
  · rw [sStep_false q, List.map_append, List.pairwise_append]
    refine ⟨pw, by simp, fun a ha b hb => ?_⟩
    obtain ⟨p, hp, rfl⟩ := List.mem_map.mp ha
    have hb : b = i := by simpa using hb
    rw [hb]
    exact lt p hp
end SH
namespace DL
open PySem PySem.Spec PyProof.Rows L2
def dedupK (ks : List Key) : List Key := ks.foldl addK []
theorem foldK_nd : ∀ (ks acc : List Key), acc.Nodup → (ks.foldl addK acc).Nodup
  | [], _, h => h
  | k :: ks, acc, h => foldK_nd ks _ (addK_nd h)
theorem foldK_mem : ∀ (ks acc : List Key) (j : Key), j ∈ ks.foldl addK acc ↔ j ∈ acc ∨ j ∈ ks
  | [], acc, j => by simp
  | k :: ks, acc, j => by
    rw [List.foldl_cons, foldK_mem ks (addK acc k) j, ← inK_iff, addK_in, Bool.or_eq_true, inK_iff, decide_eq_true_iff, List.mem_cons]
    exact ⟨fun h => h.elim (fun h => h.elim .inl fun h => .inr (.inl h)) fun h => .inr (.inr h), fun h => h.elim (fun h => .inl (.inl h)) fun h => h.elim (fun h => .inl (.inr h)) .inr⟩
theorem dedupK_nd (ks : List Key) : (dedupK ks).Nodup := foldK_nd ks [] List.nodup_nil
theorem dedupK_mem (ks : List Key) (j : Key) : j ∈ dedupK ks ↔ j ∈ ks := by
  unfold dedupK
  rw [foldK_mem]
  simp
theorem SetM.len {w : World} {h : Heap} {a : Addr} {ks : List Key} {n : Nat} (R : SetM w h a (inK ks) n) : n = (dedupK ks).length ∧ n < scanBound := by
  obtain ⟨o, es, ep, t, ho, hex, hd, g, nd, hm, ⟨hb, hf⟩, hn, _⟩ := R
  refine ⟨?_, by omega⟩
  have p : (es.toList.map kOf).Perm (dedupK ks) := (List.perm_ext_iff_of_nodup nd (dedupK_nd ks)).mpr fun k => by rw [← hm k, dedupK_mem, inK_iff]
  rw [← p.length_eq, List.length_map, Array.length_toList]
  exact hn.symm
section
variable {X : Cx}
end
section
variable {X : Cx} {e : Expr} {we : DTE} {p p2 pos cpos : Pos}
end
end DL
namespace SH
open PySem PySem.Spec PyProof.Rows L2 DL
/-- sorted(set(names)) -/
def ssF (ss : List Str) : List Str := ((dedupK (ss.map Sum.inr)).mergeSort leK).map unK
theorem RowOf.inn {ns : List Str} {r : Row} (hn : Names ns) (h : RowOf ns r) : RowIn r := fun x hx => ⟨hn.1 _ (h x hx).1, hn.1 _ (h x hx).2.1, cs_ne (h x hx).2.2.1⟩
end SH
namespace SH
open PySem PySem.Spec PyProof.Rows L2 DL
theorem s_names {a b : Nat} {N : Int} {bs : List PyData} {ρ : Rho} {P : R → Kap → Prop} (h0 : ρ[0]? = some (some (.c 0))) (hb : Box N bs) (hN : N ≤ 2 ^ 38) (b0 : 0 < b) (ab : a + b ≤ 21)
    (k : ∀ (ns : List Str) (bs' : List PyData), a ≤ ns.length → ns.length < a + b → Names ns → Box (N + 201) bs' → P (.f (ns.map .str)) [.l bs']) :
    wCallL Ph_law_names (wCons (wVar 0) (wCons (wBin addD (wC (.int (a : Int))) (wCallL Ph_law_take (wCons (wVar 0) (wCons (wC (.int (b : Int))) wNil)))) wNil)) ρ [.l bs] P := by
  simp only [s_bin, s_c, s_callL, s_cons, s_nil, s_var, h0, st_c, st_d, lend_c, args_d, DL.args_nil, Opt_some, List.getElem?_cons_zero]
  refine ⟨N, (b : Int), hb, by omega, rfl, by omega, by omega, fun r bs1 r0 r1 hb1 => ?_⟩
  simp only [lab_d, st_d, val_d, addD_int, Opt_some, out_v, args_d, DL.args_nil, List.set_cons_zero, List.getElem?_cons_zero]
  obtain ⟨m, rfl⟩ : ∃ m : Nat, r = (m : Int) := ⟨r.toNat, by omega⟩
  refine ⟨N + 1, a + m, hb1, by omega, by rw [Int.natCast_add], by omega, fun ns bs2 nl hn hb2 => ?_⟩
  simp only [lab_f, List.set_cons_zero]
  exact k ns bs2 (by omega) (by omega) hn (hb2.mono (by omega))
theorem lc_true {ok : Kap → Prop} {Ph : List PyData → List R → (R → List PyData → Prop) → Prop} {b v : Nat} {ρ : Rho} {κ : Kap} {P : R → Kap → Prop} {c : Int} (hc : 0 < c) (h0 : ∀ r, (ρ.set v r)[b]? = some (some (.c κ.length))) (hok : ∀ κ, ok κ) :
    ∀ (xs acc : List PyData) (N : Int) (bs : List PyData), Box N bs → acc.length + xs.length ≤ sizeLine → (∀ M bs, N ≤ M → M < N + c * (xs.length : Int) → Box M bs → ∀ Q : R → List PyData → Prop, (∀ bs', Box (M + c) bs' → Q (.d (.bool true)) bs') → Ph bs [] Q) →
    (∀ bs', Box (N + c * (xs.length : Int)) bs' → P (.f (acc ++ List.replicate xs.length (.bool true))) (κ ++ [.l bs'])) →
    lcL ok (wName v) wYes (wCallL Ph (wCons (wVar b) wNil)) ρ P xs acc (κ ++ [.l bs])
  | [], acc, N, bs, hb, _, _, k => by
    rw [lcL_nil]
    simpa using k bs (by simpa using hb)
  | x :: xs, acc, N, bs, hb, hl, hp, k => by
    rw [lcL_cons]
    simp only [List.length_cons] at hl hp k
    have ec : c * ((xs.length + 1 : Nat) : Int) = c + c * (xs.length : Int) := by
      rw [Int.natCast_add, Int.mul_add]
      simp [Int.add_comm]
    have pos : 0 ≤ c * (xs.length : Int) := Int.mul_nonneg (by omega) (by omega)
    have gl : ∀ bs : List PyData, (κ ++ [Cell.l bs])[κ.length]? = some (.l bs) := fun bs => by
      rw [List.getElem?_append_right (Nat.le_refl _), Nat.sub_self]; rfl
    have st : ∀ bs bs' : List PyData, (κ ++ [Cell.l bs]).set κ.length (.l bs') = κ ++ [.l bs'] := fun bs bs' => by
      rw [List.set_append_right _ _ (Nat.le_refl _), Nat.sub_self]; rfl
    simp only [s_name, wYes, if_true, s_callL, s_cons, s_nil, s_var, h0, st_c, lend_c, DL.args_nil, gl, Opt_some]
    refine hp N bs (Int.le_refl _) (by rw [ec]; omega) hb _ fun bs' hb' => ?_
    simp only [lab_d, st_d, dat_d, Opt_some, st]
    refine ⟨by omega, hok _, ?_⟩
    refine lc_true hc h0 hok xs _ (N + c) bs' hb' (by rw [List.length_append, List.length_singleton]; omega) (fun M bs h1 h2 => hp M bs (by omega) (by rw [ec]; omega)) fun bs2 hb2 => ?_
    have := k bs2 (by rw [ec]; exact hb2.mono (by omega))
    rw [List.append_assoc]
    exact this
end SH
namespace SH
open PySem PySem.Spec PyProof.Rows L2 DL
def Ph_law (rs : List R) (P : R → Prop) : Prop := ∃ ns : List Int, rs = [.s ns] ∧ P (.d (.bool true))
/-- one that's asked with a box says True and goes on with the box -/
def RightOk (Ph : List PyData → List R → (R → List PyData → Prop) → Prop) (c : Int) : Prop := 0 < c ∧ c ≤ 2 ^ 26 ∧ ∀ (N : Int) (bs : List PyData) (Q : R → List PyData → Prop), Box N bs → 0 ≤ N → N ≤ 2 ^ 30 → (∀ bs', Box (N + c) bs' → Q (.d (.bool true)) bs') → Ph bs [] Q
section
variable {Ph : List PyData → List R → (R → List PyData → Prop) → Prop} {c : Int}
def wb_lawA (Ph : List PyData → List R → (R → List PyData → Prop) → Prop) (m : Nat) : DTS := (wSeq (wSet true 2 (wCall Ph_law_box (wCons (wVar 0) (wCons (wVar 1) wNil))))
  (wIfS (wNot (wTru (wCB (allC fun bs => bs.all id) (wCons (wLc (wRng1 (wCons (wC (.int (m : Int))) wNil)) (wName 3) wYes (wCallL Ph (wCons (wVar 2) wNil)) [3]) wNil)))) (wRet (wC (.bool false))) wNext))
theorem all_true (n : Nat) : allC (fun bs => bs.all id) [.list (List.replicate n (.bool true))] = some (.v (.bool true)) := by
  have e : ∀ n : Nat, bools (List.replicate n (.bool true)) = some (List.replicate n true) := fun n => by
    induction n with
    | zero => rfl
    | succ n ih => rw [List.replicate_succ, List.replicate_succ]; unfold bools; rw [ih]; rfl
  unfold allC
  simp only [e]
  have : (List.replicate n true).all id = true := by
    rw [List.all_eq_true]
    intro x hx
    rw [List.eq_of_mem_replicate hx]
    rfl
  simp [this]
theorem law_bodyA {m : Nat} (hp : RightOk Ph c) (hm2 : m ≤ 4) {E : DEnds} {ns : List Int} {i : Nat} {p2 : Option R} {κ : Kap} (hi : i ≤ 1000) (k : ∀ p2 κ', E.nx [some (.s ns), some (.d (.int i)), p2, none] κ') : wb_lawA Ph m E [some (.s ns), some (.d (.int i)), p2, none] κ := by
  unfold wb_lawA
  rw [s_seq]
  simp only [s_set, s_call, s_cons, s_nil, s_var, List.getElem?_cons_succ, List.getElem?_cons_zero, st_d, st_s, args_d, args_s, DL.args_nil, Opt_some]
  refine ⟨ns, i, rfl, by omega, by omega, fun bs hb => ?_⟩
  have tt : truth (.bool true) = some true := rfl
  simp only [sto_t, List.set_cons_succ, List.set_cons_zero, s_if, s_not, s_tru, s_cb, s_cons, s_nil, s_lc, s_rng1, s_c, st_d, wipeR_cons, wipeR_nil]
  obtain ⟨c0, c1, hp⟩ := hp
  have cm : c * ((m : Nat) : Int) ≤ 2 ^ 26 * 4 := Int.mul_le_mul c1 (by omega) (by omega) (by decide)
  refine ⟨by omega, by omega, ?_⟩
  refine lc_true (b := 2) c0 (fun r => rfl) (fun _ => trivial) _ [] 0 bs hb ?_ (fun M bs h1 h2 hbM Q hQ => hp M bs Q hbM (by omega) ?_ hQ) fun bs' hb' => ?_
  · rw [List.length_map, List.length_range, List.length_nil, sizeLine_eq]; omega
  · rw [List.length_map, List.length_range, Int.toNat_natCast] at h2
    omega
  · simp only [List.nil_append, st_f, vals_cons, vals_nil, val_f, val_d, Opt_some, all_true, out_v, tt]
    simp only [st_d, val_d, Opt_some, tt, Bool.not_true]
    exact k _ _
/-- for k in range(1 + min(M, len(script))) -/
def w_lawA (Ph : List PyData → List R → (R → List PyData → Prop) → Prop) (M m : Nat) : DTS := (wSeq (wFor (wRng1 (wCons (wBin addD (wC (.int 1)) (wCB min2D (wCons (wC (.int (M : Int))) (wCons (wLenS (wVar 0)) wNil)))) wNil)) (wName 1) (wb_lawA Ph m))
  (wRet (wC (.bool true))))
theorem rng_A (l M : Nat) : (1 + (if l < M then (l : Int) else (M : Int))).toNat = 1 + min M l := by
  by_cases h : l < M
  · simp only [if_pos h]
    omega
  · simp only [if_neg h]
    omega
theorem law_loop {Pd : R → Prop} {m n : Nat} (hp : RightOk Ph c) (hm2 : m ≤ 4) {ns : List Int} (hn : n ≤ 1000) (k : Pd (.d (.bool true))) : wSeq (fun E ρ κ => forL (fun _ => True) (wName 1) (wb_lawA Ph m) E ((List.range n).map fun (i : Nat) => .int (0 + (i : Int))) ρ κ) (wRet (wC (.bool true)))
    { nx := fun _ _ => Pd (.d .none), rt := fun r κ => Opt (outR κ 0 r) Pd } [some (.s ns), none, none, none] [] := by
  rw [s_seq]
  refine for_each (fun ρ κ => ∃ p1 p2, ρ = [some (.s ns), p1, p2, none]) (fun _ => trivial) _ _ _ ⟨_, _, rfl⟩ (fun x hx ρ κ h E' h1 h2 h3 h4 => ?_) (fun ρ κ h => ?_)
  · obtain ⟨p1, p2, rfl⟩ := h
    obtain ⟨i, hi, rfl⟩ := List.mem_map.mp hx
    have := List.mem_range.mp hi
    simp only [s_name, List.set_cons_succ, List.set_cons_zero, Int.zero_add]
    exact law_bodyA hp hm2 (by omega) fun p2 κ' => h3 _ _ ⟨_, _, rfl⟩
  · obtain ⟨p1, p2, rfl⟩ := h
    simp
    exact k
theorem r_lawA {M m : Nat} (hp : RightOk Ph c) (hM : M ≤ 100) (hm2 : m ≤ 4) (rs : List R) (Pd : R → Prop) (h : Ph_law rs Pd) (hl : rs.length = 1) : w_lawA Ph M m { nx := fun _ _ => Pd (.d .none), rt := fun r κ => Opt (outR κ 0 r) Pd } (rs.map some ++ List.replicate 3 none) [] := by
  obtain ⟨ns, rfl, k⟩ := h
  have := law_loop (m := m) (n := 1 + min M ns.length) hp hm2 (ns := ns) (by omega) k
  simp [w_lawA] at this ⊢
  refine ⟨by split <;> omega, by split <;> omega, ?_⟩
  rw [rng_A]
  exact this
end
end SH
namespace SH
open PySem PySem.Spec PyProof.Rows L2 DL
end SH
namespace SH
open PySem PySem.Spec PyProof.Rows L2 DL
abbrev RowT := List Hook
/-- g shares a rope with h -/
def hits (h g : Hook) : Bool := touches h.1 g || touches h.2.1 g
theorem touch_t (r : Str) (h : Hook) : touches r (turned h) = touches r h := rfl
theorem turned2 (h : Hook) : turned (turned h) = h := by
  obtain ⟨a, b, s⟩ := h
  show (a, b, -(-s)) = (a, b, s)
  rw [Int.neg_neg]
theorem hits_t (h g : Hook) : hits h (turned g) = hits h g := rfl
theorem hits_iff {h g : Hook} : hits h g = true ↔ ∃ r, touches r h = true ∧ touches r g = true := by
  unfold hits
  rw [Bool.or_eq_true]
  constructor
  · rintro (q | q)
    · exact ⟨h.1, touches_iff.mpr (.inl rfl), q⟩
    · exact ⟨h.2.1, touches_iff.mpr (.inr rfl), q⟩
  · rintro ⟨r, a, b⟩
    rcases touches_iff.mp a with rfl | rfl
    · exact .inl b
    · exact .inr b
theorem hits_symm (h g : Hook) : hits h g = hits g h := by
  rw [Bool.eq_iff_iff, hits_iff, hits_iff]
  exact ⟨fun ⟨r, a, b⟩ => ⟨r, b, a⟩, fun ⟨r, a, b⟩ => ⟨r, b, a⟩⟩
theorem hits_self (h : Hook) : hits h h = true := by
  unfold hits touches
  simp
theorem hits_false {h g : Hook} (e : hits h g = false) : touches h.1 g = false ∧ touches h.2.1 g = false := by
  unfold hits at e
  rwa [Bool.or_eq_false_iff] at e
theorem touch_both {r : Str} {h g : Hook} (a : touches r h = true) (b : touches r g = true) : hits h g = true := by
  unfold hits
  rw [Bool.or_eq_true]
  rcases touches_iff.mp a with rfl | rfl
  · exact .inl b
  · exact .inr b
def lineR (r : Str) (ρ : RowT) : RowT := ρ.filter (touches r)
abbrev Pile := Str → RowT
def linesP (ρ : RowT) : Pile := fun r => lineR r ρ
theorem lineR_app (r : Str) (x y : RowT) : lineR r (x ++ y) = lineR r x ++ lineR r y := List.filter_append ..
theorem lineR_cons (r : Str) (h : Hook) (x : RowT) : lineR r (h :: x) = if touches r h = true then h :: lineR r x else lineR r x := by
  unfold lineR
  by_cases q : touches r h = true
  · rw [if_pos q, List.filter_cons_of_pos q]
  · rw [if_neg q, List.filter_cons_of_neg q]
theorem lineR_free {r : Str} {h : Hook} {y : RowT} (t : touches r h = true) (f : ∀ g ∈ y, hits h g = false) : lineR r y = [] := by
  unfold lineR
  rw [List.filter_eq_nil_iff]
  intro g hg q
  have := touch_both t q
  rw [f g hg] at this
  cases this
def top2 (h : Hook) (S : Pile) : Prop := (S h.1).head? = some (turned h) ∧ (S h.2.1).head? = some (turned h)
instance (h : Hook) (S : Pile) : Decidable (top2 h S) := by unfold top2; infer_instance
def act (h : Hook) (S : Pile) : Pile := if top2 h S then fun r => if touches r h = true then (S r).tail else S r else fun r => if touches r h = true then h :: S r else S r
def stripR (h : Hook) : RowT → Option RowT
  | [] => none
  | g :: gs => if hits h g = true then (if g = turned h then some gs else none) else (stripR h gs).map (g :: ·)
def cstep (h : Hook) (ρ : RowT) : RowT := match stripR h ρ with
  | some ρ' => ρ'
  | none => h :: ρ
theorem strip_some {h : Hook} : ∀ {ρ ρ' : RowT}, stripR h ρ = some ρ' → ∃ y x, ρ = y ++ turned h :: x ∧ ρ' = y ++ x ∧ ∀ g ∈ y, hits h g = false
  | g :: gs, ρ', e => by
    unfold stripR at e
    by_cases q : hits h g = true
    · rw [if_pos q] at e
      by_cases q2 : g = turned h
      · rw [if_pos q2] at e
        cases e
        exact ⟨[], gs, by rw [q2]; rfl, rfl, fun g hg => nomatch hg⟩
      · rw [if_neg q2] at e; cases e
    · rw [if_neg q] at e
      cases q2 : stripR h gs with
      | none => rw [q2] at e; cases e
      | some ρ1 =>
        rw [q2] at e
        cases e
        obtain ⟨y, x, e1, e2, e3⟩ := strip_some q2
        refine ⟨g :: y, x, by rw [e1]; rfl, by rw [e2]; rfl, fun k hk => ?_⟩
        rcases List.mem_cons.mp hk with rfl | hk
        · exact (Bool.not_eq_true _).mp q
        · exact e3 k hk
theorem strip_none {h : Hook} : ∀ {ρ : RowT}, stripR h ρ = none → (∀ g ∈ ρ, hits h g = false) ∨ ∃ y g x, ρ = y ++ g :: x ∧ (∀ k ∈ y, hits h k = false) ∧ hits h g = true ∧ g ≠ turned h
  | [], _ => .inl fun g hg => nomatch hg
  | g :: gs, e => by
    unfold stripR at e
    by_cases q : hits h g = true
    · rw [if_pos q] at e
      by_cases q2 : g = turned h
      · rw [if_pos q2] at e; cases e
      · exact .inr ⟨[], g, gs, rfl, (fun k hk => nomatch hk), q, q2⟩
    · rw [if_neg q] at e
      cases q2 : stripR h gs with
      | some ρ1 => rw [q2] at e; cases e
      | none =>
        have qf := (Bool.not_eq_true _).mp q
        rcases strip_none q2 with f | ⟨y, k, x, e1, e2, e3, e4⟩
        · refine .inl fun k hk => ?_
          rcases List.mem_cons.mp hk with rfl | hk
          · exact qf
          · exact f k hk
        · refine .inr ⟨g :: y, k, x, by rw [e1]; rfl, fun z hz => ?_, e3, e4⟩
          rcases List.mem_cons.mp hz with rfl | hz
          · exact qf
          · exact e2 z hz
theorem t1 (h : Hook) : touches h.1 h = true := touches_iff.mpr (.inl rfl)
theorem t2 (h : Hook) : touches h.2.1 h = true := touches_iff.mpr (.inr rfl)
theorem act_lines (h : Hook) (ρ : RowT) : linesP (cstep h ρ) = act h (linesP ρ) := by
  unfold cstep
  cases e : stripR h ρ with
  | some ρ' =>
    obtain ⟨y, x, rfl, rfl, f⟩ := strip_some e
    have lt : ∀ r, touches r h = true → linesP (y ++ turned h :: x) r = turned h :: lineR r x := fun r t => by
      show lineR r _ = _
      rw [lineR_app, lineR_free t f, lineR_cons, if_pos (by rw [touch_t]; exact t), List.nil_append]
    have tp : top2 h (linesP (y ++ turned h :: x)) := ⟨by rw [lt _ (t1 h)]; rfl, by rw [lt _ (t2 h)]; rfl⟩
    unfold act
    rw [if_pos tp]
    funext r
    by_cases q : touches r h = true
    · rw [if_pos q, lt r q]
      show lineR r _ = _
      rw [lineR_app, lineR_free q f, List.nil_append]
      rfl
    · rw [if_neg q]
      show lineR r _ = lineR r _
      rw [lineR_app, lineR_app, lineR_cons, if_neg (by rw [touch_t]; exact q)]
  | none =>
    have tp : ¬ top2 h (linesP ρ) := by
      rcases strip_none e with f | ⟨y, g, x, rfl, f, hg, ne⟩
      · rintro ⟨z, _⟩
        have : linesP ρ h.1 = [] := lineR_free (t1 h) f
        rw [this] at z
        cases z
      · have lt : ∀ r, touches r h = true → touches r g = true → (linesP (y ++ g :: x) r).head? = some g := fun r t u => by
          show (lineR r _).head? = _
          rw [lineR_app, lineR_free t f, lineR_cons, if_pos u]
          rfl
        rintro ⟨z1, z2⟩
        unfold hits at hg
        rw [Bool.or_eq_true] at hg
        rcases hg with u | u
        · rw [lt _ (t1 h) u] at z1
          exact ne (Option.some.inj z1)
        · rw [lt _ (t2 h) u] at z2
          exact ne (Option.some.inj z2)
    unfold act
    rw [if_neg tp]
    funext r
    show lineR r (h :: ρ) = _
    rw [lineR_cons]
    rfl
theorem act_at (h : Hook) (S : Pile) (r : Str) : act h S r = if touches r h = true then (if top2 h S then (S r).tail else h :: S r) else S r := by
  unfold act
  by_cases c : top2 h S
  · rw [if_pos c, if_pos c]
  · rw [if_neg c, if_neg c]
theorem act_off {h : Hook} {r : Str} (n : ¬ touches r h = true) (S : Pile) : act h S r = S r := by rw [act_at, if_neg n]
theorem top2_congr {h : Hook} {S T : Pile} (e1 : S h.1 = T h.1) (e2 : S h.2.1 = T h.2.1) : top2 h S ↔ top2 h T := by
  unfold top2
  rw [e1, e2]
theorem act_congr {h : Hook} {S T : Pile} {r : Str} (e : ∀ r, touches r h = true → S r = T r) (t : touches r h = true) : act h S r = act h T r := by
  rw [act_at, act_at, if_pos t, if_pos t, e r t]
  have c := top2_congr (e _ (t1 h)) (e _ (t2 h))
  by_cases q : top2 h T
  · rw [if_pos q, if_pos (c.mpr q)]
  · rw [if_neg q, if_neg (fun z => q (c.mp z))]
theorem off_of {h g : Hook} {r : Str} (e : hits h g = false) (t : touches r h = true) : ¬ touches r g = true := fun u => by
  have := touch_both t u
  rw [e] at this; cases this
/-- hooks that share no rope may change places -/
theorem act_comm {h g : Hook} (e : hits h g = false) (S : Pile) : act h (act g S) = act g (act h S) := by
  have e' : hits g h = false := by rw [hits_symm]; exact e
  funext r
  by_cases th : touches r h = true
  · rw [act_off (off_of e th) (act h S), act_congr (fun r t => act_off (off_of e t) S) th]
  · rw [act_off th (act g S)]
    by_cases tg : touches r g = true
    · rw [act_congr (fun r t => act_off (off_of e' t) S) tg]
    · rw [act_off tg, act_off tg, act_off th]
end SH
namespace SH
open PySem PySem.Spec PyProof.Rows L2 DL
def acts (r : RowT) (S : Pile) : Pile := r.foldl (fun S h => act h S) S
def pile (r : RowT) : Pile := acts r fun _ => []
def nfL (r : RowT) (ρ : RowT) : RowT := r.foldl (fun ρ h => cstep h ρ) ρ
def nfR (r : RowT) : RowT := nfL r []
theorem acts_app (x y : RowT) (S : Pile) : acts (x ++ y) S = acts y (acts x S) := by unfold acts; rw [List.foldl_append]
theorem pile_app (x y : RowT) : pile (x ++ y) = acts y (pile x) := acts_app x y _
theorem acts_lines : ∀ (r ρ : RowT), linesP (nfL r ρ) = acts r (linesP ρ)
  | [], ρ => rfl
  | h :: r, ρ => by
    show linesP (nfL r (cstep h ρ)) = acts r (act h (linesP ρ))
    rw [acts_lines r, act_lines]
theorem pile_nf (r : RowT) : linesP (nfR r) = pile r := acts_lines r []
/-- nothing goes -/
def Red (ρ : RowT) : Prop := ∀ x g y z, ρ = x ++ g :: (y ++ turned g :: z) → ∃ k ∈ y, hits g k = true
theorem strip_of {h : Hook} : ∀ {y x : RowT}, (∀ g ∈ y, hits h g = false) → stripR h (y ++ turned h :: x) = some (y ++ x)
  | [], x, _ => by
    show (if hits h (turned h) = true then (if turned h = turned h then some x else none) else _) = _
    rw [if_pos (by rw [hits_t]; exact hits_self h), if_pos rfl]
    rfl
  | g :: y, x, f => by
    show (if hits h g = true then _ else (stripR h (y ++ turned h :: x)).map (g :: ·)) = _
    rw [if_neg (by rw [f g (List.mem_cons_self ..)]; decide), strip_of fun k hk => f k (List.mem_cons_of_mem _ hk)]
    rfl
theorem red_cons {h : Hook} {ρ : RowT} (R : Red ρ) (e : stripR h ρ = none) : Red (h :: ρ) := by
  intro x g y z hd
  cases x with
  | nil =>
    injection hd with h1 h2
    subst h1
    by_cases q : ∃ k ∈ y, hits h k = true
    · exact q
    · have f : ∀ g ∈ y, hits h g = false := fun k hk => (Bool.not_eq_true _).mp fun t => q ⟨k, hk, t⟩
      rw [h2, strip_of f] at e
      cases e
  | cons w x =>
    injection hd with h1 h2
    exact R x g y z h2
theorem red_del {h : Hook} {y0 x0 : RowT} (R : Red (y0 ++ turned h :: x0)) (f : ∀ g ∈ y0, hits h g = false) : Red (y0 ++ x0) := by
  intro x g y z hd
  have no : ∀ g ∈ y0, hits g (turned h) = true → False := fun g hg t => by
    rw [hits_t, hits_symm, f g hg] at t
    cases t
  rcases List.append_eq_append_iff.mp hd with ⟨a, e1, e2⟩ | ⟨c, e1, e2⟩
  · exact R (y0 ++ turned h :: a) g y z (by rw [e2, List.append_assoc]; rfl)
  · cases c with
    | nil =>
      rw [List.append_nil] at e1
      refine R (y0 ++ [turned h]) g y z ?_
      have : x0 = g :: (y ++ turned g :: z) := e2.symm
      rw [this, List.append_assoc]
      rfl
    | cons w c =>
      injection e2 with h1 h2
      subst h1
      have gy : g ∈ y0 := by rw [e1]; simp
      rcases List.append_eq_append_iff.mp h2 with ⟨a, q1, q2⟩ | ⟨d, q1, q2⟩
      · cases a with
        | nil =>
          rw [List.append_nil] at q1
          have q3 : x0 = turned g :: z := q2.symm
          obtain ⟨k, hk, t⟩ := R x g (y ++ [turned h]) z (by rw [e1, q1, q3]; simp)
          rcases List.mem_append.mp hk with hk | hk
          · exact ⟨k, hk, t⟩
          · rw [List.mem_singleton.mp hk] at t
            exact (no g gy t).elim
        | cons w' a =>
          injection q2 with h3 h4
          subst h3
          exact R x g y (a ++ turned h :: x0) (by rw [e1, q1]; simp)
      · obtain ⟨k, hk, t⟩ := R x g (c ++ turned h :: d) z (by rw [e1, q2]; simp)
        refine ⟨k, ?_, t⟩
        rw [q1]
        rcases List.mem_append.mp hk with hk | hk
        · exact List.mem_append_left _ hk
        · rcases List.mem_cons.mp hk with rfl | hk
          · exact (no g gy t).elim
          · exact List.mem_append_right _ hk
theorem red_step {h : Hook} {ρ : RowT} (R : Red ρ) : Red (cstep h ρ) := by
  unfold cstep
  cases e : stripR h ρ with
  | none => exact red_cons R e
  | some ρ' =>
    obtain ⟨y, x, rfl, rfl, f⟩ := strip_some e
    exact red_del R f
theorem red_nfL : ∀ (r : RowT) {ρ : RowT}, Red ρ → Red (nfL r ρ)
  | [], _, R => R
  | h :: r, _, R => red_nfL r (red_step R)
theorem red_nil : Red [] := fun x g y z e => by
  have := congrArg List.length e
  simp at this
theorem red_nf (r : RowT) : Red (nfR r) := red_nfL r red_nil
/-- a hook and its turned one behind it go -/
theorem cancel_red {h : Hook} {ρ : RowT} (R : Red ρ) : act (turned h) (act h (linesP ρ)) = linesP ρ := by
  rw [← act_lines, ← act_lines]
  unfold cstep
  cases e : stripR h ρ with
  | none =>
    have : stripR (turned h) (h :: ρ) = some ρ := by
      show (if hits (turned h) h = true then (if h = turned (turned h) then some ρ else none) else _) = _
      rw [if_pos (by rw [hits_symm, hits_t]; exact hits_self h), if_pos (turned2 h).symm]
    simp only [this]
  | some ρ' =>
    obtain ⟨y, x, rfl, rfl, f⟩ := strip_some e
    have f' : ∀ g ∈ y, hits (turned h) g = false := fun g hg => by rw [hits_symm, hits_t, hits_symm]; exact f g hg
    cases e2 : stripR (turned h) (y ++ x) with
    | some ρ2 =>
      obtain ⟨y', x', q1, q2, f2⟩ := strip_some e2
      rw [turned2] at q1
      rcases List.append_eq_append_iff.mp q1 with ⟨a, e1, e3⟩ | ⟨c, e1, e3⟩
      · obtain ⟨k, hk, t⟩ := R y (turned h) a x' (by rw [turned2, e3])
        rw [f2 k (by rw [e1]; exact List.mem_append_right _ hk)] at t
        cases t
      · cases c with
        | nil =>
          have e3 : x = h :: x' := e3.symm
          obtain ⟨k, hk, t⟩ := R y (turned h) [] x' (by rw [turned2, e3]; rfl)
          cases hk
        | cons w c =>
          injection e3 with h1 h2
          subst h1
          have := f h (by rw [e1]; simp)
          rw [hits_self] at this
          cases this
    | none =>
      simp only
      funext r
      show lineR r _ = lineR r _
      rw [lineR_cons, lineR_app, lineR_app, lineR_cons, touch_t]
      by_cases t : touches r h = true
      · rw [if_pos t, if_pos t, lineR_free t f]
        rfl
      · rw [if_neg t, if_neg t]
theorem cancel (h : Hook) (r : RowT) : act (turned h) (act h (pile r)) = pile r := by
  rw [← pile_nf]
  exact cancel_red (red_nf r)
theorem cancel2 (h : Hook) (r : RowT) : act h (act (turned h) (pile r)) = pile r := by
  have := cancel (turned h) r
  rwa [turned2] at this
theorem acts_free {h : Hook} : ∀ {u : RowT}, (∀ g ∈ u, hits h g = false) → ∀ S, act h (acts u S) = acts u (act h S)
  | [], _, S => rfl
  | g :: u, f, S => by
    show act h (acts u (act g S)) = acts u (act g (act h S))
    rw [acts_free (fun k hk => f k (List.mem_cons_of_mem _ hk)), act_comm (f g (List.mem_cons_self ..))]
theorem lines_nil {r : RowT} (e : linesP r = linesP []) : r = [] := by
  cases r with
  | nil => rfl
  | cons h r =>
    have := congrFun e h.1
    have : lineR h.1 (h :: r) = [] := this
    rw [lineR_cons, if_pos (t1 h)] at this
    cases this
/-- a row whose lines begin like h's -/
theorem lines_cons {h : Hook} {r r' : RowT} (e : linesP (h :: r) = linesP r') : ∃ u v, r' = u ++ h :: v ∧ (∀ g ∈ u, hits h g = false) ∧ linesP r = linesP (u ++ v) := by
  have a1 : lineR h.1 r' = h :: lineR h.1 r := by
    have := congrFun e h.1
    have : lineR h.1 (h :: r) = lineR h.1 r' := this
    rw [← this, lineR_cons, if_pos (t1 h)]
  have a2 : lineR h.2.1 r' = h :: lineR h.2.1 r := by
    have := congrFun e h.2.1
    have : lineR h.2.1 (h :: r) = lineR h.2.1 r' := this
    rw [← this, lineR_cons, if_pos (t2 h)]
  obtain ⟨u, v, rfl, hu, _, _⟩ := List.filter_eq_cons_iff.mp a1
  have f : ∀ g ∈ u, hits h g = false := fun g hg => by
    refine (Bool.not_eq_true _).mp fun t => ?_
    unfold hits at t
    rw [Bool.or_eq_true] at t
    rcases t with t | t
    · exact hu g hg t
    · rw [lineR_app] at a2
      cases q : lineR h.2.1 u with
      | nil =>
        have : g ∈ lineR h.2.1 u := List.mem_filter.mpr ⟨hg, t⟩
        rw [q] at this; cases this
      | cons k ks =>
        rw [q] at a2
        injection a2 with b1 b2
        have km : k ∈ lineR h.2.1 u := by rw [q]; exact List.mem_cons_self ..
        have := hu k (List.mem_filter.mp km).1
        rw [b1] at this
        exact this (t1 h)
  refine ⟨u, v, rfl, f, ?_⟩
  funext r0
  have e0 : lineR r0 (h :: r) = lineR r0 (u ++ h :: v) := congrFun e r0
  show lineR r0 r = lineR r0 (u ++ v)
  rw [lineR_app]
  rw [lineR_app, lineR_cons, lineR_cons] at e0
  by_cases t : touches r0 h = true
  · rw [if_pos t, if_pos t, lineR_free t f] at e0
    rw [lineR_free t f]
    injection e0
  · rwa [if_neg t, if_neg t] at e0
/-- rows of the same lines do the same -/
theorem acts_same : ∀ {r r' : RowT}, linesP r = linesP r' → ∀ S, acts r S = acts r' S
  | [], r', e, S => by rw [lines_nil e.symm]
  | h :: r, r', e, S => by
    obtain ⟨u, v, rfl, f, e2⟩ := lines_cons e
    show acts r (act h S) = _
    rw [acts_same e2 (act h S), acts_app, acts_app, ← acts_free f]
    rfl
theorem nf_red : ∀ {ρ : RowT}, Red ρ → nfR ρ.reverse = ρ
  | [], _ => rfl
  | h :: ρ, R => by
    have R' : Red ρ := fun x g y z e => R (h :: x) g y z (by rw [e]; rfl)
    have e : nfR (h :: ρ).reverse = cstep h (nfR ρ.reverse) := by
      unfold nfR nfL
      rw [List.reverse_cons, List.foldl_append]
      rfl
    rw [e, nf_red R']
    unfold cstep
    cases q : stripR h ρ with
    | none => rfl
    | some ρ' =>
      obtain ⟨y, x, e1, _, f⟩ := strip_some q
      obtain ⟨k, hk, t⟩ := R [] h y x (by rw [e1]; rfl)
      rw [f k hk] at t
      cases t
theorem filt_step {p : Hook → Bool} (hp : ∀ h, p (turned h) = p h) (h : Hook) (ρ : RowT) : pile ((cstep h ρ).reverse.filter p) = if p h = true then act h (pile (ρ.reverse.filter p)) else pile (ρ.reverse.filter p) := by
  unfold cstep
  cases e : stripR h ρ with
  | none =>
    simp only
    rw [List.reverse_cons, List.filter_append, pile_app]
    by_cases q : p h = true
    · rw [if_pos q, List.filter_cons_of_pos q]; rfl
    · rw [if_neg q, List.filter_cons_of_neg q]; rfl
  | some ρ' =>
    obtain ⟨y, x, rfl, rfl, f⟩ := strip_some e
    simp only
    rw [List.reverse_append, List.reverse_append, List.reverse_cons, List.filter_append, List.filter_append, List.filter_append]
    by_cases q : p h = true
    · rw [if_pos q, List.filter_cons_of_pos (by rw [hp]; exact q)]
      rw [pile_app, pile_app, pile_app]
      have f' : ∀ g ∈ y.reverse.filter p, hits h g = false := fun g hg => f g (List.mem_reverse.mp (List.mem_filter.mp hg).1)
      rw [acts_free f']
      show _ = acts _ (act h (act (turned h) (pile _)))
      rw [cancel2]
    · rw [if_neg q, List.filter_cons_of_neg (by rw [hp]; exact q)]
      simp
theorem filt_nf {p : Hook → Bool} (hp : ∀ h, p (turned h) = p h) : ∀ (r ρ : RowT), acts (r.filter p) (pile (ρ.reverse.filter p)) = pile ((nfL r ρ).reverse.filter p)
  | [], ρ => rfl
  | h :: r, ρ => by
    have ih := filt_nf hp r (cstep h ρ)
    show _ = pile ((nfL r (cstep h ρ)).reverse.filter p)
    rw [← ih, filt_step hp]
    by_cases q : p h = true
    · rw [if_pos q, List.filter_cons_of_pos q]; rfl
    · rw [if_neg q, List.filter_cons_of_neg q]
theorem lines_rev {x y : RowT} (e : linesP x = linesP y) : linesP x.reverse = linesP y.reverse := by
  funext r
  have : lineR r x = lineR r y := congrFun e r
  show lineR r _ = lineR r _
  unfold lineR at *
  rw [List.filter_reverse, List.filter_reverse, this]
theorem lines_filter {x y : RowT} (p : Hook → Bool) (e : linesP x = linesP y) : linesP (x.filter p) = linesP (y.filter p) := by
  funext r
  have : lineR r x = lineR r y := congrFun e r
  show lineR r _ = lineR r _
  unfold lineR at *
  have c : ∀ z : RowT, (z.filter p).filter (touches r) = (z.filter (touches r)).filter p := fun z => by
    rw [List.filter_filter, List.filter_filter]
    congr 1
    funext h
    rw [Bool.and_comm]
  rw [c, c, this]
/-- alike rows stay alike when hooks are struck -/
theorem pile_filter {p : Hook → Bool} (hp : ∀ h, p (turned h) = p h) {r r' : RowT} (e : pile r = pile r') : pile (r.filter p) = pile (r'.filter p) := by
  have e1 := filt_nf hp r []
  have e2 := filt_nf hp r' []
  have e1 : pile (r.filter p) = pile ((nfR r).reverse.filter p) := e1
  have e2 : pile (r'.filter p) = pile ((nfR r').reverse.filter p) := e2
  rw [e1, e2]
  rw [← pile_nf, ← pile_nf] at e
  exact acts_same (lines_filter p (lines_rev e)) _
end SH
namespace SH
open PySem PySem.Spec PyProof.Rows L2 DL
theorem posOf_free {h : Hook} {r : Str} {ks : KR} (t : touches r h = true) (f : ∀ e ∈ ks, hits h e.2 = false) : posOf r ks = [] := by
  unfold posOf
  have : ks.filter (fun p => touches r p.2) = [] := by
    rw [List.filter_eq_nil_iff]
    intro e he q
    have := touch_both t q
    rw [f e he] at this
    cases this
  rw [this]
  rfl
theorem posOf_split (r : Str) (x y : KR) : posOf r (x ++ y) = posOf r x ++ posOf r y := by
  unfold posOf
  rw [List.filter_append, List.map_append]
theorem rev_free {h : Hook} {k : KR} (f : ∀ e ∈ k, hits h e.2 = false) : ∀ g ∈ (k.map (·.2)).reverse, hits h g = false := fun g hg => by
  obtain ⟨e, he, rfl⟩ := List.mem_map.mp (List.mem_reverse.mp hg)
  exact f e he
theorem sStep_c {row : RowT} {i : Nat} {ks : KR} {h : Hook} (K : KOk row i ks) (pw : (ks.map (·.1)).Pairwise (· < ·)) : ((sStep row ks i h).map (·.2)).reverse = cstep h (ks.map (·.2)).reverse := by
  by_cases q : ∃ p, (posOf h.1 ks).getLast? = some p ∧ (posOf h.2.1 ks).getLast? = some p ∧ row[p]? = some (turned h)
  · obtain ⟨p, e1, e2, e3⟩ := q
    rw [sStep_true e1 e2 e3]
    obtain ⟨g, hg, hrow, _, _⟩ := K.get (List.mem_of_getLast? e1)
    have eg : g = turned h := by
      rw [hrow] at e3
      exact Option.some.inj e3
    subst eg
    obtain ⟨k1, k2, rfl⟩ := List.append_of_mem hg
    rw [List.map_append, List.map_cons, List.pairwise_append, List.pairwise_cons] at pw
    have f : ∀ e ∈ k2, hits h e.2 = false := fun e he => by
      refine (Bool.not_eq_true _).mp fun t => ?_
      have lt : p < e.1 := pw.2.1.1 e.1 (List.mem_map.mpr ⟨e, he, rfl⟩)
      have last : ∀ r, touches r e.2 = true → (posOf r (k1 ++ (p, turned h) :: k2)).getLast? = some p → False := fun r tr el => by
        rw [posOf_split, show (p, turned h) :: k2 = [(p, turned h)] ++ k2 from rfl, posOf_split] at el
        have ne : posOf r k2 ≠ [] := fun z => by
          have : e.1 ∈ posOf r k2 := List.mem_map.mpr ⟨e, List.mem_filter.mpr ⟨he, tr⟩, rfl⟩
          rw [z] at this; cases this
        rw [List.getLast?_append, List.getLast?_append] at el
        have hm : p ∈ posOf r k2 := by
          cases q2 : (posOf r k2).getLast? with
          | none => exact (ne (List.getLast?_eq_none_iff.mp q2)).elim
          | some x =>
            rw [q2] at el
            have : x = p := by simpa using el
            rw [← this]
            exact List.mem_of_getLast? q2
        obtain ⟨e', he', _⟩ := List.mem_map.mp hm
        have := pw.2.1.1 p (List.mem_map.mpr ⟨e', (List.mem_filter.mp he').1, by assumption⟩)
        omega
      unfold hits at t
      rw [Bool.or_eq_true] at t
      rcases t with t | t
      · exact last _ t e1
      · exact last _ t e2
    have ef : (k1 ++ (p, turned h) :: k2).filter (fun e => decide (e.1 ≠ p)) = k1 ++ k2 := by
      rw [List.filter_append, List.filter_cons_of_neg (by simp)]
      have g1 : k1.filter (fun e => decide (e.1 ≠ p)) = k1 := by
        rw [List.filter_eq_self]
        intro a ha
        have := pw.2.2 a.1 (List.mem_map.mpr ⟨a, ha, rfl⟩) p (List.mem_cons_self ..)
        exact decide_eq_true (by omega)
      have g2 : k2.filter (fun e => decide (e.1 ≠ p)) = k2 := by
        rw [List.filter_eq_self]
        intro a ha
        have := pw.2.1.1 a.1 (List.mem_map.mpr ⟨a, ha, rfl⟩)
        exact decide_eq_true (by omega)
      rw [g1, g2]
    rw [ef]
    unfold cstep
    have : ((k1 ++ (p, turned h) :: k2).map (·.2)).reverse = (k2.map (·.2)).reverse ++ turned h :: (k1.map (·.2)).reverse := by simp
    rw [this, strip_of (rev_free f)]
    simp
  · rw [sStep_false q]
    unfold cstep
    cases e : stripR h (ks.map (·.2)).reverse with
    | none => simp
    | some ρ' =>
      obtain ⟨y, x, e1, _, f⟩ := strip_some e
      have e2 : ks.map (·.2) = x.reverse ++ turned h :: y.reverse := by
        have := congrArg List.reverse e1
        simpa using this
      obtain ⟨k1, k2', rfl, m1, m2⟩ := List.map_eq_append_iff.mp e2
      obtain ⟨⟨p, g⟩, k2, rfl, m3, m4⟩ := List.map_eq_cons_iff.mp m2
      have m3 : g = turned h := m3
      subst m3
      refine (q ⟨p, ?_, ?_, K.inr (p, turned h) (by simp)⟩).elim
      all_goals
        have f2 : ∀ e ∈ k2, hits h e.2 = false := fun e he => f e.2 (by
          have : e.2 ∈ y.reverse := by rw [← m4]; exact List.mem_map.mpr ⟨e, he, rfl⟩
          exact List.mem_reverse.mp this)
      · rw [posOf_split, posOf_cons, if_pos (by rw [touch_t]; exact t1 h), posOf_free (t1 h) f2]
        simp
      · rw [posOf_split, posOf_cons, if_pos (by rw [touch_t]; exact t2 h), posOf_free (t2 h) f2]
        simp
theorem sLoop_nf : ∀ (hs row : RowT) (ks : KR) (i : Nat), row.drop i = hs → KOk row i ks → (ks.map (·.1)).Pairwise (· < ·) → ((sLoop row ks i hs).map (·.2)).reverse = nfL hs (ks.map (·.2)).reverse
  | [], row, ks, i, _, _, _ => rfl
  | h :: hs, row, ks, i, hd, K, pw => by
    have hi : row[i]? = some h := by
      have := congrArg List.head? hd
      rw [List.head?_drop] at this
      exact this
    have hd2 : row.drop (i + 1) = hs := by
      have := congrArg List.tail hd
      rw [List.tail_drop] at this
      exact this
    show ((sLoop row (sStep row ks i h) (i + 1) hs).map (·.2)).reverse = nfL hs (cstep h _)
    rw [sLoop_nf hs row _ (i + 1) hd2 (sStep_ok K hi) (sStep_pw K.lt pw), sStep_c K pw]
theorem settled_nf (row : RowT) : settledF row = (nfR row).reverse := by
  have := sLoop_nf row row [] 0 rfl ⟨(fun p h => nomatch h), (fun p h => nomatch h), List.nodup_nil⟩ List.Pairwise.nil
  have e : (settledF row).reverse = nfR row := this
  rw [← e, List.reverse_reverse]
theorem pile_settled (r : RowT) : pile (settledF r) = pile r := by
  rw [settled_nf, ← pile_nf, nf_red (red_nf r), pile_nf]
theorem settled_lines {r r' : RowT} (e : pile r = pile r') : linesP (settledF r) = linesP (settledF r') := by
  rw [settled_nf, settled_nf]
  rw [← pile_nf, ← pile_nf] at e
  exact lines_rev e
theorem lines_move {m : Hook} {u v : RowT} (f : ∀ g ∈ u, hits m g = false) : linesP (u ++ m :: v) = linesP (m :: (u ++ v)) := by
  funext r
  show lineR r _ = lineR r _
  rw [lineR_app, lineR_cons, lineR_cons, lineR_app]
  by_cases t : touches r m = true
  · rw [if_pos t, if_pos t, lineR_free t f]
    rfl
  · rw [if_neg t, if_neg t]
theorem lines_inj {m : Hook} {x y : RowT} (e : linesP (m :: x) = linesP (m :: y)) : linesP x = linesP y := by
  funext r
  have e0 : lineR r (m :: x) = lineR r (m :: y) := congrFun e r
  show lineR r _ = lineR r _
  rw [lineR_cons, lineR_cons] at e0
  by_cases t : touches r m = true
  · rw [if_pos t, if_pos t] at e0
    injection e0
  · rwa [if_neg t, if_neg t] at e0
theorem lines_cong {m : Hook} {x y : RowT} (e : linesP x = linesP y) : linesP (m :: x) = linesP (m :: y) := by
  funext r
  have e0 : lineR r x = lineR r y := congrFun e r
  show lineR r _ = lineR r _
  rw [lineR_cons, lineR_cons, e0]
/-- m may stand first -/
def AvR (r : RowT) (m : Hook) : Prop := ∃ u v, r = u ++ m :: v ∧ ∀ g ∈ u, hits m g = false
theorem avR_same {r r' : RowT} {m : Hook} (e : linesP r = linesP r') (a : AvR r m) : AvR r' m := by
  obtain ⟨u, v, rfl, f⟩ := a
  rw [lines_move f] at e
  obtain ⟨u', v', e1, f1, _⟩ := lines_cons e
  exact ⟨u', v', e1, f1⟩
theorem avail_split {K : KR} (nd : (K.map (·.1)).Nodup) {p : Nat} {m : Hook} (h : (p, m) ∈ avail K) : ∃ k1 k2, K = k1 ++ (p, m) :: k2 ∧ (∀ e ∈ k1, hits m e.2 = false) ∧ K.filter (fun e => decide (e.1 ≠ p)) = k1 ++ k2 := by
  obtain ⟨h1, h2, h3⟩ := avail_mem.mp h
  obtain ⟨k1, k2, rfl⟩ := List.append_of_mem h1
  rw [List.map_append, List.map_cons, List.nodup_append, List.nodup_cons] at nd
  have f : ∀ e ∈ k1, hits m e.2 = false := fun e he => by
    refine (Bool.not_eq_true _).mp fun t => ?_
    have no : ∀ r, touches r e.2 = true → (posOf r (k1 ++ (p, m) :: k2)).head? = some p → False := fun r tr el => by
      rw [posOf_split] at el
      cases q : posOf r k1 with
      | nil =>
        have : e.1 ∈ posOf r k1 := List.mem_map.mpr ⟨e, List.mem_filter.mpr ⟨he, tr⟩, rfl⟩
        rw [q] at this; cases this
      | cons x xs =>
        rw [q] at el
        have ex : x = p := by simpa using el
        have hm : x ∈ posOf r k1 := by rw [q]; exact List.mem_cons_self ..
        obtain ⟨e', he', e1⟩ := List.mem_map.mp hm
        exact nd.2.2 x (List.mem_map.mpr ⟨e', (List.mem_filter.mp he').1, e1⟩) p (List.mem_cons_self ..) ex
    unfold hits at t
    rw [Bool.or_eq_true] at t
    rcases t with t | t
    · exact no _ t h2
    · exact no _ t h3
  refine ⟨k1, k2, rfl, f, ?_⟩
  rw [List.filter_append, List.filter_cons_of_neg (by simp)]
  have g1 : k1.filter (fun e => decide (e.1 ≠ p)) = k1 := by
    rw [List.filter_eq_self]
    intro a ha
    exact decide_eq_true fun z => nd.2.2 a.1 (List.mem_map.mpr ⟨a, ha, rfl⟩) p (List.mem_cons_self ..) z
  have g2 : k2.filter (fun e => decide (e.1 ≠ p)) = k2 := by
    rw [List.filter_eq_self]
    intro a ha
    exact decide_eq_true fun z => nd.2.1.1 (z ▸ List.mem_map.mpr ⟨a, ha, rfl⟩)
  rw [g1, g2]
theorem avail_iff {K : KR} (nd : (K.map (·.1)).Nodup) {m : Hook} : (∃ p, (p, m) ∈ avail K) ↔ AvR (K.map (·.2)) m := by
  constructor
  · rintro ⟨p, h⟩
    obtain ⟨k1, k2, rfl, f, _⟩ := avail_split nd h
    refine ⟨k1.map (·.2), k2.map (·.2), by simp, fun g hg => ?_⟩
    obtain ⟨e, he, rfl⟩ := List.mem_map.mp hg
    exact f e he
  · rintro ⟨u, v, e, f⟩
    obtain ⟨k1, k2', rfl, m1, m2⟩ := List.map_eq_append_iff.mp e
    obtain ⟨⟨p, g⟩, k2, rfl, m3, m4⟩ := List.map_eq_cons_iff.mp m2
    have m3 : g = m := m3
    subst m3
    have f2 : ∀ e ∈ k1, hits g e.2 = false := fun e he => f e.2 (by rw [← m1]; exact List.mem_map.mpr ⟨e, he, rfl⟩)
    refine ⟨p, avail_mem.mpr ⟨by simp, ?_, ?_⟩⟩
    · rw [posOf_split, posOf_free (t1 g) f2, posOf_cons, if_pos (t1 g)]; rfl
    · rw [posOf_split, posOf_free (t2 g) f2, posOf_cons, if_pos (t2 g)]; rfl
/-- one turn of the first order -/
theorem firstG_one {n : Nat} {K : KR} (nd : (K.map (·.1)).Nodup) (hn : K.length = n + 1) : ∃ p m k1 k2, (p, m) ∈ avail K ∧ K = k1 ++ (p, m) :: k2 ∧ (∀ e ∈ k1, hits m e.2 = false) ∧ firstG (n + 1) K = m :: firstG n (k1 ++ k2) ∧ ∀ z, AvR (K.map (·.2)) z → ¬ ltH z m := by
  cases e : (avail K).map (·.2) with
  | nil =>
    cases K with
    | nil => cases hn
    | cons e0 K0 =>
      have : e0.2 ∈ (avail (e0 :: K0)).map (·.2) := List.mem_map.mpr ⟨e0, avail_ne, rfl⟩
      rw [e] at this; cases this
  | cons x xs =>
    obtain ⟨m1, m2⟩ := minH_spec xs x
    have hm := m1
    rw [← e] at hm
    obtain ⟨⟨p, m⟩, hp, em⟩ := List.mem_map.mp hm
    have em : m = minH x xs := em
    obtain ⟨k1, k2, ek, f, ef⟩ := avail_split nd hp
    refine ⟨p, m, k1, k2, hp, ek, f, ?_, fun z hz => ?_⟩
    · show (match (avail K).map (·.2) with
        | [] => []
        | x :: xs => minH x xs :: firstG n (K.filter fun e => decide (some e.1 ≠ (posOf (minH x xs).1 K).head?))) = _
      rw [e]
      simp only
      rw [← em, (avail_mem.mp hp).2.1]
      have eq : (K.filter fun e => decide (some e.1 ≠ some p)) = K.filter fun e => decide (e.1 ≠ p) := by
        refine List.filter_congr fun a _ => ?_
        by_cases q : a.1 = p <;> simp [q]
      rw [eq, ef]
    · obtain ⟨q, hq⟩ := (avail_iff nd).mpr hz
      have : z ∈ x :: xs := by rw [← e]; exact List.mem_map.mpr ⟨(q, z), hq, rfl⟩
      rw [em]
      exact m2 z this
theorem nd_del {k1 k2 : KR} {e : Nat × Hook} (nd : ((k1 ++ e :: k2).map (·.1)).Nodup) : ((k1 ++ k2).map (·.1)).Nodup := nd.sublist ((List.Sublist.append_left (List.sublist_cons_self e k2) k1).map _)
theorem firstG_lines : ∀ (n : Nat) (K : KR), (K.map (·.1)).Nodup → K.length = n → linesP (firstG n K) = linesP (K.map (·.2))
  | 0, K, _, hn => by rw [List.length_eq_zero_iff.mp hn]; rfl
  | n + 1, K, nd, hn => by
    obtain ⟨p, m, k1, k2, _, rfl, f, e, _⟩ := firstG_one nd hn
    have ih := firstG_lines n (k1 ++ k2) (nd_del nd) (by simp at hn ⊢; omega)
    rw [e, lines_cong ih, List.map_append, List.map_append, List.map_cons, lines_move]
    intro g hg
    obtain ⟨x, hx, rfl⟩ := List.mem_map.mp hg
    exact f x hx
theorem firstG_same : ∀ (n : Nat) (K K' : KR), (K.map (·.1)).Nodup → (K'.map (·.1)).Nodup → K.length = n → K'.length = n → linesP (K.map (·.2)) = linesP (K'.map (·.2)) → firstG n K = firstG n K'
  | 0, _, _, _, _, _, _, _ => rfl
  | n + 1, K, K', nd, nd', hn, hn', e => by
    obtain ⟨p, m, k1, k2, hp, rfl, f, e1, l1⟩ := firstG_one nd hn
    obtain ⟨p', m', k1', k2', hp', rfl, f', e1', l1'⟩ := firstG_one nd' hn'
    have em : m = m' := by
      refine ltH_total (l1' m ?_) (l1 m' ?_)
      · exact avR_same e ((avail_iff nd).mp ⟨p, hp⟩)
      · exact avR_same e.symm ((avail_iff nd').mp ⟨p', hp'⟩)
    subst em
    have fr : ∀ {k : KR}, (∀ e ∈ k, hits m e.2 = false) → ∀ g ∈ k.map (·.2), hits m g = false := fun f g hg => by
      obtain ⟨x, hx, rfl⟩ := List.mem_map.mp hg
      exact f x hx
    rw [List.map_append, List.map_cons, List.map_append, List.map_cons, lines_move (fr f), lines_move (fr f')] at e
    have e2 := lines_inj e
    rw [e1, e1', firstG_same n (k1 ++ k2) (k1' ++ k2') (nd_del nd) (nd_del nd') (by simp at hn ⊢; omega) (by simp at hn' ⊢; omega) (by rw [List.map_append, List.map_append]; exact e2)]
theorem enR_map : ∀ (row : RowT) (i : Nat), (enR i row).map (·.2) = row
  | [], _ => rfl
  | h :: hs, i => by
    show h :: (enR (i + 1) hs).map (·.2) = _
    rw [enR_map hs]
theorem first_lines (row : RowT) : linesP (firstF row) = linesP row := by
  unfold firstF
  rw [firstG_lines row.length (enR 0 row) (enR_nd row 0) (enR_len 0 row), enR_map]
theorem lines_len : ∀ {r r' : RowT}, linesP r = linesP r' → r.length = r'.length
  | [], r', e => by rw [lines_nil e.symm]
  | h :: r, r', e => by
    obtain ⟨u, v, rfl, _, e2⟩ := lines_cons e
    have := lines_len e2
    simp at this ⊢
    omega
theorem first_same {r r' : RowT} (e : linesP r = linesP r') : firstF r = firstF r' := by
  unfold firstF
  rw [← lines_len e]
  exact firstG_same r.length _ _ (enR_nd r 0) (enR_nd r' 0) (enR_len 0 r) (by rw [enR_len, lines_len e]) (by rw [enR_map, enR_map]; exact e)
theorem pile_of_lines {r r' : RowT} (e : linesP r = linesP r') : pile r = pile r' := acts_same e _
theorem pile_least (r : RowT) : pile (leastF r) = pile r := by
  unfold leastF
  rw [pile_of_lines (first_lines _), pile_settled]
theorem least_same {r r' : RowT} (e : pile r = pile r') : leastF r = leastF r' := first_same (settled_lines e)
theorem touch_lines {r : RowT} {s : Str} : (∃ h ∈ r, touches s h = true) ↔ linesP r s ≠ [] := by
  show _ ↔ lineR s r ≠ []
  unfold lineR
  rw [Ne, List.filter_eq_nil_iff]
  constructor
  · rintro ⟨h, hh, t⟩ q
    exact q h hh t
  · intro q
    refine Classical.byContradiction fun z => q fun h hh t => z ⟨h, hh, t⟩
theorem ropes_same {r r' : RowT} (e : linesP r = linesP r') : ropesF r = ropesF r' := by
  unfold ropesF
  congr 1
  refine sortK_uniq (ropesK_nd r) (ropesK_nd r') fun k => ?_
  have key : ∀ {x y : RowT}, linesP x = linesP y → k ∈ ropesK x → k ∈ ropesK y := fun {x y} e h => by
    obtain ⟨h0, hh, z⟩ := (ropesK_mem x k).mp h
    have go : ∀ s, touches s h0 = true → k = .inr s → k ∈ ropesK y := fun s t ek => by
      have : linesP y s ≠ [] := by rw [← e]; exact touch_lines.mp ⟨h0, hh, t⟩
      obtain ⟨g, hg, tg⟩ := touch_lines.mpr this
      refine (ropesK_mem y k).mpr ⟨g, hg, ?_⟩
      rw [ek]
      exact (touches_iff.mp tg).imp (fun z => by rw [z]) fun z => by rw [z]
    rcases z with z | z
    · exact go _ (t1 h0) z
    · exact go _ (t2 h0) z
  exact ⟨key e, key e.symm⟩
theorem held_same {r r' : RowT} (e : pile r = pile r') : heldF r = heldF r' := ropes_same (settled_lines e)
theorem drawn_same {r r' : RowT} (ss : List Str) (e : pile r = pile r') : pile (drawnF r ss) = pile (drawnF r' ss) := pile_filter (fun h => rfl) e
theorem kept_same {r r' : RowT} (ss : List Str) (e : pile r = pile r') : pile (keptF r ss) = pile (keptF r' ss) := pile_filter (fun h => rfl) e
end SH
namespace SH
open PySem PySem.Spec PyProof.Rows L2 DL
theorem Box.flat {N : Int} {bs : List PyData} (h : Box N bs) : bs.all flatX = true := by
  obtain ⟨x, c, n, rfl, _⟩ := h
  rfl
theorem first_mem {r : Row} {h : Hook} (m : h ∈ firstF r) : h ∈ r := by
  have e := congrFun (first_lines r) h.1
  have : h ∈ lineR h.1 (firstF r) := List.mem_filter.mpr ⟨m, t1 h⟩
  have : h ∈ linesP (firstF r) h.1 := this
  rw [e] at this
  exact (List.mem_filter.mp this).1
theorem least_mem {r : Row} {h : Hook} (m : h ∈ leastF r) : h ∈ r := settled_mem (first_mem m)
theorem least_len (r : Row) : (leastF r).length ≤ r.length := by
  unfold leastF
  rw [lines_len (first_lines (settledF r))]
  exact settled_len r
theorem RowIn.least {row : Row} (h : RowIn row) : RowIn (leastF row) := fun x hx => h x (least_mem hx)
theorem RowIn.ok {row : Row} (h : RowIn row) : RowOk row := fun x hx => ⟨(h x hx).1, (h x hx).2.1⟩
theorem leastF_nil : leastF [] = [] := by
  have := least_len []
  exact List.length_eq_zero_iff.mp (by simpa using this)
end SH
namespace SH
open PySem PySem.Spec PyProof.Rows L2 DL
theorem pw_nodup {l : List Str} (h : l.Pairwise fun x y => cs x < cs y) : l.Nodup := by
  rw [List.nodup_iff_pairwise_ne]
  exact h.imp fun q => cs_ne q
theorem strict_uniq {l l' : List Str} (h1 : l.Pairwise fun x y => cs x < cs y) (h2 : l'.Pairwise fun x y => cs x < cs y) (h : ∀ z, z ∈ l ↔ z ∈ l') : l = l' := by
  refine sorted_uniq (le := strLe) (fun {a b} p q => ?_) ((List.perm_ext_iff_of_nodup (pw_nodup h1) (pw_nodup h2)).mpr h) (h1.imp fun q => ?_) (h2.imp fun q => ?_)
  · have p := of_decide_eq_true p
    have q := of_decide_eq_true q
    exact PySem.W.str_of_cps (List.le_antisymm p q)
  · exact decide_eq_true (List.le_of_lt q)
  · exact decide_eq_true (List.le_of_lt q)
theorem ropesF_nd (row : Row) : (ropesF row).Nodup := by
  have nd : ((ropesK row).mergeSort leK).Nodup := (List.mergeSort_perm _ _).nodup_iff.mpr (ropesK_nd row)
  have e := ropesF_keys row
  have nd2 : (((ropesK row).mergeSort leK).map keyP).Nodup := by
    rw [List.nodup_iff_pairwise_ne, List.pairwise_map]
    rw [List.nodup_iff_pairwise_ne] at nd
    refine nd.imp fun {a b} ne z => ne ?_
    cases a <;> cases b <;> simp [keyP] at z ⊢ <;> exact z
  rw [e, List.nodup_iff_pairwise_ne, List.pairwise_map] at nd2
  rw [List.nodup_iff_pairwise_ne]
  exact nd2.imp fun ne z => ne (by rw [z])
theorem ropesF_names {row : Row} (h : RowIn row) : Names (ropesF row) := by
  have hn : ∀ z ∈ ropesF row, IsName z := fun z hz => by
    obtain ⟨g, hg, t⟩ := (ropesF_mem row z).mp hz
    rcases touches_iff.mp t with rfl | rfl
    · exact (h g hg).1
    · exact (h g hg).2.1
  obtain ⟨n, _⟩ := sorted_names hn (ropesF_nd row)
  have e : ropesF row = (ropesF row).mergeSort strLe := by
    refine ropesF_eq n.2 fun r => ?_
    rw [(List.mergeSort_perm _ _).mem_iff, ropesF_mem]
  rw [e]
  exact n
theorem held_ok {row : Row} (h : RowIn row) : Names (heldF row) := ropesF_names h.settled
theorem held_mem {row : Row} {z : Str} : z ∈ heldF row ↔ ∃ h ∈ settledF row, touches z h = true := ropesF_mem _ z
/-- ropes that aren't held may be drawn -/
theorem drawn_off {r : Row} {tt : List Str} (h : ∀ z ∈ tt, z ∉ heldF r) : pile (drawnF r tt) = pile r := by
  have e : drawnF (settledF r) tt = settledF r := by
    unfold drawnF
    rw [List.filter_eq_self]
    intro g hg
    have n1 : g.1 ∉ tt := fun q => h _ q (held_mem.mpr ⟨g, hg, t1 g⟩)
    have n2 : g.2.1 ∉ tt := fun q => h _ q (held_mem.mpr ⟨g, hg, t2 g⟩)
    simp [n1, n2]
  rw [← drawn_same tt (pile_settled r), e, pile_settled]
theorem held_drawn {r : Row} {tt : List Str} {z : Str} (h : z ∈ heldF (drawnF r tt)) : z ∈ heldF r ∧ z ∉ tt := by
  rw [held_same (drawn_same tt (pile_settled r)).symm] at h
  obtain ⟨g, hg, t⟩ := held_mem.mp h
  have hg := settled_mem hg
  unfold drawnF at hg
  obtain ⟨m, q⟩ := List.mem_filter.mp hg
  refine ⟨held_mem.mpr ⟨g, m, t⟩, ?_⟩
  rw [Bool.and_eq_true] at q
  rcases touches_iff.mp t with rfl | rfl
  · simpa using q.1
  · simpa using q.2
theorem held_least (r : Row) : heldF (leastF r) = heldF r := held_same (pile_least r)
theorem held_iff (r : Row) (z : Str) : z ∈ heldF r ↔ leastF (drawnF r [z]) ≠ leastF r := by
  constructor
  · intro h e
    have := held_least (drawnF r [z])
    rw [e, held_least] at this
    rw [this] at h
    exact (held_drawn h).2 (List.mem_singleton.mpr rfl)
  · intro h
    refine Classical.byContradiction fun n => h (least_same (drawn_off fun y hy => ?_))
    rw [List.mem_singleton.mp hy]
    exact n
theorem kept_rest {ns : List Str} {r : Row} (h : RowOf ns r) (tt : List Str) : keptF r (ns.filter fun z => !decide (z ∈ tt)) = drawnF r tt := by
  unfold keptF drawnF
  refine List.filter_congr fun g hg => ?_
  obtain ⟨a, b, _⟩ := h g hg
  simp [List.mem_filter, a, b]
end SH
namespace SH
open PySem PySem.Spec PyProof.Rows L2 DL
theorem pile_come (u v : Row) (h : Hook) : pile (u ++ h :: turned h :: v) = pile (u ++ v) := by
  rw [pile_app, pile_app]
  show acts v (act (turned h) (act h (pile u))) = _
  rw [cancel]
theorem pile_swap {x y : Hook} (e : hits x y = false) (u v : Row) : pile (u ++ y :: x :: v) = pile (u ++ x :: y :: v) := by
  rw [pile_app, pile_app]
  show acts v (act x (act y (pile u))) = acts v (act y (act x (pile u)))
  rw [act_comm e]
theorem pile_back : ∀ (r u v : Row), pile (u ++ r ++ back r ++ v) = pile (u ++ v)
  | [], u, v => by simp [back]
  | h :: r, u, v => by
    have e : u ++ h :: r ++ back (h :: r) ++ v = (u ++ [h]) ++ r ++ back r ++ (turned h :: v) := by simp [back]
    rw [e, pile_back r (u ++ [h]) (turned h :: v)]
    have e2 : u ++ [h] ++ turned h :: v = u ++ h :: turned h :: v := by simp
    rw [e2, pile_come]
theorem back_back (r : Row) : back (back r) = r := by
  unfold back
  rw [← List.map_reverse, List.reverse_reverse, List.map_map]
  have : (turned ∘ turned) = id := funext fun h => turned2 h
  rw [this, List.map_id]
inductive StepT where
  | come (a : Int) (h : Hook)
  | change (a : Int)
  | go (a : Int)
def StepT.at : StepT → Int
  | .come a _ => a
  | .change a => a
  | .go a => a
def StepT.word : StepT → Str
  | .come _ _ => "come"
  | .change _ => "change"
  | .go _ => "go"
def two (r : Row) (a : Int) (f : Hook → Hook → Bool) : Bool := decide (0 ≤ a) && (decide (a < (r.length : Int) - 1) && (match r.drop a.toNat with
  | x :: y :: _ => f x y
  | _ => false))
def canF (r : Row) : StepT → Bool
  | .come a _ => decide (0 ≤ a) && decide (a ≤ (r.length : Int))
  | .change a => two r a fun x y => !hits x y
  | .go a => two r a fun x y => decide (y = turned x)
def goneF (r : Row) : StepT → Row
  | .come a h => r.take a.toNat ++ (h :: turned h :: r.drop a.toNat)
  | .change a => r.take a.toNat ++ (match r.drop a.toNat with
    | x :: y :: v => y :: x :: v
    | v => v)
  | .go a => r.take a.toNat ++ r.drop (a.toNat + 2)
theorem two_split {r : Row} {a : Int} {f : Hook → Hook → Bool} (h0 : 0 ≤ a) (h1 : a < (r.length : Int) - 1) : ∃ (n : Nat) (u v : Row) (x y : Hook), a = (n : Int) ∧ u.length = n ∧ r = u ++ x :: y :: v ∧ two r a f = f x y := by
  obtain ⟨n, rfl⟩ := Int.eq_ofNat_of_zero_le h0
  have ln : n + 2 ≤ r.length := by omega
  have e := List.take_append_drop n r
  have l1 : (r.take n).length = n := by rw [List.length_take]; omega
  have l2 : (r.drop n).length = r.length - n := List.length_drop ..
  cases hd : r.drop n with
  | nil => rw [hd] at l2; simp at l2; omega
  | cons x w =>
    cases w with
    | nil => rw [hd] at l2; simp at l2; omega
    | cons y v =>
      refine ⟨n, r.take n, v, x, y, rfl, l1, by rw [← hd]; exact e.symm, ?_⟩
      unfold two
      rw [Int.toNat_natCast, hd, decide_eq_true h0, decide_eq_true h1]
      rfl
theorem two_no {r : Row} {a : Int} {f : Hook → Hook → Bool} (h : ¬ (0 ≤ a ∧ a < (r.length : Int) - 1)) : two r a f = false := by
  unfold two
  by_cases c : 0 ≤ a
  · rw [decide_eq_false (fun q => h ⟨c, q⟩)]; simp
  · rw [decide_eq_false c]; rfl
theorem drop_at {α : Type} (u v : List α) {n : Nat} (h : u.length = n) : (u ++ v).drop n = v ∧ (u ++ v).take n = u := by
  rw [← h]
  exact ⟨List.drop_left .., List.take_left ..⟩
/-- a step leads to a row alike -/
theorem pile_gone {r : Row} {s : StepT} (h : canF r s = true) : pile (goneF r s) = pile r := by
  cases s with
  | come a g =>
    show pile (r.take a.toNat ++ g :: turned g :: r.drop a.toNat) = _
    rw [pile_come, List.take_append_drop]
  | change a =>
    by_cases c : 0 ≤ a ∧ a < (r.length : Int) - 1
    · obtain ⟨n, u, v, x, y, rfl, hu, rfl, e⟩ := two_split (f := fun x y => !hits x y) c.1 c.2
      have hh : (!hits x y) = true := e.symm.trans h
      have nh : hits x y = false := by simpa using hh
      show pile ((u ++ x :: y :: v).take n ++ (match (u ++ x :: y :: v).drop n with
        | x :: y :: v => y :: x :: v
        | v => v)) = _
      rw [(drop_at u _ hu).1, (drop_at u _ hu).2]
      exact pile_swap nh u v
    · have := two_no (f := fun x y => !hits x y) c
      rw [canF, this] at h
      cases h
  | go a =>
    by_cases c : 0 ≤ a ∧ a < (r.length : Int) - 1
    · obtain ⟨n, u, v, x, y, rfl, hu, rfl, e⟩ := two_split (f := fun x y => decide (y = turned x)) c.1 c.2
      have hh : y = turned x := of_decide_eq_true (e.symm.trans h)
      subst hh
      show pile ((u ++ x :: turned x :: v).take n ++ (u ++ x :: turned x :: v).drop (n + 2)) = _
      rw [(drop_at u _ hu).2, ← List.drop_drop, (drop_at u _ hu).1]
      exact (pile_come u v x).symm
    · have := two_no (f := fun x y => decide (y = turned x)) c
      rw [canF, this] at h
      cases h
end SH
namespace SH
open PySem PySem.Spec PyProof.Rows L2 DL
theorem acts_step (h : Hook) (q ρ : Row) : acts (cstep h ρ).reverse (pile q) = act h (acts ρ.reverse (pile q)) := by
  unfold cstep
  cases e : stripR h ρ with
  | none =>
    show acts (h :: ρ).reverse (pile q) = _
    rw [List.reverse_cons, acts_app]
    rfl
  | some ρ' =>
    obtain ⟨y, x, rfl, rfl, f⟩ := strip_some e
    have f' : ∀ g ∈ y.reverse, hits h g = false := fun g hg => f g (List.mem_reverse.mp hg)
    show acts (y ++ x).reverse (pile q) = _
    rw [List.reverse_append, List.reverse_append, List.reverse_cons, acts_app, acts_app, acts_app, acts_free f']
    show _ = acts y.reverse (act h (act (turned h) (acts x.reverse (pile q))))
    rw [← pile_app, cancel2]
theorem acts_nfL (q : Row) : ∀ (r ρ : Row), acts (nfL r ρ).reverse (pile q) = acts r (acts ρ.reverse (pile q))
  | [], ρ => rfl
  | h :: r, ρ => by
    show acts (nfL r (cstep h ρ)).reverse (pile q) = acts r (act h (acts ρ.reverse (pile q)))
    rw [acts_nfL q r, acts_step]
theorem acts_settled (q r : Row) : acts (settledF r) (pile q) = acts r (pile q) := by
  rw [settled_nf]
  exact acts_nfL q r []
theorem acts_least (q r : Row) : acts (leastF r) (pile q) = acts r (pile q) := by
  unfold leastF
  rw [acts_same (first_lines (settledF r)), acts_settled]
theorem pile_both {r r' q q' : Row} (h1 : pile r = pile r') (h2 : pile q = pile q') : pile (r ++ q) = pile (r' ++ q') := by
  rw [pile_app, pile_app, ← acts_least r q, ← acts_least r' q', least_same h2, h1]
theorem pile_undo (r : Row) : pile (r ++ back r) = pile [] := by
  have := pile_back r [] []
  simpa using this
theorem pile_undo2 (r : Row) : pile (back r ++ r) = pile [] := by
  have := pile_undo (back r)
  rwa [back_back] at this
theorem pile_backs {r r' : Row} (h : pile r = pile r') : pile (back r) = pile (back r') := by
  have e1 : pile (back r ++ (r' ++ back r')) = pile (back r) := by
    have := pile_both (r := back r) rfl (pile_undo r')
    rwa [List.append_nil] at this
  have e2 : pile ((back r ++ r) ++ back r') = pile (back r') := by
    have := pile_both (pile_undo2 r) (q := back r') rfl
    rwa [List.nil_append] at this
  rw [← e1, ← List.append_assoc, ← e2]
  exact pile_both (pile_both rfl h.symm) rfl
theorem held_ropes (r : Row) : heldF r = ropesF (leastF r) := (ropes_same (first_lines (settledF r))).symm
def putF (r q : Row) : Row := leastF (r ++ q)
theorem pile_nil_least {r : Row} (h : pile r = pile []) : leastF r = [] := by rw [least_same h, leastF_nil]
end SH
namespace DL
open PySem PySem.Spec PyProof.Rows L2
/-- a tuple of texts -/
def strsD (ss : List Str) : PyData := .tuple (ss.map .str)
/-- its key: how many, and itself -/
def keyLen (ss : List Str) : PyData := .tuple [.int (ss.length : Nat), strsD ss]
def leLen (a b : List Str) : Bool := !PySem.W.dataLt (keyLen b) (keyLen a)
def StrsAt (h : Heap) (v : Value) (ss : List Str) : Prop := ∃ (a : Addr) (its : List Value), v = .ref a ∧ IsTup h a its.toArray ∧ PySem.W.EachIs (fun (u : Value) (z : Str) => ∃ t : Tok, u = .str z t) its ss
theorem StrsAt.keeps {h h' : Heap} {v : Value} {ss : List Str} (k : ∀ b o, h.get? b = some o → h'.get? b = some o) (x : StrsAt h v ss) : StrsAt h' v ss := by
  obtain ⟨a, its, e, ⟨o, ho, r⟩, q⟩ := x
  exact ⟨a, its, e, ⟨o, k _ _ ho, r⟩, q⟩
theorem strs_reads {h : Heap} : ∀ {its : List Value} {ss : List Str}, PySem.W.EachIs (fun (u : Value) (z : Str) => ∃ t : Tok, u = .str z t) its ss → ReadsAll h its (ss.map .str) []
  | _, _, .nil => .nil
  | _, _, .cons r t => by
    obtain ⟨tk, rfl⟩ := r
    exact ReadsAll.cons (as := []) (bs := []) (Reads.str _ tk) (strs_reads t)
theorem StrsAt.reads {h : Heap} {v : Value} {ss : List Str} (x : StrsAt h v ss) : Reads h v (strsD ss) [] := by
  obtain ⟨a, its, rfl, ⟨o, ho, hc, n, hd⟩, q⟩ := x
  exact Reads.tuple ho hc hd (strs_reads q)
section raw
variable {P : Program} {w : World} {A B : Around} {E : Value → Shared → Prop} {s : Shared}
/-- a call of a key's def keeps all that was there -/
def KeyRaw (P : Program) (w : World) (K : PySem.W.Frag) (mg : Str → Option Value) (base : Heap) (f : Addr) (k : Nat) : Prop :=
  ∀ (A : Around) (outer : List Env) (s : Shared) (H : Hp) (v : Value) (ss : List Str), RoomG k A → Env0 P w K mg base A outer s H → StrsAt s.heap v ss → ss.length ≤ 1000000 →
    wpAny (model P w) A (call (.ref f) [v]) (PySem.W.KeyPure (keyLen ss) s) (fun _ _ => False) s
end raw
section
variable {P : Program} {w : World} {K : PySem.W.Frag} {mg : Str → Option Value} {base : Heap} {x qual : Str} {st : Stmt} {f : Addr} {fd : FuncData} {k : Nat} {p : Str} {p1 p2 p3 p4 p5 p6 p7 p8 : Pos} {kk : Nat}
end
theorem RoomG.two {k : Nat} {A : Around} (r : RoomG (k + 2) A) : RoomG k A.in1.in1 := ⟨(show Room (k + 1) A.in1 from Room.in1 r.toRoom).in1, r.gu⟩
/-- a def that tells (len, itself), by name -/
structure KeyCal (P : Program) (w : World) (K : PySem.W.Frag) (mg : Str → Option Value) (base : Heap) (x : Str) (k : Nat) : Prop where
  ex : ∃ (f : Addr) (j : Nat), mg x = some (.ref f) ∧ j + 2 ≤ k ∧ KeyRaw P w K mg base f j
theorem KeyCal.mono {P : Program} {w : World} {K : PySem.W.Frag} {mg : Str → Option Value} {base : Heap} {x : Str} {j k : Nat} (C : KeyCal P w K mg base x j) (h : j ≤ k) : KeyCal P w K mg base x k := by
  obtain ⟨f, i, a, b, c⟩ := C.ex
  exact ⟨f, i, a, Nat.le_trans b h, c⟩
section
variable {X : Cx} {e : Expr} {we : DTE} {p p2 pos kpos : Pos}
end
end DL
namespace SH
open PySem PySem.Spec PyProof.Rows L2 DL
theorem leLen_total : PySem.W.TotalLe leLen := PySem.W.sortLe_total (listOrd itemOrd) false fun ss : List Str => PySem.W.keyToks (keyLen ss)
theorem toks_all_cons' (x : PyData) (xs : List PyData) : PySem.W.keyToksAll (x :: xs) = .inl 1 :: (PySem.W.keyToks x ++ PySem.W.keyToksAll xs) := by simp [PySem.W.keyToksAll]
theorem toks_strs : ∀ {a b : List Str}, PySem.W.keyToksAll (a.map PyData.str) = PySem.W.keyToksAll (b.map PyData.str) → a = b
  | [], [], _ => rfl
  | [], y :: b, h => by
    rw [List.map_cons, toks_all_cons'] at h
    simp [PySem.W.keyToksAll] at h
  | x :: a, [], h => by
    rw [List.map_cons, toks_all_cons'] at h
    simp [PySem.W.keyToksAll] at h
  | x :: a, y :: b, h => by
    rw [List.map_cons, List.map_cons, toks_all_cons', toks_all_cons'] at h
    simp only [PySem.W.keyToks, List.singleton_append, List.cons.injEq, Sum.inr.injEq, true_and] at h
    rw [PySem.W.str_of_cps h.1, toks_strs h.2]
theorem leLen_anti {a b : List Str} (h1 : leLen a b = true) (h2 : leLen b a = true) : a = b := by
  have e := (listOrd itemOrd).total (PySem.W.keyToks (keyLen a)) (PySem.W.keyToks (keyLen b)) (by simpa [leLen, PySem.W.dataLt] using h2) (by simpa [leLen, PySem.W.dataLt] using h1)
  simp only [keyLen, strsD, PySem.W.keyToks] at e
  rw [toks_all_cons', toks_all_cons', toks_all_cons', toks_all_cons'] at e
  simp only [PySem.W.keyToks, List.singleton_append, List.cons.injEq, true_and] at e
  exact toks_strs (List.append_cancel_right e.2)
theorem leLen_sorted (l : List (List Str)) : (l.mergeSort leLen).Pairwise fun a b => leLen a b = true := PySem.W.sort_pairwise leLen_total l
def subsF (ns : List Str) : List (List Str) := ns.foldl (fun f z => f ++ f.map fun s => s ++ [z]) [[]]
def stepF (f : List (List Str)) (z : Str) : List (List Str) := f ++ f.map fun s => s ++ [z]
theorem subs_sub : ∀ (ns : List Str) (ps : List Str) (f : List (List Str)), (∀ s ∈ f, s.Sublist ps) → ∀ s ∈ ns.foldl stepF f, s.Sublist (ps ++ ns)
  | [], ps, f, h, s, hs => by simpa using h s hs
  | z :: ns, ps, f, h, s, hs => by
    have e : ps ++ z :: ns = (ps ++ [z]) ++ ns := by simp
    rw [e]
    refine subs_sub ns (ps ++ [z]) (stepF f z) (fun t ht => ?_) s hs
    rcases List.mem_append.mp ht with q | q
    · exact (h t q).trans (List.sublist_append_left ps [z])
    · obtain ⟨u, hu, rfl⟩ := List.mem_map.mp q
      exact (h u hu).append (List.Sublist.refl [z])
theorem subs_of {ns : List Str} {s : List Str} (h : s ∈ subsF ns) : s.Sublist ns := by
  have := subs_sub ns [] [[]] (fun t ht => by rw [List.mem_singleton.mp ht]; exact List.Sublist.refl _) s h
  simpa using this
def setsF (ns : List Str) (low : Nat) : List (List Str) := ((subsF ns).mergeSort leLen).filter fun s => decide (low ≤ s.length)
theorem sets_of {ns : List Str} {low : Nat} {s : List Str} (h : s ∈ setsF ns low) : s.Sublist ns ∧ low ≤ s.length := by
  obtain ⟨h1, h2⟩ := List.mem_filter.mp h
  exact ⟨subs_of ((List.mergeSort_perm _ _).mem_iff.mp h1), of_decide_eq_true h2⟩
theorem sets_sorted (ns : List Str) (low : Nat) : (setsF ns low).Pairwise fun a b => leLen a b = true := (leLen_sorted _).sublist List.filter_sublist
end SH
namespace SH
open PySem PySem.Spec PyProof.Rows L2 DL
theorem bools_f {α : Type} (f : α → Bool) : ∀ xs : List α, bools (xs.map fun x => .bool (f x)) = some (xs.map f)
  | [] => rfl
  | x :: xs => by
    rw [List.map_cons]
    unfold bools
    rw [bools_f f xs]
    rfl
theorem all_f {α : Type} (f : α → Bool) (xs : List α) : allC (fun bs => bs.all id) [.list (xs.map fun x => .bool (f x))] = some (.v (.bool (xs.all f))) := by
  unfold allC
  simp only [bools_f, Option.map_some]
  rw [List.all_map]
  rfl
theorem least_least (r : Row) : leastF (leastF r) = leastF r := least_same (pile_least r)
end SH
namespace DL
open PySem PySem.Spec PyProof.Rows L2
def wChain (g g' : PyData → PyData → Option Out) (wa wb wc : DTE) : DTE := fun ρ κ P => wa ρ κ fun r1 κ1 => wb ρ κ1 fun r2 κ2 => Opt (val κ2 r1.st) fun x => Opt (val κ2 r2.st) fun y => Opt (g x y) fun o => match o with
  | .v (.bool z) => if z = true then wc ρ κ2 fun r3 κ3 => Opt (val κ3 r2.st) fun y' => Opt (val κ3 r3.st) fun u => Opt (g' y' u) fun o' => P o'.r κ3 else P (.d (.bool false)) κ2
  | _ => False
section
variable {X : Cx} {a b c : Expr} {wa wb wc : DTE} {pos : Pos}
theorem chain_reads {ta tb tc : TE} {r2 r2' : R2} {g g' : PyData → PyData → Option Out} (hg : OpD X.K r2 g) (hg' : OpD X.K r2' g')
    (ha : ∀ (G H : Hp) (As : List Addr) (σ : L2.St) (ρ : Rho) (κ : Kap) (P : R → Kap → Prop) (Q : VK), Cells X.K G H As κ → Places X.K G As σ ρ → wa ρ κ P → (∀ v r G' H' As' κ', Step G H As G' H' As' → Cells X.K G' H' As' κ' → Places X.K G' As' σ ρ → Rv X.K H G' H' As' v r → P r κ' → Q v H') → ta σ H Q)
    (hb : ∀ (G H : Hp) (As : List Addr) (σ : L2.St) (ρ : Rho) (κ : Kap) (P : R → Kap → Prop) (Q : VK), Cells X.K G H As κ → Places X.K G As σ ρ → wb ρ κ P → (∀ v r G' H' As' κ', Step G H As G' H' As' → Cells X.K G' H' As' κ' → Places X.K G' As' σ ρ → Rv X.K H G' H' As' v r → P r κ' → Q v H') → tb σ H Q)
    (hc : ∀ (G H : Hp) (As : List Addr) (σ : L2.St) (ρ : Rho) (κ : Kap) (P : R → Kap → Prop) (Q : VK), Cells X.K G H As κ → Places X.K G As σ ρ → wc ρ κ P → (∀ v r G' H' As' κ', Step G H As G' H' As' → Cells X.K G' H' As' κ' → Places X.K G' As' σ ρ → Rv X.K H G' H' As' v r → P r κ' → Q v H') → tc σ H Q)
    (G H : Hp) (As : List Addr) (σ : L2.St) (ρ : Rho) (κ : Kap) (P : R → Kap → Prop) (Q : VK) (cl : Cells X.K G H As κ) (p : Places X.K G As σ ρ) (w : wChain g g' wa wb wc ρ κ P)
    (k : ∀ v r G' H' As' κ', Step G H As G' H' As' → Cells X.K G' H' As' κ' → Places X.K G' As' σ ρ → Rv X.K H G' H' As' v r → P r κ' → Q v H') : tChain r2 r2' ta tb tc σ H Q := by
  refine ha G H As σ ρ κ _ _ cl p w fun v1 r1 G1 H1 As1 κ1 s1 c1 p1 i1 w1 => ?_
  obtain ⟨G1', s1', c1', p1', i1', _⟩ := settle s1 c1 p1 i1
  refine hb G1' H1 As1 σ ρ κ1 _ _ c1' p1' w1 fun v2 r2 G2 H2 As2 κ2 s2 c2 p2 i2 w2 => ?_
  obtain ⟨G2', s2', c2', p2', i2', _⟩ := settle s2 c2 p2 i2
  obtain ⟨x, ex, w2⟩ := w2.ex
  obtain ⟨y, ey, w2⟩ := w2.ex
  obtain ⟨o, eo, w2⟩ := w2.ex
  have st := s1'.trans s2'
  cases o with
  | v d =>
    cases d with
    | bool z =>
      refine hg G2' H2 v1 v2 x y (.v (.bool z)) _ c2'.ext ((s2'.it i1').vw c2' ex) (i2'.vw c2' ey) eo ?_
      refine fun u hu => ?_
      cases hu
      refine ⟨z, rfl, ?_⟩
      cases z with
      | false =>
        dsimp only at w2
        rw [if_neg (by decide)] at w2 ⊢
        exact k _ (.d (.bool false)) G2' H2 As2 κ2 st c2' (p.step st) (.bl false) w2
      | true =>
        dsimp only at w2
        rw [if_pos rfl] at w2 ⊢
        refine hc G2' H2 As2 σ ρ κ2 _ _ c2' p2' w2 fun v3 r3 G3 H3 As3 κ3 s3 c3 p3 i3 w3 => ?_
        obtain ⟨G3', s3', c3', p3', i3', _⟩ := settle s3 c3 p3 i3
        obtain ⟨y', ey', w3⟩ := w3.ex
        obtain ⟨u, eu, w3⟩ := w3.ex
        obtain ⟨o', eo', w3⟩ := w3.ex
        exact hg' G3' H3 v2 v3 y' u o' Q c3'.ext ((s3'.it i2').vw c3' ey') (i3'.vw c3' eu) eo' (out_ok (st.trans s3') c3' (p.step (st.trans s3')) o' w3 k)
    | _ => exact w2.elim
  | _ => exact w2.elim
theorem de_chain {op op' : CmpOp} {r2 r2' : R2} {g g' : PyData → PyData → Option Out} (ho : OpR X (compareOp op) r2) (hg : OpD X.K r2 g) (ho' : OpR X (compareOp op') r2') (hg' : OpD X.K r2' g') (ha : DE X a wa) (hb : DE X b wb) (hc : DE X c wc)
    (hm : lastMarks [op, op'] [b, c] = false := by with_unfolding_all rfl) : DE X (.Compare a [op, op'] [b, c] pos) (wChain g g' wa wb wc) := by
  obtain ⟨ta, pa, ha⟩ := ha
  obtain ⟨tb, pb, hb⟩ := hb
  obtain ⟨tc, pc, hc⟩ := hc
  exact ⟨_, pe_chain ho ho' pa pb pc hm, chain_reads hg hg' ha hb hc⟩
theorem dt_chain {op op' : CmpOp} {r2 r2' : R2} {g g' : PyData → PyData → Option Out} (ho : OpR X (compareOp op) r2) (hg : OpD X.K r2 g) (ho' : OpR X (compareOp op') r2') (hg' : OpD X.K r2' g') (ha : DE X a wa) (hb : DE X b wb) (hc : DE X c wc)
    (hm : lastMarks [op, op'] [b, c] = false := by with_unfolding_all rfl) : DT X (.Compare a [op, op'] [b, c] pos) (wB (wChain g g' wa wb wc)) := by
  obtain ⟨ta, pa, ha⟩ := ha
  obtain ⟨tb, pb, hb⟩ := hb
  obtain ⟨tc, pc, hc⟩ := hc
  refine ⟨_, pt_chain ho ho' pa pb pc hm, fun G H As σ ρ κ P Q c p w k => ?_⟩
  refine chain_reads hg hg' ha hb hc G H As σ ρ κ _ _ c p w fun v r G1 H1 As1 κ1 s1 c1 p1 i1 w1 => ?_
  cases r with
  | d x =>
    cases x with
    | bool z =>
      have i1 : Rp X.K G1 v (.bool z) := i1
      cases i1
      exact ⟨z, rfl, k z G1 H1 As1 κ1 s1 c1 p1 w1⟩
    | _ => exact w1.elim
  | _ => exact w1.elim
end
end DL
namespace DL
open PySem PySem.Spec PyProof.Rows L2
/-- its text can be told -/
def TextOk (d : PyData) : Prop := d.showable = true ∧ d.canLay0 = true ∧ d.depth ≤ 100 ∧ d.shown.length ≤ sizeLine ∧ ((∃ xs, d = .list xs) ∨ ∃ xs, d = .tuple xs)
def wRepr (we : DTE) : DTE := fun ρ κ P => we ρ κ fun r κ1 => Opt (val κ1 r.st) fun x => TextOk x ∧ P (.d (.str x.shown)) κ1
theorem Vw.dp {K : PySem.W.Frag} {G H : Hp} {v : V} {x : PyData} (e : Ex G H) (h : Vw K G H v x) : Dp K H v x := by
  cases x with
  | list ds =>
    obtain ⟨a, vs, rfl, h1, h2⟩ := h
    exact .lst (sql_of h1) (RpA.dp ds vs (RpA.mono e _ _ h2))
  | _ => exact Rp.dp _ _ (Rp.mono e _ _ h)
section
variable {X : Cx} {e : Expr} {we : DTE} {p pos : Pos}
end
@[simp] theorem s_repr (we : DTE) (ρ : Rho) (κ : Kap) (P : R → Kap → Prop) : wRepr we ρ κ P = we ρ κ fun r κ1 => Opt (val κ1 r.st) fun x => TextOk x ∧ P (.d (.str x.shown)) κ1 := rfl
def wMulB (wa wb : DTE) : DTE := fun ρ κ P => wa ρ κ fun r κ1 => match r with
  | .b ks => wb ρ κ1 fun q κ2 => match q with
    | .d (.int n) => 0 ≤ n ∧ n < 2 ^ 63 ∧ ks.length * n.toNat ≤ sizeLine ∧ P (.b (List.replicate n.toNat ks).flatten) κ2
    | _ => False
  | _ => False
@[simp] theorem s_mulB (wa wb : DTE) (ρ : Rho) (κ : Kap) (P : R → Kap → Prop) : wMulB wa wb ρ κ P = wa ρ κ fun r κ1 => match r with
  | .b ks => wb ρ κ1 fun q κ2 => match q with
    | .d (.int n) => 0 ≤ n ∧ n < 2 ^ 63 ∧ ks.length * n.toNat ≤ sizeLine ∧ P (.b (List.replicate n.toNat ks).flatten) κ2
    | _ => False
  | _ => False := rfl
end DL
namespace SH
open PySem PySem.Spec PyProof.Rows L2 DL
@[simp] theorem s_chain (g g' : PyData → PyData → Option Out) (wa wb wc : DTE) (ρ : Rho) (κ : Kap) (P : R → Kap → Prop) : wChain g g' wa wb wc ρ κ P = wa ρ κ fun r1 κ1 => wb ρ κ1 fun r2 κ2 => Opt (val κ2 r1.st) fun x => Opt (val κ2 r2.st) fun y => Opt (g x y) fun o => match o with
  | .v (.bool z) => if z = true then wc ρ κ2 fun r3 κ3 => Opt (val κ3 r2.st) fun y' => Opt (val κ3 r3.st) fun u => Opt (g' y' u) fun o' => P o'.r κ3 else P (.d (.bool false)) κ2
  | _ => False := rfl
theorem eqD_ss (neg : Bool) (a b : Str) : eqD neg (.str a) (.str b) = some (.v (.bool (if neg then !decide (a = b) else decide (a = b)))) := rfl
theorem words : ("come" : Str) ≠ "go" ∧ ("change" : Str) ≠ "come" ∧ ("change" : Str) ≠ "go" ∧ ("go" : Str) ≠ "come" := by decide +kernel
theorem cut_drop {α : Type} (xs : List α) (m : Nat) : cut xs (some (m : Int)) none = xs.drop m := by
  unfold cut
  have h1 : HT.sIx xs.length 0 (some (m : Int)) = min m xs.length := HT.sIx_nat _ _ m
  have h2 : HT.sIx xs.length xs.length none = xs.length := rfl
  rw [h1, h2]
  rw [List.take_of_length_le (by rw [List.length_drop]; omega)]
  by_cases c : m ≤ xs.length
  · rw [Nat.min_eq_left c]
  · rw [Nat.min_eq_right (by omega), List.drop_length, List.drop_of_length_le (by omega)]
theorem cut_mid {α : Type} (xs : List α) (n m : Nat) : cut xs (some (n : Int)) (some ((n : Int) + (m : Int))) = (xs.drop n).take m := by
  rw [← Int.natCast_add]
  unfold cut
  rw [show HT.sIx xs.length 0 (some (n : Int)) = min n xs.length from HT.sIx_nat _ _ n, show HT.sIx xs.length xs.length (some ((n + m : Nat) : Int)) = min (n + m) xs.length from HT.sIx_nat _ _ (n + m)]
  by_cases c : n ≤ xs.length
  · rw [Nat.min_eq_left c]
    by_cases c2 : n + m ≤ xs.length
    · rw [Nat.min_eq_left c2, Nat.add_sub_cancel_left]
    · rw [Nat.min_eq_right (by omega), List.take_of_length_le (by rw [List.length_drop]; omega), List.take_of_length_le (by rw [List.length_drop]; omega)]
  · rw [List.drop_of_length_le (by omega), List.drop_of_length_le (by omega), List.take_nil, List.take_nil]
def Ph_law_bent (bs : List PyData) (rs : List R) (P : R → List PyData → Prop) : Prop := ∃ (N : Int) (ns : List Str) (row : Row), Box N bs ∧ N ≤ 2 ^ 38 ∧ rs = [.d (.list (ns.map .str)), .d (.list (row.map hookD))] ∧ 2 ≤ ns.length ∧ ns.length ≤ 1000 ∧ Names ns ∧ RowOf ns row ∧ row.length ≤ 1000 ∧
  ∀ (r : Row) (bs' : List PyData), RowOf ns r → r.length ≤ row.length + 1 → Box (N + 5) bs' → P (.f (r.map hookD)) bs'
/-- _law_bent -/
def w_law_bent : DTS := (wSeq (wPar 3 4 (wConsM false (wCallL Ph_law_take (wCons (wVar 0) (wCons (wC (.int 5)) wNil))) (wConsM false (wCallL Ph_law_take (wCons (wVar 0) (wCons (wBin addD (wCB lenD (wCons (wVar 2) wNil)) (wC (.int 1))) wNil))) wNil)))
  (wSeq (wIfS (wOr (wB (wBin (eqD false) (wVar 3) (wC (.int 0)))) (wB (wBin (eqD false) (wVar 4) (wCB lenD (wCons (wVar 2) wNil))))) (wRet (wBin addD (wBin addD (wSl (wVar 2) wNoP (wP (wVar 4))) (wLst (wCons (wCallL Ph_law_hook (wCons (wVar 0) (wCons (wVar 1) wNil))) wNil))) (wSl (wVar 2) (wP (wVar 4)) wNoP))) wNext)
  (wSeq (wIfS (wB (wBin (eqD false) (wVar 3) (wC (.int 1)))) (wRet (wBin addD (wSl (wVar 2) wNoP (wP (wVar 4))) (wSl (wVar 2) (wP (wBin addD (wVar 4) (wC (.int 1)))) wNoP))) wNext)
  (wSeq (wIfS (wB (wBin (eqD false) (wVar 3) (wC (.int 2)))) (wSeq (wAsg (wBin ixD (wVar 2) (wVar 4)) (wTupG 3 (wgCons (wName 5) (wgCons (wName 6) (wgCons (wName 7) wgNil)))))
  (wRet (wBin addD (wBin addD (wSl (wVar 2) wNoP (wP (wVar 4))) (wLst (wCons (wTup (wCons (wVar 5) (wCons (wVar 6) (wCons (wUn negD (wVar 7)) wNil)))) wNil))) (wSl (wVar 2) (wP (wBin addD (wVar 4) (wC (.int 1)))) wNoP)))) wNext)
  (wSeq (wIfS (wB (wBin (eqD false) (wVar 3) (wC (.int 3)))) (wRet (wBin addD (wBin addD (wSl (wVar 2) wNoP (wP (wVar 4))) (wRevS (wSl (wVar 2) (wP (wVar 4)) (wP (wBin addD (wVar 4) (wC (.int 2))))))) (wSl (wVar 2) (wP (wBin addD (wVar 4) (wC (.int 2)))) wNoP))) wNext)
  (wRet (wBin addD (wBin addD (wSl (wVar 2) wNoP (wP (wVar 4))) (wSl (wVar 2) (wP (wVar 4)) (wP (wBin addD (wVar 4) (wC (.int 1)))))) (wSl (wVar 2) (wP (wVar 4)) wNoP))))))))
theorem add_rows {x y : Row} (h : x.length + y.length ≤ 10000) : addD (.list (x.map hookD)) (.list (y.map hookD)) = some (.n ((x ++ y).map hookD)) := by
  rw [addD_list (by rw [List.length_map, List.length_map, sizeLine_eq]; omega), ← List.map_append]
theorem r_law_bent (bs : List PyData) (rs : List R) (Pd : R → List PyData → Prop) (h : Ph_law_bent bs rs Pd) (hl : rs.length = 2) : w_law_bent { nx := fun _ κ => endL κ (.d .none) Pd, rt := fun r κ => endL κ r Pd } (some (.c 0) :: (rs.map some ++ List.replicate 5 none)) [.l bs] := by
  obtain ⟨N, ns, row, hb, hN, rfl, n2, n3, hn, hr, rl, k⟩ := h
  clear hl
  have sz : 3 ≤ sizeLine := by rw [sizeLine_eq]; decide
  simp only [List.map_cons, List.map_nil, List.replicate_succ, List.replicate_zero, List.cons_append, List.nil_append]
  unfold w_law_bent
  simp only [s_seq, s_par, s_consM, s_callL, s_cons, s_nil, s_c, s_var, List.getElem?_cons_succ, List.getElem?_cons_zero, st_c, st_d, lend_c, args_d, DL.args_nil, Opt_some]
  refine ⟨N, 5, hb, by omega, rfl, by decide, by decide, fun w bs1 w0 w1 hb1 => ?_⟩
  simp only [lab_d, sto_d, st_d, List.set_cons_zero, s_bin, s_callL, s_cons, s_nil, s_c, s_cb, s_var, List.getElem?_cons_succ, List.getElem?_cons_zero, st_c, lend_c, args_d, DL.args_nil, Opt_some, vals_cons, vals_nil, val_d, lenD_list, List.length_map, out_v, addD_int]
  refine ⟨N + 1, (row.length : Int) + 1, hb1, by omega, rfl, by omega, by omega, fun a bs2 a0 a1 hb2 => ?_⟩
  obtain ⟨n, rfl⟩ := Int.eq_ofNat_of_zero_le a0
  have ln : n ≤ row.length := by omega
  have tk : ∀ m, RowOf ns (row.take m) := fun m x hx => hr x (List.mem_of_mem_take hx)
  have dk : ∀ m, RowOf ns (row.drop m) := fun m x hx => hr x (List.mem_of_mem_drop hx)
  have tl : (row.take n).length = n := by rw [List.length_take]; omega
  have dl : ∀ m, (row.drop m).length = row.length - m := fun m => List.length_drop ..
  have fin : ∀ r : Row, RowOf ns r → r.length ≤ row.length + 1 → endL [.l bs2] (.f (r.map hookD)) Pd := fun r h1 h2 => k r bs2 h1 h2 (hb2.mono (by omega))
  simp only [lab_d, sto_d, st_d, List.set_cons_zero, List.set_cons_succ, val_d, Opt_some, out_v, s_if, s_or, s_B, s_bin, s_cb, s_cons, s_nil, s_var, s_c, List.getElem?_cons_succ, List.getElem?_cons_zero, vals_cons, vals_nil, lenD_list, List.length_map, eqD_ii, Bool.false_eq_true, if_false]
  have first : wRet (wBin addD (wBin addD (wSl (wVar 2) wNoP (wP (wVar 4))) (wLst (wCons (wCallL Ph_law_hook (wCons (wVar 0) (wCons (wVar 1) wNil))) wNil))) (wSl (wVar 2) (wP (wVar 4)) wNoP)) { nx := fun _ κ => endL κ (.d .none) Pd, rt := fun r κ => endL κ r Pd }
      [some (.c 0), some (.d (.list (ns.map .str))), some (.d (.list (row.map hookD))), some (.d (.int w)), some (.d (.int n)), none, none, none] [.l bs2] := by
    simp only [s_ret, s_bin, s_sl, s_noP, s_P, s_lst, s_cons, s_nil, s_callL, s_var, List.getElem?_cons_succ, List.getElem?_cons_zero, st_c, st_d, val_d, Opt_some, slD_list, cut_take, cut_drop, out_n, lend_c, args_d, DL.args_nil]
    refine ⟨N + 1 + 1, ns, hb2, by omega, rfl, n2, n3, hn, fun h bs3 hh hb3 => ?_⟩
    simp only [lab_d, st_d, List.set_cons_zero, dats_d, dats_nil, Opt_some, List.length_cons, List.length_nil, st_f, val_f, ← List.map_take, ← List.map_drop]
    refine ⟨by omega, ?_⟩
    rw [show [hookD h] = [h].map hookD from rfl]
    simp only [val_d, Opt_some]
    rw [add_rows (by simp; omega)]
    simp only [Opt_some, out_n, st_f, val_f, val_d]
    rw [add_rows (by have := dl n; simp; omega)]
    refine k _ bs3 (((tk n).app fun x hx => ?_).app (dk n)) ?_ (hb3.mono (by omega))
    · rw [List.mem_singleton.mp hx]; exact hh
    · rw [List.length_append, List.length_append, tl, dl]; simp; omega
  by_cases c0 : w = 0
  · rw [decide_eq_true c0]
    exact first
  rw [decide_eq_false c0]
  by_cases cn : (n : Int) = (row.length : Int)
  · rw [decide_eq_true cn]
    exact first
  rw [decide_eq_false cn]
  have n1 : ((n : Int) + 1) = ((n + 1 : Nat) : Int) := by omega
  have n22 : ((n : Int) + 2) = ((n + 2 : Nat) : Int) := by omega
  simp only [Bool.false_eq_true, if_false, s_next, s_seq, s_if, s_B, s_bin, s_var, s_c, List.getElem?_cons_succ, List.getElem?_cons_zero, st_d, val_d, Opt_some, out_v, eqD_ii]
  by_cases c1 : w = 1
  · simp only [decide_eq_true c1, if_true, s_ret, s_bin, s_sl, s_noP, s_P, s_var, s_c, List.getElem?_cons_succ, List.getElem?_cons_zero, st_d, val_d, Opt_some, slD_list, addD_int, out_v, n1, cut_take, cut_drop, out_n, st_f, val_f, ← List.map_take, ← List.map_drop]
    rw [add_rows (by have := dl (n + 1); omega)]
    exact fin _ ((tk n).app (dk _)) (by rw [List.length_append, tl, dl]; omega)
  simp only [decide_eq_false c1, Bool.false_eq_true, if_false, s_next, s_seq, s_if, s_B, s_bin, s_var, s_c, List.getElem?_cons_succ, List.getElem?_cons_zero, st_d, val_d, Opt_some, out_v, eqD_ii]
  by_cases c2 : w = 2
  · obtain ⟨x, hx⟩ : ∃ x, row[n]? = some x := ⟨row[n]'(by omega), List.getElem?_eq_getElem (by omega)⟩
    have hxm := hr x (List.mem_of_getElem? hx)
    have ix : ixD (.list (row.map hookD)) (.int (n : Int)) = some (.v (hookD x)) := ixD_list (atI_nat (j := n) (by rw [List.getElem?_map, hx]; rfl))
    simp only [decide_eq_true c2, if_true, s_seq, s_asg, s_bin, s_var, List.getElem?_cons_succ, List.getElem?_cons_zero, st_d, val_d, Opt_some, ix, out_v]
    unfold hookD
    simp only [s_tupG, s_gcons, s_gnil, s_name, List.length_cons, List.length_nil, true_and, List.set_cons_succ, List.set_cons_zero, s_ret, s_bin, s_sl, s_noP, s_P, s_lst, s_tup, s_cons, s_nil, s_un, s_var, s_c, List.getElem?_cons_succ, List.getElem?_cons_zero, st_d, val_d, Opt_some, addD_int, n1, cut_take, cut_drop, slD_list, out_n, out_v, dats_d, dats_nil, negD_int, st_f, val_f]
    refine ⟨sz, by omega, ?_⟩
    rw [← List.map_take, ← List.map_drop]
    have a1 := add_rows (x := row.take n) (y := [turned x]) (by simp; omega)
    have a2 := add_rows (x := row.take n ++ [turned x]) (y := row.drop (n + 1)) (by have := dl (n + 1); simp; omega)
    have ff := fin (row.take n ++ [turned x] ++ row.drop (n + 1)) (((tk n).app fun z hz => by rw [List.mem_singleton.mp hz]; exact hxm.turn).app (dk _)) (by rw [List.length_append, List.length_append, tl, dl]; simp; omega)
    unfold hookD at a1 a2 ff
    simp only [List.map_cons, List.map_nil, turned] at a1
    rw [a1]
    simp only [Opt_some, out_n, st_f, val_f, val_d]
    rw [show (PyData.list (List.map (fun h : Hook => PyData.tuple [PyData.str h.1, PyData.str h.2.1, PyData.int h.2.2]) (List.take n row ++ [(x.1, x.2.1, -x.2.2)]))) = (PyData.list (List.map (fun h : Hook => PyData.tuple [PyData.str h.1, PyData.str h.2.1, PyData.int h.2.2]) (List.take n row ++ [turned x]))) from rfl, a2]
    exact ff
  simp only [decide_eq_false c2, Bool.false_eq_true, if_false, s_next, s_seq, s_if, s_B, s_bin, s_var, s_c, List.getElem?_cons_succ, List.getElem?_cons_zero, st_d, val_d, Opt_some, out_v, eqD_ii]
  have m1 := cut_mid (row.map hookD) n 1
  have m2 := cut_mid (row.map hookD) n 2
  have ml : ∀ m, ((row.drop n).take m).length ≤ row.length - n := fun m => by rw [List.length_take, dl]; omega
  have mo : ∀ m, RowOf ns ((row.drop n).take m) := fun m x hx => dk n x (List.mem_of_mem_take hx)
  by_cases c3 : w = 3
  · simp only [decide_eq_true c3, if_true, s_ret, s_bin, s_sl, s_noP, s_P, s_revS, s_var, s_c, List.getElem?_cons_succ, List.getElem?_cons_zero, st_d, val_d, Opt_some, slD_list, addD_int, out_v, cut_take, out_n, st_f, val_f, show ((n : Int) + 2) = ((n : Int) + (2 : Nat)) from rfl, m2]
    rw [show ((n : Int) + (2 : Nat)) = ((n + 2 : Nat) : Int) from rfl]
    simp only [cut_drop, ← List.map_take, ← List.map_drop, ← List.map_reverse]
    have l2 := ml 2
    rw [add_rows (by simp at l2 ⊢; omega)]
    simp only [Opt_some, out_n, st_f, val_f, val_d]
    rw [add_rows (by have := dl (n + 2); simp at l2 this ⊢; omega)]
    refine fin _ (((tk n).app fun x hx => mo 2 x (List.mem_reverse.mp hx)).app (dk _)) ?_
    rw [List.length_append, List.length_append, List.length_reverse, tl, dl, List.length_take, dl]
    omega
  · simp only [decide_eq_false c3, Bool.false_eq_true, if_false, s_next, s_ret, s_bin, s_sl, s_noP, s_P, s_var, s_c, List.getElem?_cons_succ, List.getElem?_cons_zero, st_d, val_d, Opt_some, slD_list, addD_int, out_v, cut_take, cut_drop, out_n, st_f, val_f, show ((n : Int) + 1) = ((n : Int) + (1 : Nat)) from rfl, m1]
    simp only [← List.map_take, ← List.map_drop]
    have l2 := ml 1
    rw [add_rows (by simp at l2 ⊢; omega)]
    simp only [Opt_some, out_n, st_f, val_f, val_d]
    rw [add_rows (by have := dl n; simp at l2 this ⊢; omega)]
    refine fin _ (((tk n).app (mo 1)).app (dk _)) ?_
    rw [List.length_append, List.length_append, tl, dl, List.length_take, dl]
    omega
end SH
namespace SH
open PySem PySem.Spec PyProof.Rows L2 DL
abbrev rowD (r : Row) : PyData := .list (r.map hookD)
theorem RowIn.app {r q : Row} (h : RowIn r) (h2 : RowIn q) : RowIn (r ++ q) := fun x hx => (List.mem_append.mp hx).elim (h x) (h2 x)
theorem RowIn.back {r : Row} (h : RowIn r) : RowIn (SH.back r) := fun x hx => by
  unfold SH.back at hx
  obtain ⟨y, hy, rfl⟩ := List.mem_map.mp hx
  exact h y (List.mem_reverse.mp hy)
theorem RowIn.put {r q : Row} (h : RowIn r) (h2 : RowIn q) : RowIn (putF r q) := (h.app h2).least
theorem istt : truth (.bool true) = some true := rfl
theorem istf : truth (.bool false) = some false := rfl
end SH
namespace SH
open PySem PySem.Spec PyProof.Rows L2 DL
def withinF (ss tt : List Str) : Bool := ss.all fun z => decide (z ∈ tt)
def Ph_is_within (rs : List R) (P : R → Prop) : Prop := ∃ (ss tt : List Str) (D E : PyData), NmD D ss ∧ NmD E tt ∧ rs = [.d D, .d E] ∧ ss.length ≤ 1000000 ∧ P (.d (.bool (withinF ss tt)))
theorem rep_of {ns : List Str} {r : Row} (h : RowOf ns r) (n : Nat) : RowOf ns (List.replicate n r).flatten := fun x hx => by
  obtain ⟨l, hl, hx⟩ := List.mem_flatten.mp hx
  rw [(List.mem_replicate.mp hl).2] at hx
  exact h x hx
def pureF (r : Row) (ss : List Str) : Bool := withinF (ropesF (leastF r)) ss && ss.all fun z => decide (leastF (drawnF r [z]) = [])
theorem truth_b (b : Bool) : truth (.bool b) = some b := rfl
end SH
namespace SH
open PySem PySem.Spec PyProof.Rows L2 DL
theorem subs_mem : ∀ (ns : List Str) (f : List (List Str)) (s t : List Str), t ∈ f → s.Sublist ns → t ++ s ∈ ns.foldl stepF f
  | [], f, s, t, ht, hs => by
    have e : s = [] := List.eq_nil_of_length_eq_zero (Nat.le_zero.mp hs.length_le)
    rw [e, List.append_nil]
    exact ht
  | z :: ns, f, s, t, ht, hs => by
    rw [List.foldl_cons]
    cases hs with
    | cons _ h => exact subs_mem ns (stepF f z) s t (List.mem_append.mpr (.inl ht)) h
    | @cons_cons s' _ _ h =>
      have := subs_mem ns (stepF f z) s' (t ++ [z]) (List.mem_append.mpr (.inr (List.mem_map.mpr ⟨t, ht, rfl⟩))) h
      simpa using this
theorem sets_mem {ns : List Str} {low : Nat} {s : List Str} : s ∈ setsF ns low ↔ s.Sublist ns ∧ low ≤ s.length := by
  refine ⟨sets_of, fun ⟨h1, h2⟩ => List.mem_filter.mpr ⟨(List.mergeSort_perm _ _).mem_iff.mpr ?_, decide_eq_true h2⟩⟩
  have := subs_mem ns [[]] s [] (List.mem_singleton.mpr rfl) h1
  rw [List.nil_append] at this
  exact this
theorem leLen_short {s t : List Str} (h : s.length < t.length) : leLen s t = true := by
  have e : PyProof.Rows.lexLt itemOrd (PySem.W.keyToks (keyLen t)) (PySem.W.keyToks (keyLen s)) = false := by
    simp only [keyLen, PySem.W.keyToks, toks_all_cons', List.singleton_append]
    rw [lex_self (O := itemOrd), lex_diff (O := itemOrd) (by
      intro q
      have := Sum.inl.inj q
      omega)]
    show decide ((t.length : Int) < (s.length : Int)) = false
    exact decide_eq_false (by omega)
  simp only [leLen, PySem.W.dataLt, e, Bool.not_false]
theorem within_iff {s t : List Str} : withinF s t = true ↔ ∀ z ∈ s, z ∈ t := by
  unfold withinF
  simp
theorem Names.sub {s t : List Str} (h : Names t) (k : s.Sublist t) : Names s := ⟨fun z hz => h.1 z (k.subset hz), h.2.sublist k⟩
theorem names_sub {s t : List Str} (hs : s.Pairwise fun x y => cs x < cs y) (ht : t.Pairwise fun x y => cs x < cs y) (h : ∀ z ∈ s, z ∈ t) : s.Sublist t := by
  have e : s = t.filter fun z => decide (z ∈ s) := strict_uniq hs (ht.sublist List.filter_sublist) fun z => by
    rw [List.mem_filter, decide_eq_true_eq]
    exact ⟨fun q => ⟨h z q, q⟩, fun q => q.2⟩
  rw [e]
  exact List.filter_sublist
end SH
namespace DL
open PySem PySem.Spec PyProof.Rows L2
section
variable {P : Program} {w : World} {A : Around} {E : Value → Shared → Prop}
/-- where a list's items lie -/
def ListsAt (h : Heap) (us : List Value) (ls : List (List Value)) : Prop := PySem.W.EachIs (fun (u : Value) (its : List Value) => ∃ (b : Addr) (n : Nat), u = .ref b ∧ h.get? b = some (seqObj "list" its.toArray n)) us ls
theorem ListsAt.keeps {h h' : Heap} (k : ∀ b o, h.get? b = some o → h'.get? b = some o) : ∀ {us : List Value} {ls : List (List Value)}, ListsAt h us ls → ListsAt h' us ls
  | _, _, .nil => .nil
  | _, _, .cons r t => by
    obtain ⟨b, n, e, q⟩ := r
    exact .cons ⟨b, n, e, k _ _ q⟩ (ListsAt.keeps k t)
theorem ListsAt.get {h : Heap} : ∀ {us : List Value} {ls : List (List Value)} {i : Nat} {u : Value}, ListsAt h us ls → us[i]? = some u → ∃ its b n, ls[i]? = some its ∧ u = .ref b ∧ h.get? b = some (seqObj "list" its.toArray n)
  | _, _, _, _, .nil, e => by simp at e
  | _, _, 0, u, .cons r _, e => by
    obtain ⟨b, n, e1, q⟩ := r
    exact ⟨_, b, n, rfl, (Option.some.inj e).symm.trans e1, q⟩
  | _, _, i + 1, u, .cons _ t, e => ListsAt.get (i := i) t (by simpa using e)
end
section
variable {X : Cx} {e : Expr} {we : DTE} {p pos lpos : Pos}
end
section
variable {X : Cx} {o a i : Expr} {wo wa wi : DTE} {apos cpos pos : Pos}
end
end DL
namespace SH
open PySem PySem.Spec PyProof.Rows L2 DL
end SH
namespace SH
open PySem PySem.Spec PyProof.Rows L2 DL
theorem two_of_set {s : List Str} (h : 2 ≤ s.length) : ∃ a b xs, s = a :: b :: xs := by
  match s, h with
  | a :: b :: xs, _ => exact ⟨a, b, xs, rfl⟩
  | [_], h => simp at h
  | [], h => simp at h
end SH
namespace SH
open PySem PySem.Spec PyProof.Rows L2 DL
section
variable {α : Type} {A : Hook → α → α}
def doing (A : Hook → α → α) (r : Row) (s : α) : α := r.foldl (fun s h => A h s) s
theorem doing_app (x y : Row) (s : α) : doing A (x ++ y) s = doing A y (doing A x s) := by unfold doing; rw [List.foldl_append]
theorem doing_free (hx : ∀ h g s, hits h g = false → A h (A g s) = A g (A h s)) {h : Hook} : ∀ {u : Row}, (∀ g ∈ u, hits h g = false) → ∀ s, A h (doing A u s) = doing A u (A h s)
  | [], _, s => rfl
  | g :: u, f, s => by
    show A h (doing A u (A g s)) = doing A u (A g (A h s))
    rw [doing_free hx (fun k hk => f k (List.mem_cons_of_mem _ hk)), hx h g s (f g (List.mem_cons_self ..))]
theorem doing_lines (hx : ∀ h g s, hits h g = false → A h (A g s) = A g (A h s)) : ∀ {r r' : Row}, linesP r = linesP r' → ∀ s, doing A r s = doing A r' s
  | [], r', e, s => by rw [lines_nil e.symm]
  | h :: r, r', e, s => by
    obtain ⟨u, v, rfl, f, e2⟩ := lines_cons e
    show doing A r (A h s) = _
    rw [doing_lines hx e2 (A h s), doing_app, doing_app, ← doing_free hx f]
    rfl
theorem doing_step (hc : ∀ h s, A (turned h) (A h s) = s) (hx : ∀ h g s, hits h g = false → A h (A g s) = A g (A h s)) (h : Hook) (ρ : Row) (s : α) : doing A (cstep h ρ).reverse s = A h (doing A ρ.reverse s) := by
  unfold cstep
  cases e : stripR h ρ with
  | none =>
    show doing A (h :: ρ).reverse s = _
    rw [List.reverse_cons, doing_app]
    rfl
  | some ρ' =>
    obtain ⟨y, x, rfl, rfl, f⟩ := strip_some e
    have f' : ∀ g ∈ y.reverse, hits h g = false := fun g hg => f g (List.mem_reverse.mp hg)
    show doing A (y ++ x).reverse s = _
    rw [List.reverse_append, List.reverse_append, List.reverse_cons, doing_app, doing_app, doing_app, doing_free hx f']
    show _ = doing A y.reverse (A h (A (turned h) (doing A x.reverse s)))
    have := hc (turned h) (doing A x.reverse s)
    rw [turned2] at this
    rw [this]
theorem doing_nfL (hc : ∀ h s, A (turned h) (A h s) = s) (hx : ∀ h g s, hits h g = false → A h (A g s) = A g (A h s)) (s : α) : ∀ (r ρ : Row), doing A (nfL r ρ).reverse s = doing A r (doing A ρ.reverse s)
  | [], ρ => rfl
  | h :: r, ρ => by
    show doing A (nfL r (cstep h ρ)).reverse s = doing A r (A h (doing A ρ.reverse s))
    rw [doing_nfL hc hx s r, doing_step hc hx]
theorem doing_same (hc : ∀ h s, A (turned h) (A h s) = s) (hx : ∀ h g s, hits h g = false → A h (A g s) = A g (A h s)) {r r' : Row} (e : pile r = pile r') (s : α) : doing A r s = doing A r' s := by
  have h : ∀ r : Row, doing A r s = doing A (settledF r) s := fun r => by
    rw [settled_nf]
    exact (doing_nfL hc hx s r []).symm
  rw [h r, h r', doing_lines hx (settled_lines e)]
theorem doing_back (hc : ∀ h s, A (turned h) (A h s) = s) : ∀ (r : Row) (s : α), doing A (back r) (doing A r s) = s
  | [], s => rfl
  | h :: r, s => by
    have e : back (h :: r) = back r ++ [turned h] := by simp [back]
    show doing A (back (h :: r)) (doing A r (A h s)) = s
    rw [e, doing_app, doing_back hc r]
    exact hc h s
end
def isAt (ns : List Str) (k : Nat) (h : Hook) : Prop := 0 < k ∧ ns[k - 1]? = some h.1 ∧ ns[k]? = some h.2.1
instance (ns : List Str) (k : Nat) (h : Hook) : Decidable (isAt ns k h) := by unfold isAt; exact inferInstance
def rise (ns : List Str) (h : Hook) (s : Nat → Int) : Nat → Int := fun k => if isAt ns k h then s k + h.2.2 * s (k - 1) else s k
theorem at_inj {ns : List Str} (nd : ns.Nodup) {i j : Nat} {z : Str} (h1 : ns[i]? = some z) (h2 : ns[j]? = some z) : i = j := by
  obtain ⟨a1, b1⟩ := List.getElem?_eq_some_iff.mp h1
  obtain ⟨a2, b2⟩ := List.getElem?_eq_some_iff.mp h2
  have pw := List.pairwise_iff_getElem.mp nd
  rcases Nat.lt_trichotomy i j with c | c | c
  · exact absurd (b1.trans b2.symm) (pw i j a1 a2 c)
  · exact c
  · exact absurd (b2.trans b1.symm) (pw j i a2 a1 c)
theorem not_next {ns : List Str} (nd : ns.Nodup) {k : Nat} {h : Hook} (a : isAt ns k h) : ¬ isAt ns (k - 1) h := fun b => by
  have := at_inj nd a.2.1 b.2.1
  have h1 := a.1
  have h2 := b.1
  omega
theorem rise_back {ns : List Str} (nd : ns.Nodup) (h : Hook) (s : Nat → Int) : rise ns (turned h) (rise ns h s) = s := by
  funext k
  have e : ∀ k, isAt ns k (turned h) ↔ isAt ns k h := fun k => Iff.rfl
  unfold rise
  simp only [e]
  by_cases c : isAt ns k h
  · have c2 := not_next nd c
    rw [if_pos c, if_pos c, if_neg c2]
    show s k + h.2.2 * s (k - 1) + -h.2.2 * s (k - 1) = s k
    rw [Int.neg_mul]
    omega
  · rw [if_neg c, if_neg c]
theorem rise_pass {ns : List Str} (nd : ns.Nodup) (h g : Hook) (s : Nat → Int) (e : hits h g = false) : rise ns h (rise ns g s) = rise ns g (rise ns h s) := by
  have off := hits_false e
  have ne1 : g.1 ≠ h.1 ∧ g.2.1 ≠ h.1 := by
    have := off.1
    unfold touches at this
    simpa using this
  have ne2 : g.1 ≠ h.2.1 ∧ g.2.1 ≠ h.2.1 := by
    have := off.2
    unfold touches at this
    simpa using this
  have n1 : ∀ k, isAt ns k h → ¬ isAt ns k g ∧ ¬ isAt ns (k - 1) g := fun k a => by
    refine ⟨fun b => ?_, fun b => ?_⟩
    · have := b.2.1
      rw [a.2.1] at this
      exact ne1.1 (Option.some.inj this).symm
    · have := b.2.2
      rw [a.2.1] at this
      exact ne1.2 (Option.some.inj this).symm
  have n2 : ∀ k, isAt ns k g → ¬ isAt ns k h ∧ ¬ isAt ns (k - 1) h := fun k b => by
    refine ⟨fun a => (n1 k a).1 b, fun a => ?_⟩
    have := a.2.2
    rw [b.2.1] at this
    exact ne2.1 (Option.some.inj this)
  funext k
  unfold rise
  by_cases c : isAt ns k h
  · obtain ⟨d1, d2⟩ := n1 k c
    rw [if_pos c, if_neg d1, if_neg d2, if_neg d1, if_pos c]
  · by_cases d : isAt ns k g
    · obtain ⟨c1, c2⟩ := n2 k d
      rw [if_neg c1, if_pos d, if_pos d, if_neg c1, if_neg c2]
    · rw [if_neg c, if_neg d, if_neg d, if_neg c]
/-- a knot of the first k + 1 ropes adds the first sum to the k-th one -/
def lift (k : Nat) (c : Int) (s : Nat → Int) : Nat → Int := fun j => if j = k then s j + c * s 0 else s j
theorem kstep_do {ns : List Str} (nd : ns.Nodup) {r : Row} {l x : Str} {k : Nat} (h0 : 0 < k) (hl : ns[k]? = some l) (hx : ns[k + 1]? = some x) (h : ∀ s, doing (rise ns) r s = lift k 1 s) : ∀ s, doing (rise ns) (kstep r l x) s = lift (k + 1) 1 s := fun s => by
  have hb : ∀ s, doing (rise ns) (back r) s = lift k (-1) s := fun s => by
    have e : doing (rise ns) r (lift k (-1) s) = s := by
      rw [h]
      funext j
      unfold lift
      by_cases c : j = k
      · subst c
        rw [if_pos rfl, if_pos rfl, if_neg (show ¬ 0 = j by omega)]
        omega
      · rw [if_neg c, if_neg c]
    have := doing_back (rise_back nd) r (lift k (-1) s)
    rw [e] at this
    exact this
  have hat : ∀ (z : Int) (j : Nat), isAt ns j (l, x, z) ↔ j = k + 1 := fun z j => by
    refine ⟨fun a => at_inj nd a.2.2 hx, fun e => ?_⟩
    subst e
    exact ⟨Nat.succ_pos _, hl, hx⟩
  have hr : ∀ (z : Int) (s : Nat → Int), rise ns (l, x, z) s = fun j => if j = k + 1 then s j + z * s k else s j := fun z s => by
    funext j
    unfold rise
    simp only [hat]
    by_cases c : j = k + 1
    · subst c
      rw [if_pos rfl, if_pos rfl]
      rfl
    · rw [if_neg c, if_neg c]
  unfold kstep
  rw [doing_app, doing_app, doing_app, h, hb]
  show rise ns (l, x, -1) (lift k (-1) (rise ns (l, x, 1) (lift k 1 s))) = _
  rw [hr, hr]
  funext j
  unfold lift
  by_cases c : j = k + 1
  · subst c
    simp only [if_true, show ¬ (k + 1 = k) by omega, if_false, show ¬ (k = k + 1) by omega, show ¬ (0 = k) by omega, show ¬ (0 = k + 1) by omega]
    omega
  · by_cases d : j = k
    · subst d
      simp only [if_true, show ¬ (j = j + 1) by omega, if_false, show ¬ (0 = j) by omega, show ¬ (0 = j + 1) by omega]
      omega
    · simp only [c, d, if_false]
theorem knotL_do {ns : List Str} (nd : ns.Nodup) : ∀ (xs : List Str) (r : Row) (l : Str) (k : Nat), 0 < k → ns[k]? = some l → ns.drop (k + 1) = xs → (∀ s, doing (rise ns) r s = lift k 1 s) → ∀ s, doing (rise ns) (knotL r l xs) s = lift (k + xs.length) 1 s
  | [], r, l, k, _, _, _, h, s => by rw [knotL]; exact h s
  | x :: xs, r, l, k, h0, hl, hd, h, s => by
    rw [knotL]
    have hx : ns[k + 1]? = some x := by
      have := congrArg List.head? hd
      rw [List.head?_drop] at this
      exact this
    have hd2 : ns.drop (k + 1 + 1) = xs := by
      have := congrArg List.tail hd
      rw [List.tail_drop] at this
      exact this
    have := knotL_do nd xs (kstep r l x) x (k + 1) (Nat.succ_pos _) hx hd2 (kstep_do nd h0 hl hx h) s
    rw [this, List.length_cons, show k + 1 + xs.length = k + (xs.length + 1) by omega]
theorem knot_do {a b : Str} {xs : List Str} (nd : (a :: b :: xs).Nodup) (s : Nat → Int) : doing (rise (a :: b :: xs)) (knot (a :: b :: xs)) s = lift (1 + xs.length) 1 s := by
  refine knotL_do nd xs [(a, b, 1)] b 1 (by decide) rfl rfl (fun s => ?_) s
  show rise (a :: b :: xs) (a, b, 1) s = _
  funext j
  unfold rise lift
  by_cases c : j = 1
  · subst c
    rw [if_pos (show isAt (a :: b :: xs) 1 (a, b, 1) from ⟨by decide, rfl, rfl⟩), if_pos rfl]
  · rw [if_neg (fun q => c (at_inj nd q.2.2 (show (a :: b :: xs)[1]? = some b from rfl))), if_neg c]
/-- so many knots one behind the other are not bare -/
theorem knots_not {a b : Str} {xs : List Str} (nd : (a :: b :: xs).Nodup) (n : Nat) (hn : 0 < n) : pile (List.replicate n (knot (a :: b :: xs))).flatten ≠ pile [] := fun e => by
  have h := congrFun (doing_same (rise_back nd) (rise_pass nd) e fun j => if j = 0 then 1 else 0) (1 + xs.length)
  have g : ∀ (n : Nat) (s : Nat → Int), doing (rise (a :: b :: xs)) (List.replicate n (knot (a :: b :: xs))).flatten s = lift (1 + xs.length) (n : Int) s := fun n => by
    induction n with
    | zero =>
      intro s
      funext j
      unfold lift
      show s j = _
      split <;> simp
    | succ n ih =>
      intro s
      rw [List.replicate_succ, List.flatten_cons, doing_app, knot_do nd, ih]
      funext j
      unfold lift
      by_cases c : j = 1 + xs.length
      · rw [if_pos c, if_pos c, if_pos c, if_neg (show ¬ 0 = 1 + xs.length by omega)]
        rw [Int.natCast_succ, Int.add_mul]
        omega
      · rw [if_neg c, if_neg c, if_neg c]
  rw [g] at h
  unfold lift at h
  rw [if_pos rfl] at h
  have : (if (1 + xs.length) = 0 then (1 : Int) else 0) = 0 := if_neg (by omega)
  rw [show doing (rise (a :: b :: xs)) [] (fun j => if j = 0 then (1 : Int) else 0) (1 + xs.length) = 0 from this] at h
  simp at h
  omega
theorem knot_not {a b : Str} {xs : List Str} (nd : (a :: b :: xs).Nodup) : pile (knot (a :: b :: xs)) ≠ pile [] := fun e => by
  have := knots_not nd 1 (by decide)
  simp at this
  exact this e
theorem bare_iff {r : Row} : leastF r = [] ↔ pile r = pile [] := ⟨fun e => by rw [← pile_least r, e], pile_nil_least⟩
theorem kept_app (x y : Row) (S : List Str) : keptF (x ++ y) S = keptF x S ++ keptF y S := List.filter_append ..
theorem kept_back (r : Row) (S : List Str) : keptF (back r) S = back (keptF r S) := by
  unfold keptF back
  rw [List.filter_map, ← List.filter_reverse]
  rfl
theorem kstep_bare {r : Row} {l x : Str} {S : List Str} (h : pile (keptF r S) = pile [] ∨ x ∉ S) : pile (keptF (kstep r l x) S) = pile [] := by
  unfold kstep
  rw [kept_app, kept_app, kept_app, kept_back]
  by_cases c : x ∈ S ∧ l ∈ S
  · have hp := h.resolve_right fun q => q c.1
    have e1 : keptF [(l, x, 1)] S = [(l, x, 1)] := by simp [keptF, c.1, c.2]
    have e2 : keptF [(l, x, -1)] S = back [(l, x, 1)] := by simp [keptF, c.1, c.2, back, turned]
    rw [e1, e2]
    have q1 := pile_both (pile_both (pile_both hp (rfl : pile [(l, x, (1 : Int))] = _)) (pile_backs hp)) (rfl : pile (back [(l, x, (1 : Int))]) = _)
    rw [q1]
    show pile ([] ++ [(l, x, (1 : Int))] ++ back [] ++ back [(l, x, (1 : Int))]) = _
    have : ([] ++ [(l, x, (1 : Int))] ++ back [] ++ back [(l, x, (1 : Int))] : Row) = [(l, x, 1)] ++ back [(l, x, 1)] := rfl
    rw [this, pile_undo]
  · have e : ∀ z : Int, keptF [(l, x, z)] S = [] := fun z => by
      unfold keptF
      rw [List.filter_eq_nil_iff]
      intro g hg
      rw [List.mem_singleton.mp hg]
      simp only [Bool.and_eq_true, decide_eq_true_eq]
      exact fun q => c ⟨q.2, q.1⟩
    rw [e, e, List.append_nil, List.append_nil, pile_undo]
theorem knotL_bare {S : List Str} : ∀ (xs : List Str) (r : Row) (l : Str), pile (keptF r S) = pile [] ∨ (∃ z ∈ xs, z ∉ S) → pile (keptF (knotL r l xs) S) = pile []
  | [], r, l, h => by
    rw [knotL]
    exact h.resolve_right fun ⟨z, hz, _⟩ => by cases hz
  | x :: xs, r, l, h => by
    rw [knotL]
    rcases h with h | ⟨z, hz, hn⟩
    · exact knotL_bare xs _ x (.inl (kstep_bare (.inl h)))
    · rcases List.mem_cons.mp hz with rfl | hz
      · exact knotL_bare xs _ _ (.inl (kstep_bare (.inr hn)))
      · exact knotL_bare xs _ _ (.inr ⟨z, hz, hn⟩)
theorem knot_bare {ns S : List Str} (h : ∃ z ∈ ns, z ∉ S) : pile (keptF (knot ns) S) = pile [] := by
  match ns, h with
  | [], _ => rfl
  | [_], _ => rfl
  | a :: b :: xs, ⟨z, hz, hn⟩ =>
    show pile (keptF (knotL [(a, b, 1)] b xs) S) = _
    by_cases c : a ∈ S ∧ b ∈ S
    · refine knotL_bare xs _ b (.inr ?_)
      rcases List.mem_cons.mp hz with rfl | hz
      · exact absurd c.1 hn
      rcases List.mem_cons.mp hz with rfl | hz
      · exact absurd c.2 hn
      exact ⟨z, hz, hn⟩
    · refine knotL_bare xs _ b (.inl ?_)
      have : keptF [(a, b, 1)] S = [] := by
        unfold keptF
        rw [List.filter_eq_nil_iff]
        intro g hg
        rw [List.mem_singleton.mp hg]
        simp only [Bool.and_eq_true, decide_eq_true_eq]
        exact c
      rw [this]
theorem conj_bare {x r : Row} : pile (x ++ r ++ back x) = pile [] ↔ pile r = pile [] := by
  refine ⟨fun e => ?_, fun e => ?_⟩
  · have h1 : pile (back x ++ (x ++ r ++ back x) ++ x) = pile (back x ++ [] ++ x) := pile_both (pile_both rfl e) rfl
    have h2 : pile (back x ++ (x ++ r ++ back x) ++ x) = pile (back x ++ x ++ r ++ (back x ++ x)) := by simp
    have h3 : pile (back x ++ x ++ r ++ (back x ++ x)) = pile ([] ++ r ++ []) := pile_both (pile_both (pile_undo2 x) rfl) (pile_undo2 x)
    rw [h2, h3] at h1
    have h4 : pile ([] ++ r ++ []) = pile r := by simp
    rw [← h4, h1, List.append_nil, pile_undo2]
  · rw [pile_both (pile_both rfl e) rfl, List.append_nil, pile_undo]
end SH
namespace SH
open PySem PySem.Spec PyProof.Rows L2 DL
abbrev Inc (s : List Str) : Prop := s.Pairwise fun x y => cs x < cs y
theorem subs_nodup : ∀ (ns ps : List Str) (f : List (List Str)), f.Nodup → (∀ s ∈ f, s.Sublist ps) → (ps ++ ns).Nodup → (ns.foldl stepF f).Nodup
  | [], ps, f, h, _, _ => h
  | z :: ns, ps, f, h, hs, nd => by
    have e : ps ++ z :: ns = (ps ++ [z]) ++ ns := by simp
    rw [List.foldl_cons]
    have nz : z ∉ ps := fun q => by
      rw [List.nodup_append] at nd
      exact nd.2.2 z q z (List.mem_cons_self ..) rfl
    refine subs_nodup ns (ps ++ [z]) (stepF f z) ?_ (fun s hm => ?_) (by rw [← e]; exact nd)
    · refine List.nodup_append.mpr ⟨h, List.Pairwise.map _ (fun a b hab q => hab (List.append_cancel_right q)) h, fun a ha b hb q => ?_⟩
      obtain ⟨u, hu, rfl⟩ := List.mem_map.mp hb
      exact nz ((hs a ha).subset (by rw [q]; simp))
    · rcases List.mem_append.mp hm with q | q
      · exact (hs s q).trans (List.sublist_append_left ps [z])
      · obtain ⟨u, hu, rfl⟩ := List.mem_map.mp q
        exact (hs u hu).append (List.Sublist.refl [z])
theorem sets_nodup {ns : List Str} (h : Inc ns) (low : Nat) : (setsF ns low).Nodup := by
  have h1 : (subsF ns).Nodup := subs_nodup ns [] [[]] (by simp) (fun s hs => by rw [List.mem_singleton.mp hs]; exact List.Sublist.refl _) (by rw [List.nil_append]; exact pw_nodup h)
  exact ((List.mergeSort_perm _ _).nodup_iff.mpr h1).sublist List.filter_sublist
theorem sorted_ext {l m : List (List Str)} (hl : l.Pairwise fun a b => leLen a b = true) (hm : m.Pairwise fun a b => leLen a b = true) (nl : l.Nodup) (nm : m.Nodup) (h : ∀ s, s ∈ l ↔ s ∈ m) : l = m :=
  sorted_uniq (le := leLen) (fun h1 h2 => leLen_anti h1 h2) ((List.perm_ext_iff_of_nodup nl nm).mpr h) hl hm
def lessF (S : List Str) : List (List Str) := (setsF S 2).filter fun T => decide (T.length < S.length)
def own (row : Row) (S : List Str) : Row := leastF (back (((lessF S).attach.map fun T => own row T.1).flatten) ++ keptF row S)
termination_by S.length
decreasing_by
  exact of_decide_eq_true (List.mem_filter.mp T.2).2
theorem own_eq (row : Row) (S : List Str) : own row S = leastF (back (((lessF S).map (own row)).flatten) ++ keptF row S) := by
  have e : (lessF S).attach.map (fun T => own row T.1) = (lessF S).map (own row) := List.attach_map_val ..
  rw [own, e]
theorem less_mem {S T : List Str} : T ∈ lessF S ↔ T.Sublist S ∧ 2 ≤ T.length ∧ T.length < S.length := by
  unfold lessF
  rw [List.mem_filter, sets_mem, decide_eq_true_eq, and_assoc]
theorem less_nodup {S : List Str} (h : Inc S) : (lessF S).Nodup := (sets_nodup h 2).sublist List.filter_sublist
theorem less_sorted (S : List Str) : (lessF S).Pairwise fun a b => leLen a b = true := (sets_sorted S 2).sublist List.filter_sublist
theorem sets_last {S : List Str} (h : Inc S) (h2 : 2 ≤ S.length) : setsF S 2 = lessF S ++ [S] := by
  refine sorted_ext (sets_sorted _ _) (List.pairwise_append.mpr ⟨less_sorted S, List.pairwise_singleton _ _, fun a ha b hb => ?_⟩) (sets_nodup h 2) (List.nodup_append.mpr ⟨less_nodup h, by simp, fun a ha b hb q => ?_⟩) fun T => ?_
  · rw [List.mem_singleton.mp hb]
    exact leLen_short (less_mem.mp ha).2.2
  · rw [List.mem_singleton.mp hb] at q
    have := (less_mem.mp ha).2.2
    rw [q] at this
    exact Nat.lt_irrefl _ this
  · rw [sets_mem, List.mem_append, less_mem, List.mem_singleton]
    refine ⟨fun ⟨q1, q2⟩ => ?_, fun q => q.elim (fun ⟨q1, q2, _⟩ => ⟨q1, q2⟩) fun q => by rw [q]; exact ⟨List.Sublist.refl _, h2⟩⟩
    rcases Nat.lt_or_ge T.length S.length with c | c
    · exact .inl ⟨q1, q2, c⟩
    · exact .inr (q1.eq_of_length_le c)
theorem pile_app2 {x y y' : Row} (h : pile y = pile y') : pile (x ++ y) = pile (x ++ y') := pile_both rfl h
theorem pile_app1 {x x' y : Row} (h : pile x = pile x') : pile (x ++ y) = pile (x' ++ y) := pile_both h rfl
theorem pile_way (x y : Row) : pile (back x ++ (x ++ y)) = pile y := by
  rw [← List.append_assoc, pile_app1 (pile_undo2 x), List.nil_append]
/-- what has these properties is the part -/
theorem own_uniq {row : Row} {g : List Str → Row} : ∀ (n : Nat) (S : List Str), S.length ≤ n → Inc S → 2 ≤ S.length → (∀ T, T.Sublist S → 2 ≤ T.length → leastF (g T) = g T ∧ pile (((setsF T 2).map g).flatten) = pile (keptF row T)) → g S = own row S
  | 0, S, hn, _, h2, _ => by omega
  | n + 1, S, hn, h, h2, hg => by
    have eJ : (lessF S).map g = (lessF S).map (own row) := by
      refine List.map_congr_left fun T hT => ?_
      obtain ⟨t1, t2, t3⟩ := less_mem.mp hT
      exact own_uniq n T (by omega) (h.sublist t1) t2 fun U hU => hg U (hU.trans t1)
    obtain ⟨e1, e2⟩ := hg S (List.Sublist.refl _) h2
    rw [sets_last h h2, List.map_append, List.flatten_append, eJ] at e2
    have e : ([S].map g).flatten = g S := by simp
    rw [e] at e2
    rw [own_eq, ← e1]
    refine least_same ?_
    rw [pile_app2 e2.symm, pile_way]
abbrev Pt := List Str × Row
/-- the parts of a row, its ropes among ns -/
def partsN (ns : List Str) (row : Row) : List Pt := ((setsF ns 2).filter fun S => !decide (own row S = [])).map fun S => (S, own row S)
theorem flat_if {g : List Str → Row} {p : List Str → Bool} : ∀ l : List (List Str), (l.map fun T => if p T = true then g T else []).flatten = ((l.filter p).map g).flatten
  | [] => rfl
  | T :: l => by
    rw [List.map_cons, List.flatten_cons, List.filter_cons, flat_if l]
    split
    · rw [List.map_cons, List.flatten_cons]
    · rw [List.nil_append]
theorem kept_on {r : Row} {S : List Str} (h : ∀ x ∈ r, x.1 ∈ S ∧ x.2.1 ∈ S) : keptF r S = r := by
  unfold keptF
  rw [List.filter_eq_self]
  intro x hx
  have := h x hx
  simp [this.1, this.2]
theorem own_one {r : Row} {ns : List Str} (hn : Inc ns) (n2 : 2 ≤ ns.length) (hon : ∀ x ∈ r, x.1 ∈ ns ∧ x.2.1 ∈ ns) (hp : ∀ U, (∃ z ∈ ns, z ∉ U) → pile (keptF r U) = pile []) {S : List Str} (h : Inc S) (h2 : 2 ≤ S.length) : own r S = if S = ns then leastF r else [] := by
  refine (own_uniq (row := r) (g := fun S => if S = ns then leastF r else []) S.length S (Nat.le_refl _) h h2 fun T hT t2 => ⟨?_, ?_⟩).symm
  · show leastF (if T = ns then leastF r else []) = if T = ns then leastF r else []
    split
    · exact least_least r
    · exact leastF_nil
  · have iT := h.sublist hT
    by_cases c : withinF ns T = true
    · have hs := names_sub hn iT (within_iff.mp c)
      have e : ((setsF T 2).map fun S => if S = ns then leastF r else []).flatten = leastF r := by
        have e1 : ((setsF T 2).map fun S => if S = ns then leastF r else []) = (setsF T 2).map fun S => if decide (S = ns) = true then leastF r else [] := by simp
        rw [e1, flat_if (g := fun _ => leastF r) (p := fun S => decide (S = ns))]
        have e2 : ((setsF T 2).filter fun S => decide (S = ns)) = [ns] := by
          refine sorted_ext ((sets_sorted _ _).sublist List.filter_sublist) (List.pairwise_singleton _ _) ((sets_nodup iT 2).sublist List.filter_sublist) (by simp) fun S => ?_
          rw [List.mem_filter, sets_mem, List.mem_singleton, decide_eq_true_eq]
          exact ⟨fun q => q.2, fun q => ⟨by rw [q]; exact ⟨hs, n2⟩, q⟩⟩
        rw [e2]
        simp
      rw [e, kept_on fun x hx => ⟨hs.subset (hon x hx).1, hs.subset (hon x hx).2⟩, pile_least]
    · have e : ((setsF T 2).map fun S => if S = ns then leastF r else []).flatten = [] := by
        rw [List.flatten_eq_nil_iff]
        intro l hl
        obtain ⟨S, hS, rfl⟩ := List.mem_map.mp hl
        split
        · rename_i q
          exfalso
          apply c
          rw [← q]
          exact within_iff.mpr fun z hz => (sets_mem.mp hS).1.subset hz
        · rfl
      rw [e]
      refine (hp T ?_).symm
      refine Classical.byContradiction fun d => c (within_iff.mpr fun z hz => Classical.byContradiction fun q => d ⟨z, hz, q⟩)
theorem parts_one {r : Row} {ns ms : List Str} (hn : Inc ns) (n2 : 2 ≤ ns.length) (hm : Inc ms) (hs : ns.Sublist ms) (hon : ∀ x ∈ r, x.1 ∈ ns ∧ x.2.1 ∈ ns) (hp : ∀ U, (∃ z ∈ ns, z ∉ U) → pile (keptF r U) = pile []) (hb : leastF r ≠ []) : partsN ms r = [(ns, leastF r)] := by
  unfold partsN
  have e : ((setsF ms 2).filter fun S => !decide (own r S = [])) = [ns] := by
    refine sorted_ext ((sets_sorted _ _).sublist List.filter_sublist) (List.pairwise_singleton _ _) ((sets_nodup hm 2).sublist List.filter_sublist) (by simp) fun S => ?_
    rw [List.mem_filter, List.mem_singleton, sets_mem]
    refine ⟨fun ⟨⟨s1, s2⟩, q⟩ => ?_, fun q => ?_⟩
    · rw [own_one hn n2 hon hp (hm.sublist s1) s2] at q
      refine Classical.byContradiction fun c => ?_
      rw [if_neg c] at q
      simp at q
    · subst q
      refine ⟨⟨hs, n2⟩, ?_⟩
      rw [own_one hn n2 hon hp hn n2, if_pos rfl]
      simp [hb]
  rw [e, List.map_singleton, own_one hn n2 hon hp hn n2, if_pos rfl]
end SH
namespace SH
open PySem PySem.Spec PyProof.Rows L2 DL
theorem within_refl (a : List Str) : withinF a a = true := within_iff.mpr fun _ h => h
end SH
namespace SH
open PySem PySem.Spec PyProof.Rows L2 DL
end SH
namespace SH
open PySem PySem.Spec PyProof.Rows L2 DL
theorem RowIn.keptF {r : Row} (h : RowIn r) (s : List Str) : RowIn (SH.keptF r s) := fun x hx => h x (List.mem_filter.mp hx).1
end SH
namespace SH
open PySem PySem.Spec PyProof.Rows L2 DL
def wx : DTT := (wTru (wCall Ph_is_within (wCons (wVar 2) (wCons (wVar 1) wNil))))
theorem held_sub {ns : List Str} {row : Row} (hn : Names ns) (h : RowOf ns row) : (heldF row).Sublist ns := names_sub (held_ok (h.inn hn)).2 hn.2 fun z hz => by
  obtain ⟨x, hx, t⟩ := held_mem.mp hz
  have a := h x (settled_mem hx)
  unfold touches at t
  simp only [Bool.or_eq_true, decide_eq_true_eq] at t
  rcases t with e | e
  · rw [← e]; exact a.1
  · rw [← e]; exact a.2.1
end SH
namespace SH
open PySem PySem.Spec PyProof.Rows L2 DL
end SH
namespace SH
open PySem PySem.Spec PyProof.Rows L2 DL
def sgn (n : Int) : Int := if 0 < n then 1 else -1
def rep (a b : Str) (n : Int) : Row := List.replicate n.natAbs (a, b, sgn n)
theorem two_of {S : List Str} (h : S.length = 2) : ∃ a b, S = [a, b] := by
  match S, h with
  | [a, b], _ => exact ⟨a, b, rfl⟩
end SH
namespace SH
open PySem PySem.Spec PyProof.Rows L2 DL
/-- a hook of two ropes, either way about -/
def Joins (h : Hook) (a b : Str) : Prop := (h.1 = a ∧ h.2.1 = b ∨ h.1 = b ∧ h.2.1 = a) ∧ (h.2.2 = 1 ∨ h.2.2 = -1)
def isBy (ns : List Str) (k : Nat) (h : Hook) : Prop := 0 < k ∧ (ns[k - 1]? = some h.1 ∧ ns[k]? = some h.2.1 ∨ ns[k - 1]? = some h.2.1 ∧ ns[k]? = some h.1)
instance (ns : List Str) (k : Nat) (h : Hook) : Decidable (isBy ns k h) := by unfold isBy; exact inferInstance
def rise2 (ns : List Str) (h : Hook) (s : Nat → Int) : Nat → Int := fun k => if isBy ns k h then s k + h.2.2 * s (k - 1) else s k
theorem by_inj {ns : List Str} (nd : ns.Nodup) {i j : Nat} {h : Hook} (a : isBy ns i h) (b : isBy ns j h) : i = j := by
  obtain ⟨a0, a1 | a1⟩ := a <;> obtain ⟨b0, b1 | b1⟩ := b
  · exact at_inj nd a1.2 b1.2
  · have := at_inj nd a1.1 b1.2
    have := at_inj nd a1.2 b1.1
    omega
  · have := at_inj nd a1.1 b1.2
    have := at_inj nd a1.2 b1.1
    omega
  · exact at_inj nd a1.2 b1.2
theorem by_not {ns : List Str} (nd : ns.Nodup) {k : Nat} {h : Hook} (a : isBy ns k h) : ¬ isBy ns (k - 1) h := fun b => by
  have := by_inj nd a b
  have := a.1
  omega
theorem rise2_back {ns : List Str} (nd : ns.Nodup) (h : Hook) (s : Nat → Int) : rise2 ns (turned h) (rise2 ns h s) = s := by
  funext k
  have e : ∀ k, isBy ns k (turned h) ↔ isBy ns k h := fun k => Iff.rfl
  unfold rise2
  simp only [e]
  by_cases c : isBy ns k h
  · rw [if_pos c, if_pos c, if_neg (by_not nd c)]
    show s k + h.2.2 * s (k - 1) + -h.2.2 * s (k - 1) = s k
    rw [Int.neg_mul]
    omega
  · rw [if_neg c, if_neg c]
theorem by_on {ns : List Str} {k : Nat} {h : Hook} (a : isBy ns k h) {z : Str} (hz : ns[k]? = some z ∨ ns[k - 1]? = some z) : z = h.1 ∨ z = h.2.1 := by
  obtain ⟨_, a1 | a1⟩ := a <;> rcases hz with hz | hz
  · rw [a1.2] at hz; exact .inr (Option.some.inj hz).symm
  · rw [a1.1] at hz; exact .inl (Option.some.inj hz).symm
  · rw [a1.2] at hz; exact .inl (Option.some.inj hz).symm
  · rw [a1.1] at hz; exact .inr (Option.some.inj hz).symm
theorem by_at {ns : List Str} {k : Nat} {h : Hook} (a : isBy ns k h) : (∃ z, ns[k]? = some z ∧ (z = h.1 ∨ z = h.2.1)) ∧ ∃ z, ns[k - 1]? = some z ∧ (z = h.1 ∨ z = h.2.1) := by
  obtain ⟨_, a1 | a1⟩ := a
  · exact ⟨⟨_, a1.2, .inr rfl⟩, ⟨_, a1.1, .inl rfl⟩⟩
  · exact ⟨⟨_, a1.2, .inl rfl⟩, ⟨_, a1.1, .inr rfl⟩⟩
theorem rise2_pass {ns : List Str} (nd : ns.Nodup) (h g : Hook) (s : Nat → Int) (e : hits h g = false) : rise2 ns h (rise2 ns g s) = rise2 ns g (rise2 ns h s) := by
  have off := hits_false e
  have ne1 : g.1 ≠ h.1 ∧ g.2.1 ≠ h.1 := by
    have := off.1
    unfold touches at this
    simpa using this
  have ne2 : g.1 ≠ h.2.1 ∧ g.2.1 ≠ h.2.1 := by
    have := off.2
    unfold touches at this
    simpa using this
  have apart : ∀ z, (z = h.1 ∨ z = h.2.1) → (z = g.1 ∨ z = g.2.1) → False := fun z a b => by
    rcases a with rfl | rfl <;> rcases b with b | b
    · exact ne1.1 b.symm
    · exact ne1.2 b.symm
    · exact ne2.1 b.symm
    · exact ne2.2 b.symm
  have n1 : ∀ k, isBy ns k h → ¬ isBy ns k g ∧ ¬ isBy ns (k - 1) g := fun k a => by
    obtain ⟨⟨z, z1, z2⟩, y, y1, y2⟩ := by_at a
    exact ⟨fun b => apart z z2 (by_on b (.inl z1)), fun b => apart y y2 (by_on b (.inl y1))⟩
  have n2 : ∀ k, isBy ns k g → ¬ isBy ns k h ∧ ¬ isBy ns (k - 1) h := fun k a => by
    obtain ⟨⟨z, z1, z2⟩, y, y1, y2⟩ := by_at a
    exact ⟨fun b => apart z (by_on b (.inl z1)) z2, fun b => apart y (by_on b (.inl y1)) y2⟩
  funext k
  unfold rise2
  by_cases c : isBy ns k h
  · obtain ⟨d1, d2⟩ := n1 k c
    rw [if_pos c, if_neg d1, if_neg d2, if_neg d1, if_pos c]
  · by_cases d : isBy ns k g
    · obtain ⟨c1, c2⟩ := n2 k d
      rw [if_neg c1, if_pos d, if_pos d, if_neg c1, if_neg c2]
    · rw [if_neg c, if_neg d, if_neg d, if_neg c]
/-- a row woven rope by rope -/
inductive Wv : List Str → Row → Prop
  | two {a b : Str} {h : Hook} : Joins h a b → Wv [a, b] [h]
  | more {zs : List Str} {l x : Str} {r : Row} {h : Hook} : Wv (zs ++ [l]) r → Joins h l x → Wv (zs ++ [l, x]) (r ++ [h] ++ back r ++ [turned h])
theorem Wv.long {zs : List Str} {r : Row} (w : Wv zs r) : 2 ≤ zs.length := by
  induction w with
  | two _ => exact Nat.le_refl _
  | more _ _ ih => simp at ih ⊢
theorem Wv.on {zs : List Str} {r : Row} (w : Wv zs r) : ∀ x ∈ r, x.1 ∈ zs ∧ x.2.1 ∈ zs := by
  induction w with
  | two j =>
    intro x hx
    rw [List.mem_singleton.mp hx]
    rcases j.1 with ⟨e1, e2⟩ | ⟨e1, e2⟩ <;> rw [e1, e2] <;> simp
  | @more zs l x r h w j ih =>
    have sub : ∀ z, z ∈ zs ++ [l] → z ∈ zs ++ [l, x] := fun z hz => by simp at hz ⊢; rcases hz with hz | hz <;> simp [hz]
    have hh : ∀ g : Hook, g.1 = h.1 → g.2.1 = h.2.1 → g.1 ∈ zs ++ [l, x] ∧ g.2.1 ∈ zs ++ [l, x] := fun g e1 e2 => by
      rw [e1, e2]
      rcases j.1 with ⟨e1, e2⟩ | ⟨e1, e2⟩ <;> rw [e1, e2] <;> simp
    intro y hy
    simp only [List.mem_append, List.mem_singleton] at hy
    rcases hy with ((hy | rfl) | hy) | rfl
    · exact ⟨sub _ (ih y hy).1, sub _ (ih y hy).2⟩
    · exact hh _ rfl rfl
    · unfold back at hy
      obtain ⟨g, hg, rfl⟩ := List.mem_map.mp hy
      have := ih g (List.mem_reverse.mp hg)
      exact ⟨sub _ this.1, sub _ this.2⟩
    · exact hh _ rfl rfl
theorem Wv.bare {zs : List Str} {r : Row} (w : Wv zs r) {S : List Str} : (∃ z ∈ zs, z ∉ S) → pile (keptF r S) = pile [] := by
  induction w with
  | @two a b h j =>
    rintro ⟨z, hz, c⟩
    have : keptF [h] S = [] := by
      unfold keptF
      rw [List.filter_eq_nil_iff]
      intro g hg d
      rw [List.mem_singleton.mp hg, Bool.and_eq_true, decide_eq_true_iff, decide_eq_true_iff] at d
      simp only [List.mem_cons, List.not_mem_nil, or_false] at hz
      rcases j.1 with ⟨e1, e2⟩ | ⟨e1, e2⟩ <;> rw [e1, e2] at d <;> rcases hz with rfl | rfl
      · exact c d.1
      · exact c d.2
      · exact c d.2
      · exact c d.1
    rw [this]
  | @more zs l x r h w j ih =>
    rintro ⟨z, hz, c⟩
    have ka : ∀ u v : Row, keptF (u ++ v) S = keptF u S ++ keptF v S := fun u v => List.filter_append ..
    have kb : keptF (back r) S = back (keptF r S) := kept_back r S
    have kt : keptF [turned h] S = back (keptF [h] S) := kept_back [h] S
    rw [ka, ka, ka, kb, kt]
    by_cases d : z ∈ zs ++ [l]
    · have e := ih ⟨z, d, c⟩
      have eb := pile_backs e
      have h1 : pile (keptF r S ++ keptF [h] S ++ back (keptF r S) ++ back (keptF [h] S)) = pile ([] ++ keptF [h] S ++ [] ++ back (keptF [h] S)) := pile_app1 (pile_both (pile_app1 e) eb)
      rw [h1, List.nil_append, List.append_nil]
      exact pile_undo _
    · have zx : z = x := by
        simp at hz d
        rcases hz with hz | hz | hz
        · exact absurd hz d.1
        · exact absurd hz d.2
        · exact hz
      subst zx
      have : keptF [h] S = [] := by
        unfold keptF
        rw [List.filter_eq_nil_iff]
        intro g hg d
        rw [List.mem_singleton.mp hg, Bool.and_eq_true, decide_eq_true_iff, decide_eq_true_iff] at d
        rcases j.1 with ⟨e1, e2⟩ | ⟨e1, e2⟩ <;> rw [e1, e2] at d
        · exact c d.2
        · exact c d.1
      rw [this, List.append_nil]
      show pile (keptF r S ++ back (keptF r S) ++ []) = _
      rw [List.append_nil]
      exact pile_undo _
theorem lift_neg {k : Nat} (h0 : 0 < k) (c : Int) (s : Nat → Int) : lift k c (lift k (-c) s) = s := by
  funext j
  unfold lift
  by_cases d : j = k
  · subst d
    rw [if_pos rfl, if_pos rfl, if_neg (show ¬ 0 = j by omega), Int.neg_mul]
    omega
  · rw [if_neg d, if_neg d]
theorem Wv.does {zs : List Str} {r : Row} (w : Wv zs r) : ∀ {ns : List Str}, ns.Nodup → zs <+: ns → ∃ c : Int, (c = 1 ∨ c = -1) ∧ ∀ s, doing (rise2 ns) r s = lift (zs.length - 1) c s := by
  induction w with
  | @two a b h j =>
    intro ns nd hp
    obtain ⟨t, rfl⟩ := hp
    refine ⟨h.2.2, j.2, fun s => ?_⟩
    show rise2 _ h s = _
    have at1 : isBy ([a, b] ++ t) 1 h := by
      refine ⟨by decide, ?_⟩
      rcases j.1 with ⟨e1, e2⟩ | ⟨e1, e2⟩ <;> rw [e1, e2]
      · exact .inl ⟨rfl, rfl⟩
      · exact .inr ⟨rfl, rfl⟩
    funext k
    unfold rise2 lift
    by_cases c : k = 1
    · subst c
      rw [if_pos at1, if_pos (show 1 = [a, b].length - 1 from rfl)]
    · rw [if_neg fun q => c (by_inj nd q at1), if_neg (show ¬ k = [a, b].length - 1 from c)]
  | @more zs l x r h w j ih =>
    intro ns nd hp
    have hp2 : zs ++ [l] <+: ns := List.IsPrefix.trans ⟨[x], by simp⟩ hp
    obtain ⟨c, hc, e⟩ := ih nd hp2
    have lz : (zs ++ [l]).length - 1 = zs.length := by simp
    have z0 : 0 < zs.length := by
      have := w.long
      simp at this
      omega
    rw [lz] at e
    have eb : ∀ s, doing (rise2 ns) (back r) s = lift zs.length (-c) s := fun s => by
      have q : doing (rise2 ns) r (lift zs.length (-c) s) = s := by rw [e, lift_neg z0]
      have := doing_back (rise2_back nd) r (lift zs.length (-c) s)
      rw [q] at this
      exact this
    obtain ⟨t, rfl⟩ := hp
    have g1 : (zs ++ [l, x] ++ t)[zs.length]? = some l := by simp
    have g2 : (zs ++ [l, x] ++ t)[zs.length + 1]? = some x := by simp
    have at1 : isBy (zs ++ [l, x] ++ t) (zs.length + 1) h := by
      refine ⟨Nat.succ_pos _, ?_⟩
      rcases j.1 with ⟨e1, e2⟩ | ⟨e1, e2⟩ <;> rw [e1, e2]
      · exact .inl ⟨g1, g2⟩
      · exact .inr ⟨g1, g2⟩
    have hat : ∀ g : Hook, (g.1 = h.1 ∧ g.2.1 = h.2.1) → ∀ k, isBy (zs ++ [l, x] ++ t) k g ↔ k = zs.length + 1 := fun g eg k => by
      have ag : isBy (zs ++ [l, x] ++ t) (zs.length + 1) g := by
        unfold isBy
        rw [eg.1, eg.2]
        exact at1
      exact ⟨fun a => by_inj nd a ag, fun q => by rw [q]; exact ag⟩
    have hr : ∀ (g : Hook), (g.1 = h.1 ∧ g.2.1 = h.2.1) → ∀ s : Nat → Int, rise2 (zs ++ [l, x] ++ t) g s = fun k => if k = zs.length + 1 then s k + g.2.2 * s zs.length else s k := fun g eg s => by
      funext k
      unfold rise2
      simp only [hat g eg]
      by_cases d : k = zs.length + 1
      · subst d
        rw [if_pos rfl, if_pos rfl]
        rfl
      · rw [if_neg d, if_neg d]
    have ll : (zs ++ [l, x]).length - 1 = zs.length + 1 := by simp
    refine ⟨h.2.2 * c, by rcases j.2 with q | q <;> rcases hc with p | p <;> rw [q, p] <;> simp, fun s => ?_⟩
    rw [ll, doing_app, doing_app, doing_app, e, eb]
    show rise2 _ (turned h) (lift zs.length (-c) (rise2 _ h (lift zs.length c s))) = _
    rw [hr h ⟨rfl, rfl⟩, hr (turned h) ⟨rfl, rfl⟩]
    have ht : (turned h).2.2 = -h.2.2 := rfl
    funext k
    unfold lift
    by_cases d : k = zs.length + 1
    · subst d
      simp only [if_true, show ¬ (zs.length + 1 = zs.length) by omega, if_false, show ¬ (zs.length = zs.length + 1) by omega, show ¬ (0 = zs.length) by omega, show ¬ (0 = zs.length + 1) by omega, ht]
      rcases j.2 with q | q <;> rcases hc with p | p <;> rw [q, p] <;> omega
    · by_cases d2 : k = zs.length
      · subst d2
        simp only [if_true, show ¬ (zs.length = zs.length + 1) by omega, if_false, show ¬ (0 = zs.length) by omega, show ¬ (0 = zs.length + 1) by omega]
        rcases hc with p | p <;> rw [p] <;> omega
      · simp only [d, d2, if_false]
theorem Wv.not {zs : List Str} {r : Row} (w : Wv zs r) (nd : zs.Nodup) : pile r ≠ pile [] := fun e => by
  obtain ⟨c, hc, h⟩ := w.does nd (List.prefix_refl zs)
  have q := congrFun (doing_same (rise2_back nd) (rise2_pass nd) e fun j => if j = 0 then 1 else 0) (zs.length - 1)
  have l2 := w.long
  rw [h] at q
  unfold lift at q
  rw [if_pos rfl] at q
  have n0 : (if zs.length - 1 = 0 then (1 : Int) else 0) = 0 := if_neg (by omega)
  rw [show doing (rise2 zs) [] (fun j => if j = 0 then (1 : Int) else 0) (zs.length - 1) = 0 from n0] at q
  simp only [n0, if_true] at q
  rcases hc with p | p <;> rw [p] at q <;> omega
end SH
namespace SH
open PySem PySem.Spec PyProof.Rows L2 DL
def BoxesK (N : Int) (κ : Kap) : Prop := ∀ i, i < κ.length → ∃ bs, κ[i]? = some (.l bs) ∧ Box N bs
theorem BoxesK.snoc {N : Int} {κ : Kap} {bs : List PyData} (h : BoxesK N κ) (hb : Box N bs) : BoxesK N (κ ++ [.l bs]) := fun i hi => by
  rw [List.length_append, List.length_singleton] at hi
  by_cases c : i < κ.length
  · rw [List.getElem?_append_left c]; exact h i c
  · rw [List.getElem?_append_right (by omega), show i - κ.length = 0 by omega]
    exact ⟨bs, rfl, hb⟩
theorem BoxesK.put {N M : Int} {κ : Kap} {bs : List PyData} {j : Nat} (h : BoxesK N κ) (hm : N ≤ M) (hb : Box M bs) : BoxesK M (κ.set j (.l bs)) := fun i hi => by
  rw [List.length_set] at hi
  by_cases c : j = i
  · subst c
    exact ⟨bs, List.getElem?_set_self hi, hb⟩
  · rw [List.getElem?_set_ne c]
    obtain ⟨b, e, q⟩ := h i hi
    exact ⟨b, e, q.mono hm⟩
section
variable {Ph : List PyData → List R → (R → List PyData → Prop) → Prop} {c : Int}
end
end SH
namespace SH
open PySem PySem.Spec PyProof.Rows L2 DL
section
variable {Ph : List PyData → List R → (R → List PyData → Prop) → Prop} {c : Int}
end
end SH
namespace SH
open PySem PySem.Spec PyProof.Rows L2 DL
/-- can be told: depth at most n, weight at most w -/
def Tell (n w : Nat) (d : PyData) : Prop := d.canLay0 = true ∧ d.depth ≤ n ∧ d.showable = true ∧ d.leavesShort 13 = true ∧ d.weight ≤ w
theorem Tell.mono {n w n' w' : Nat} {d : PyData} (h : Tell n w d) (h1 : n ≤ n') (h2 : w ≤ w') : Tell n' w' d := ⟨h.1, by have := h.2.1; omega, h.2.2.1, h.2.2.2.1, by have := h.2.2.2.2; omega⟩
theorem Tell.text {n w : Nat} {xs : List PyData} (h : Tell n w (.list xs)) (h1 : n ≤ 100) (h2 : w ≤ 2 ^ 20) : TextOk (.list xs) :=
  ⟨h.2.2.1, h.1, by have := h.2.1; omega, PyData.shown_fits (B := 13) (by decide) (by decide) h.2.2.2.1 (by have := h.2.2.2.2; omega), .inl ⟨_, rfl⟩⟩
end SH
namespace SH
open PySem PySem.Spec PyProof.Rows L2 DL
/-- as GoodN, without truths -/
def GoodC : Nat → PyData → Prop
  | n + 1, .list xs => xs.length ≤ sizeLine ∧ ∀ x ∈ xs, GoodC n x
  | n + 1, .tuple xs => xs.length ≤ sizeLine ∧ ∀ x ∈ xs, GoodC n x
  | _ + 1, .str z => SeqAt.shaped (.str z) = true
  | _ + 1, .int _ => True
  | _ + 1, .none => True
  | _, _ => False
theorem GoodC.good : ∀ {n : Nat} {x : PyData}, GoodC n x → GoodN n x
  | 0, x, h => by cases x <;> exact h.elim
  | n + 1, .list xs, h => ⟨h.1, fun x hx => GoodC.good (h.2 x hx)⟩
  | n + 1, .tuple xs, h => ⟨h.1, fun x hx => GoodC.good (h.2 x hx)⟩
  | n + 1, .str z, h => h
  | n + 1, .int i, _ => trivial
  | n + 1, .none, _ => trivial
  | n + 1, .bool _, h => h.elim
  | n + 1, .dict _, h => h.elim
theorem GoodC.up : ∀ {n : Nat} {x : PyData}, GoodC n x → GoodC (n + 1) x
  | 0, x, h => by cases x <;> exact h.elim
  | n + 1, .list xs, h => ⟨h.1, fun x hx => GoodC.up (h.2 x hx)⟩
  | n + 1, .tuple xs, h => ⟨h.1, fun x hx => GoodC.up (h.2 x hx)⟩
  | n + 1, .str z, h => h
  | n + 1, .int i, _ => trivial
  | n + 1, .none, _ => trivial
  | n + 1, .bool _, h => h.elim
  | n + 1, .dict _, h => h.elim
end SH
namespace SH
open PySem PySem.Spec PyProof.Rows L2 DL
theorem RowOf.leastF {ns : List Str} {r : Row} (h : RowOf ns r) : RowOf ns (SH.leastF r) := fun x hx => h x (least_mem hx)
end SH
namespace SH
open PySem PySem.Spec PyProof.Rows L2 DL
/-- on these ropes, bare without one of them, not bare -/
def PureOn (ns : List Str) (r : Row) : Prop := RowOf ns r ∧ (∀ U, (∃ z ∈ ns, z ∉ U) → pile (keptF r U) = pile []) ∧ pile r ≠ pile []
section
variable {ns : List Str} {r x : Row}
theorem PureOn.drawn (p : PureOn ns r) {z : Str} (hz : z ∈ ns) : pile (drawnF r [z]) = pile [] := by
  rw [← kept_rest p.1]
  exact p.2.1 _ ⟨z, hz, by simp⟩
theorem PureOn.held (hn : Names ns) (p : PureOn ns r) : heldF r = ns := by
  refine strict_uniq (held_ok (p.1.inn hn)).2 hn.2 fun z => ⟨fun h => ?_, fun h => ?_⟩
  · exact (held_sub hn p.1).subset h
  · rw [held_iff, least_same (p.drawn h), leastF_nil]
    exact fun e => p.2.2 (bare_iff.mp e.symm)
theorem PureOn.kept (p : PureOn ns r) {z : Str} (hz : z ∈ ns) : leastF (keptF r (ns.filter fun x => !decide (x = z))) = [] := bare_iff.mpr (p.2.1 _ ⟨z, hz, by simp⟩)
theorem PureOn.pure (hn : Names ns) (p : PureOn ns r) : pureF r ns = true := by
  unfold pureF
  rw [← held_ropes, p.held hn, within_refl, Bool.true_and, List.all_eq_true]
  exact fun z hz => decide_eq_true (bare_iff.mpr (p.drawn hz))
theorem PureOn.parts (hn : Names ns) (n2 : 2 ≤ ns.length) (p : PureOn ns r) : partsN ns r = [(ns, leastF r)] :=
  parts_one hn.2 n2 hn.2 (List.Sublist.refl _) (fun x hx => ⟨(p.1 x hx).1, (p.1 x hx).2.1⟩) p.2.1 fun e => p.2.2 (bare_iff.mp e)
theorem PureOn.least (p : PureOn ns r) : leastF r ≠ [] := fun e => p.2.2 (bare_iff.mp e)
theorem PureOn.knot (hn : Names ns) (n2 : 2 ≤ ns.length) : PureOn ns (SH.knot ns) := by
  obtain ⟨a, b, xs, rfl⟩ := two_of_set n2
  have nd : (a :: b :: xs).Nodup := hn.2.imp fun q e => by subst e; exact absurd q (List.lt_irrefl _)
  exact ⟨knot_of hn, fun U h => knot_bare h, knot_not nd⟩
theorem flat_bare {g : Row} (h : pile g = pile []) : ∀ n, pile (List.replicate n g).flatten = pile []
  | 0 => rfl
  | n + 1 => by
    rw [List.replicate_succ, List.flatten_cons, pile_both h (flat_bare h n)]
    rfl
theorem kept_rep (U : List Str) (g : Row) : ∀ n, keptF (List.replicate n g).flatten U = (List.replicate n (keptF g U)).flatten
  | 0 => rfl
  | n + 1 => by rw [List.replicate_succ, List.replicate_succ, List.flatten_cons, List.flatten_cons, kept_app, kept_rep U g n]
theorem PureOn.knots (hn : Names ns) (n2 : 2 ≤ ns.length) {n : Nat} (h : 0 < n) : PureOn ns (List.replicate n (SH.knot ns)).flatten := by
  obtain ⟨a, b, xs, rfl⟩ := two_of_set n2
  have nd : (a :: b :: xs).Nodup := hn.2.imp fun q e => by subst e; exact absurd q (List.lt_irrefl _)
  exact ⟨rep_of (knot_of hn) n, fun U h => by rw [kept_rep]; exact flat_bare (knot_bare h) n, knots_not nd n h⟩
theorem PureOn.led (p : PureOn ns r) (hx : RowOf ns x) : PureOn ns (x ++ r ++ SH.back x) :=
  ⟨(hx.app p.1).app hx.back, fun U h => by rw [kept_app, kept_app, kept_back]; exact conj_bare.mpr (p.2.1 U h), fun e => p.2.2 (conj_bare.mp e)⟩
end
end SH
namespace SH
open PySem PySem.Spec PyProof.Rows L2 DL
end SH
namespace SH
open PySem PySem.Spec PyProof.Rows L2 DL
section
variable {ns : List Str} {row : Row} {rope : Str}
def others (ns ropes : List Str) : List Str := ns.filter fun z => !decide (z ∈ ropes)
end
end SH
namespace SH
open PySem PySem.Spec PyProof.Rows L2 DL
end SH
namespace SH
open PySem PySem.Spec PyProof.Rows L2 DL
def Small (f : List (List Str)) : Prop := ∀ s ∈ f, (∀ z ∈ s, IsName z) ∧ s.length ≤ 1000
end SH
namespace SH
open PySem PySem.Spec PyProof.Rows L2 DL
section
variable {ns ropes cut : List Str} {row : Row}
end
end SH
namespace SH
open PySem PySem.Spec PyProof.Rows L2 DL
section
variable {ns ropes : List Str} {row : Row}
end
end SH
namespace SH
open PySem PySem.Spec PyProof.Rows L2 DL
section
variable {Ph : List PyData → List R → (R → List PyData → Prop) → Prop} {c : Int}
end
end SH
namespace SH
open PySem PySem.Spec PyProof.Rows L2 DL
section
variable {ns : List Str} {fam : List (List Str)}
end
end SH
namespace SH
open PySem PySem.Spec PyProof.Rows L2 DL
theorem ssF_eq {ss ns : List Str} (h1 : Inc ns) (h2 : ∀ r, r ∈ ns ↔ r ∈ ss) : ssF ss = ns := by
  have nd : (ns.map Sum.inr : List Key).Nodup := by
    rw [List.nodup_iff_pairwise_ne, List.pairwise_map]
    exact h1.imp fun {a b} q e => cs_ne q (Sum.inr.inj e)
  have pw : (ns.map Sum.inr : List Key).Pairwise fun a b => leK a b = true := by
    rw [List.pairwise_map]
    exact h1.imp fun {a b} q => leK_lt q
  have e1 : (dedupK (ss.map Sum.inr)).mergeSort leK = ns.map Sum.inr := by
    rw [sortK_uniq (dedupK_nd _) nd fun k => ?_]
    · exact sorted_uniq (le := leK) leK_anti (List.mergeSort_perm _ _) (List.pairwise_mergeSort leK_trans leK_total _) pw
    · rw [dedupK_mem, List.mem_map, List.mem_map]
      exact ⟨fun ⟨r, hr, e⟩ => ⟨r, (h2 r).mpr hr, e⟩, fun ⟨r, hr, e⟩ => ⟨r, (h2 r).mp hr, e⟩⟩
  unfold ssF
  rw [e1, List.map_map]
  exact List.map_id _
end SH
namespace DL
open PySem PySem.Spec PyProof.Rows L2
section
variable {prog : Program} {w : World} {A : Around} {E : Value → Shared → Prop}
/-- a tuple that is a key -/
def TupK (prog : Program) (w : World) (h : Heap) (q : List Key) (b : Addr) : Prop := ∃ its, IsTup h b its ∧ ItemsAre (mixKind prog w) q its.toList
theorem TupK.is {h : Heap} {q : List Key} {b : Addr} (x : TupK prog w h q b) : (tupleKind (mixKind prog w)).is h q b := by
  obtain ⟨its, ⟨o, ho, hc, n, hd⟩, hi⟩ := x
  exact ⟨o, its, n, ho, hc, hd, hi⟩
theorem TupK.ext {h h' : Heap} {q : List Key} {b : Addr} (x : TupK prog w h q b) (k : ∀ o, h.get? b = some o → h'.get? b = some o) : TupK prog w h' q b := by
  obtain ⟨its, ⟨o, ho, hc, n, hd⟩, hi⟩ := x
  exact ⟨its, ⟨o, k _ ho, hc, n, hd⟩, hi⟩
end
section
variable {X : Cx}
end
end DL
namespace DL
open PySem PySem.Spec PyProof.Rows L2
abbrev GEnt := List Str × PyData
def putG (es : List GEnt) (s : List Str) (d : PyData) : List GEnt := if (es.any fun e => decide (e.1 = s)) = true then es.map (fun e => if e.1 = s then (e.1, d) else e) else es ++ [(s, d)]
theorem inr_inj {a b : List Str} : (a.map (Sum.inr : Str → Key) = b.map Sum.inr) ↔ a = b := by
  refine ⟨fun h => ?_, fun h => by rw [h]⟩
  induction a generalizing b with
  | nil => cases b with
    | nil => rfl
    | cons y b => simp at h
  | cons x a ih => cases b with
    | nil => simp at h
    | cons y b =>
      simp only [List.map_cons, List.cons.injEq, Sum.inr.injEq] at h
      rw [h.1, ih h.2]
abbrev RelG (K : PySem.W.Frag) (G : Hp) (kvs : List (List Key × V)) (es : List GEnt) : Prop := Paired (fun (kv : List Key × V) (e : GEnt) => kv.1 = e.1.map Sum.inr ∧ Rp K G kv.2 e.2) kvs es
section
variable {K : PySem.W.Frag} {G : Hp}
theorem RelG.any {kvs : List (List Key × V)} {es : List GEnt} (h : RelG K G kvs es) (s : List Str) : (kvs.any fun kv => decide (kv.1 = s.map Sum.inr)) = es.any fun e => decide (e.1 = s) := by
  unfold RelG at h
  induction h with
  | nil => rfl
  | @cons kv e kvs es q _ ih =>
    rw [List.any_cons, List.any_cons, ih, q.1]
    congr 1
    exact decide_eq_decide.mpr inr_inj
theorem RelG.put {kvs : List (List Key × V)} {es : List GEnt} (h : RelG K G kvs es) {s : List Str} {v : V} {d : PyData} (hv : Rp K G v d) : RelG K G (putK kvs (s.map Sum.inr) v) (putG es s d) := by
  unfold putK putG
  rw [h.any s]
  by_cases cc : (es.any fun e => decide (e.1 = s)) = true
  · rw [if_pos cc, if_pos cc]
    clear cc
    unfold RelG at h ⊢
    induction h with
    | nil => exact .nil
    | @cons kv e kvs es q _ ih =>
      rw [List.map_cons, List.map_cons]
      refine .cons ?_ ih
      by_cases c : e.1 = s
      · rw [if_pos c, if_pos (by rw [q.1, c])]
        exact ⟨q.1, hv⟩
      · rw [if_neg c, if_neg (fun z => c (inr_inj.mp (q.1.symm.trans z)))]
        exact q
  · rw [if_neg cc, if_neg cc]
    clear cc
    unfold RelG at h ⊢
    induction h with
    | nil => exact .cons ⟨rfl, hv⟩ .nil
    | cons q _ ih => exact .cons q ih
end
section
variable {K : PySem.W.Frag} {G H G0 H0 : Hp} {As As0 : List Addr} {κ : Kap}
end
section
variable {X : Cx} {e o i y : Expr} {we wo wi wy : DTE} {p pos apos cpos : Pos}
theorem upd2 {H : Hp} {p : Addr} {a b : HO} : upd (upd H p a) p b = upd H p b := by
  funext x
  by_cases q : x = p
  · subst q; rw [upd_same, upd_same]
  · rw [upd_ne q, upd_ne q, upd_ne q]
end
end DL
namespace SH
open PySem PySem.Spec PyProof.Rows L2 DL
end SH
namespace SH
open PySem PySem.Spec PyProof.Rows L2 DL
/-- one row between the other, each in its order -/
inductive Shuf : Row → Row → Row → Prop
  | nil : Shuf [] [] []
  | left {x : Hook} {r q w : Row} : Shuf r q w → Shuf (x :: r) q (x :: w)
  | right {x : Hook} {r q w : Row} : Shuf r q w → Shuf r (x :: q) (x :: w)
theorem Shuf.len {r q w : Row} (h : Shuf r q w) : w.length = r.length + q.length := by
  induction h with
  | nil => rfl
  | left _ ih => simp only [List.length_cons]; omega
  | right _ ih => simp only [List.length_cons]; omega
theorem Shuf.mem {r q w : Row} (h : Shuf r q w) : ∀ x, x ∈ w ↔ x ∈ r ∨ x ∈ q := by
  induction h with
  | nil => intro x; simp
  | left _ ih => intro x; simp only [List.mem_cons, ih]; exact or_assoc.symm
  | right _ ih => intro x; simp only [List.mem_cons, ih]; exact or_left_comm
theorem pile_past {a : Hook} {y : Row} (h : ∀ b ∈ y, hits a b = false) : pile ([a] ++ y) = pile (y ++ [a]) := by
  rw [pile_app, pile_app]
  exact (acts_free h fun _ => []).symm
theorem Shuf.pile {r q w : Row} (h : Shuf r q w) : (∀ a ∈ r, ∀ b ∈ q, hits a b = false) → pile w = SH.pile (r ++ q) := by
  induction h with
  | nil => intro _; rfl
  | @left x r q w _ ih =>
    intro hh
    exact pile_app2 (x := [x]) (ih fun a ha => hh a (List.mem_cons_of_mem _ ha))
  | @right x r q w _ ih =>
    intro hh
    have e1 : SH.pile ([x] ++ w) = SH.pile ([x] ++ (r ++ q)) := pile_app2 (ih fun a ha b hb => hh a ha b (List.mem_cons_of_mem _ hb))
    have e2 : SH.pile ([x] ++ r ++ q) = SH.pile (r ++ [x] ++ q) := pile_app1 (pile_past fun b hb => by rw [hits_symm]; exact hh b hb x (List.mem_cons_self ..))
    rw [List.append_assoc, List.append_assoc] at e2
    exact e1.trans e2
section
variable {ns near far : List Str} {r q w : Row}
end
end SH
namespace SH
open PySem PySem.Spec PyProof.Rows L2 DL
theorem nd_len2 {α : Type} [DecidableEq α] : ∀ {l m : List α}, l.Nodup → (∀ x ∈ l, x ∈ m) → l.length ≤ m.length
  | [], _, _, _ => Nat.zero_le _
  | x :: l, m, nd, h => by
    rw [List.nodup_cons] at nd
    have hx := h x (List.mem_cons_self ..)
    have ih := nd_len2 (l := l) (m := m.erase x) nd.2 fun y hy => (List.mem_erase_of_ne fun e : y = x => nd.1 (e ▸ hy)).mpr (h y (List.mem_cons_of_mem _ hy))
    rw [List.length_erase_of_mem hx] at ih
    have := List.length_pos_of_mem hx
    rw [List.length_cons]
    omega
end SH
namespace SH
open PySem PySem.Spec PyProof.Rows L2 DL
end SH
namespace SH
open PySem PySem.Spec PyProof.Rows L2 DL
def sml : Nat → PyData → Bool
  | _, .str z => decide (z.length ≤ 1000000)
  | n + 1, .list xs => decide (xs.length ≤ 1000000) && xs.all (sml n)
  | n + 1, .tuple xs => decide (xs.length ≤ 1000000) && xs.all (sml n)
  | _, .dict _ => false
  | _, _ => true
def letterB (c : Nat) : Bool := decide (97 ≤ c) && decide (c ≤ 122)
def ropeB : PyData → Bool
  | .str z => decide (1 ≤ (cs z).length) && decide ((cs z).length ≤ 6) && (cs z).all letterB
  | _ => false
theorem ropeB_iff {z : Str} : ropeB (.str z) = true ↔ IsName z := by
  unfold ropeB IsName letterB
  simp only [Bool.and_eq_true, decide_eq_true_eq, List.all_eq_true, and_assoc]
theorem lets26 : ∀ k : Fin 26, (!(Builtin.Str.occurrences "abcdefghijklmnopqrstuvwxyz" ⟨#[97 + k.val]⟩ 0 ("abcdefghijklmnopqrstuvwxyz" : Str).length 1).isEmpty) = true := by decide +kernel
theorem lets_at : ∀ i : Fin 26, ∃ k, k < 26 ∧ ("abcdefghijklmnopqrstuvwxyz" : Str).cps.extract i.val (i.val + 1) = #[97 + k] := by decide +kernel
theorem lets_len : ("abcdefghijklmnopqrstuvwxyz" : Str).length = 26 := by decide +kernel
theorem in_letters (c : Nat) : inD false (.str ⟨#[c]⟩) (.str "abcdefghijklmnopqrstuvwxyz") = some (.v (.bool (letterB c))) := by
  have key : (!(Builtin.Str.occurrences "abcdefghijklmnopqrstuvwxyz" ⟨#[c]⟩ 0 ("abcdefghijklmnopqrstuvwxyz" : Str).length 1).isEmpty) = letterB c := by
    cases h : letterB c with
    | true =>
      unfold letterB at h
      rw [Bool.and_eq_true, decide_eq_true_iff, decide_eq_true_iff] at h
      obtain ⟨k, rfl⟩ : ∃ k, c = 97 + k := ⟨c - 97, by omega⟩
      exact lets26 ⟨k, by omega⟩
    | false =>
      cases q : (!(Builtin.Str.occurrences "abcdefghijklmnopqrstuvwxyz" ⟨#[c]⟩ 0 ("abcdefghijklmnopqrstuvwxyz" : Str).length 1).isEmpty) with
      | false => rfl
      | true =>
        obtain ⟨i, h1, h2⟩ := (StrLaws.found_iff "abcdefghijklmnopqrstuvwxyz" ⟨#[c]⟩).mp q
        have l1 : (⟨#[c]⟩ : Str).length = 1 := rfl
        rw [l1, lets_len] at h1
        obtain ⟨k, hk, e⟩ := lets_at ⟨i, by omega⟩
        unfold Builtin.Str.subAt at h2
        rw [l1] at h2
        have h2 := eq_of_beq h2
        rw [e] at h2
        have : c = 97 + k := by
          have := congrArg Array.toList h2
          simpa using this.symm
        unfold letterB at h
        rw [this, decide_eq_true (by omega), decide_eq_true (by omega)] at h
        exact absurd h (by decide)
  show some (Out.v (.bool (if false then _ else _))) = _
  rw [if_neg (by decide), key]
def Ph_is_rope (rs : List R) (P : R → Prop) : Prop := ∃ x, rs = [.d x] ∧ sml 0 x = true ∧ P (.d (.bool (ropeB x)))
/-- is_rope -/
def w_is_rope : DTS := (wSeq (wIfS (wOr (wNot (wTru (wIsi .str (wVar 0)))) (wNot (wB (wChain (ciD leI) (ciD leI) (wC (.int 1)) (wCB lenD (wCons (wVar 0) wNil)) (wC (.int (6))))))) (wRet (wC (.bool false))) wNext)
  (wRet (wCB (allC fun bs => bs.all id) (wCons (wLc (wSq (wVar 0)) (wName 1) wYes (wBin (inD false) (wVar 1) (wC (.str "abcdefghijklmnopqrstuvwxyz"))) [1]) wNil))))
theorem r_is_rope (rs : List R) (Pd : R → Prop) (h : Ph_is_rope rs Pd) (hl : rs.length = 1) : w_is_rope { nx := fun _ _ => Pd (.d .none), rt := fun r κ => Opt (outR κ 0 r) Pd } (rs.map some ++ List.replicate 1 none) [] := by
  obtain ⟨x, rfl, hx, k⟩ := h
  clear hl
  have hz := sizeLine_eq
  simp only [List.map_cons, List.map_nil, List.replicate_succ, List.replicate_zero, List.cons_append, List.nil_append]
  unfold w_is_rope
  have no : isi x .str = false → ropeB x = false → (wSeq (wIfS (wOr (wNot (wTru (wIsi .str (wVar 0)))) (wNot (wB (wChain (ciD leI) (ciD leI) (wC (.int 1)) (wCB lenD (wCons (wVar 0) wNil)) (wC (.int (6))))))) (wRet (wC (.bool false))) wNext)
  (wRet (wCB (allC fun bs => bs.all id) (wCons (wLc (wSq (wVar 0)) (wName 1) wYes (wBin (inD false) (wVar 1) (wC (.str "abcdefghijklmnopqrstuvwxyz"))) [1]) wNil)))) { nx := fun _ _ => Pd (.d .none), rt := fun r κ => Opt (outR κ 0 r) Pd } [some (.d x), none] [] := fun h1 h2 => by
    rw [h2] at k
    rw [s_seq, s_if, s_or, s_not]
    simp only [s_callL, s_call, s_cons, s_consM, s_nil, s_c, s_var, s_bin, s_un, s_lst, s_tup, s_cb, s_B, s_tru, s_not, s_repr, List.getElem?_cons_succ, List.getElem?_cons_zero, List.set_cons_succ, List.set_cons_zero, st_d, st_f, st_c, val_d, val_f, dats_d, dats_nil, vals_cons, vals_nil, lend_c, args_d, DL.args_nil, Opt_some, out_v, out_n, out_t, lab_d, lab_f, sto_f, sto_d, List.length_cons, List.length_nil, lenD_list, lenD_tuple, listC_list, listC_tuple, tupC_list, tupC_tuple, istt, istf, Bool.not_true, Bool.not_false, Bool.false_eq_true, if_false, if_true, s_isi, h1]
    rw [s_ret]
    simp only [s_callL, s_call, s_cons, s_consM, s_nil, s_c, s_var, s_bin, s_un, s_lst, s_tup, s_cb, s_B, s_tru, s_not, s_repr, List.getElem?_cons_succ, List.getElem?_cons_zero, List.set_cons_succ, List.set_cons_zero, st_d, st_f, st_c, val_d, val_f, dats_d, dats_nil, vals_cons, vals_nil, lend_c, args_d, DL.args_nil, Opt_some, out_v, out_n, out_t, lab_d, lab_f, sto_f, sto_d, List.length_cons, List.length_nil, lenD_list, lenD_tuple, listC_list, listC_tuple, tupC_list, tupC_tuple, istt, istf, Bool.not_true, Bool.not_false, Bool.false_eq_true, if_false, if_true, outR_d]
    exact k
  cases x with
  | str z =>
    have lz : z.length ≤ 1000000 := of_decide_eq_true hx
    have le : lenD [.str z] = some (.v (.int z.length)) := by
      show (if z.length ≤ sizeLine then _ else _) = _
      rw [if_pos (by omega)]
    have lc : (cs z).length = z.length := rfl
    have e1 : isi (.str z) .str = true := rfl
    rw [s_seq, s_if, s_or, s_not]
    simp only [s_callL, s_call, s_cons, s_consM, s_nil, s_c, s_var, s_bin, s_un, s_lst, s_tup, s_cb, s_B, s_tru, s_not, s_repr, List.getElem?_cons_succ, List.getElem?_cons_zero, List.set_cons_succ, List.set_cons_zero, st_d, st_f, st_c, val_d, val_f, dats_d, dats_nil, vals_cons, vals_nil, lend_c, args_d, DL.args_nil, Opt_some, out_v, out_n, out_t, lab_d, lab_f, sto_f, sto_d, List.length_cons, List.length_nil, lenD_list, lenD_tuple, listC_list, listC_tuple, tupC_list, tupC_tuple, istt, istf, Bool.not_true, Bool.not_false, Bool.false_eq_true, if_false, if_true, s_isi, e1]
    rw [s_chain]
    simp only [s_callL, s_call, s_cons, s_consM, s_nil, s_c, s_var, s_bin, s_un, s_lst, s_tup, s_cb, s_B, s_tru, s_not, s_repr, List.getElem?_cons_succ, List.getElem?_cons_zero, List.set_cons_succ, List.set_cons_zero, st_d, st_f, st_c, val_d, val_f, dats_d, dats_nil, vals_cons, vals_nil, lend_c, args_d, DL.args_nil, Opt_some, out_v, out_n, out_t, lab_d, lab_f, sto_f, sto_d, List.length_cons, List.length_nil, lenD_list, lenD_tuple, listC_list, listC_tuple, tupC_list, tupC_tuple, istt, istf, Bool.not_true, Bool.not_false, Bool.false_eq_true, if_false, if_true, le, ciD_int]
    rw [show ropeB (.str z) = (decide (1 ≤ (cs z).length) && decide ((cs z).length ≤ 6) && (cs z).all letterB) from rfl] at k
    cases c1 : leI 1 (z.length : Int) with
    | false =>
      rw [decide_eq_false (show ¬ 1 ≤ (cs z).length by have := of_decide_eq_false c1; omega)] at k
      try simp only [s_callL, s_call, s_cons, s_consM, s_nil, s_c, s_var, s_bin, s_un, s_lst, s_tup, s_cb, s_B, s_tru, s_not, s_repr, List.getElem?_cons_succ, List.getElem?_cons_zero, List.set_cons_succ, List.set_cons_zero, st_d, st_f, st_c, val_d, val_f, dats_d, dats_nil, vals_cons, vals_nil, lend_c, args_d, DL.args_nil, Opt_some, out_v, out_n, out_t, lab_d, lab_f, sto_f, sto_d, List.length_cons, List.length_nil, lenD_list, lenD_tuple, listC_list, listC_tuple, tupC_list, tupC_tuple, istt, istf, Bool.not_true, Bool.not_false, Bool.false_eq_true, if_false, if_true]
      rw [s_ret]
      simp only [s_callL, s_call, s_cons, s_consM, s_nil, s_c, s_var, s_bin, s_un, s_lst, s_tup, s_cb, s_B, s_tru, s_not, s_repr, List.getElem?_cons_succ, List.getElem?_cons_zero, List.set_cons_succ, List.set_cons_zero, st_d, st_f, st_c, val_d, val_f, dats_d, dats_nil, vals_cons, vals_nil, lend_c, args_d, DL.args_nil, Opt_some, out_v, out_n, out_t, lab_d, lab_f, sto_f, sto_d, List.length_cons, List.length_nil, lenD_list, lenD_tuple, listC_list, listC_tuple, tupC_list, tupC_tuple, istt, istf, Bool.not_true, Bool.not_false, Bool.false_eq_true, if_false, if_true, outR_d]
      exact k
    | true =>
      rw [decide_eq_true (show 1 ≤ (cs z).length by have := of_decide_eq_true c1; omega)] at k
      try simp only [s_callL, s_call, s_cons, s_consM, s_nil, s_c, s_var, s_bin, s_un, s_lst, s_tup, s_cb, s_B, s_tru, s_not, s_repr, List.getElem?_cons_succ, List.getElem?_cons_zero, List.set_cons_succ, List.set_cons_zero, st_d, st_f, st_c, val_d, val_f, dats_d, dats_nil, vals_cons, vals_nil, lend_c, args_d, DL.args_nil, Opt_some, out_v, out_n, out_t, lab_d, lab_f, sto_f, sto_d, List.length_cons, List.length_nil, lenD_list, lenD_tuple, listC_list, listC_tuple, tupC_list, tupC_tuple, istt, istf, Bool.not_true, Bool.not_false, Bool.false_eq_true, if_false, if_true, le, ciD_int]
      cases c2 : leI (z.length : Int) 6 with
      | false =>
        rw [decide_eq_false (show ¬ (cs z).length ≤ 6 by have := of_decide_eq_false c2; omega)] at k
        try simp only [s_callL, s_call, s_cons, s_consM, s_nil, s_c, s_var, s_bin, s_un, s_lst, s_tup, s_cb, s_B, s_tru, s_not, s_repr, List.getElem?_cons_succ, List.getElem?_cons_zero, List.set_cons_succ, List.set_cons_zero, st_d, st_f, st_c, val_d, val_f, dats_d, dats_nil, vals_cons, vals_nil, lend_c, args_d, DL.args_nil, Opt_some, out_v, out_n, out_t, lab_d, lab_f, sto_f, sto_d, List.length_cons, List.length_nil, lenD_list, lenD_tuple, listC_list, listC_tuple, tupC_list, tupC_tuple, istt, istf, Bool.not_true, Bool.not_false, Bool.false_eq_true, if_false, if_true]
        rw [s_ret]
        simp only [s_callL, s_call, s_cons, s_consM, s_nil, s_c, s_var, s_bin, s_un, s_lst, s_tup, s_cb, s_B, s_tru, s_not, s_repr, List.getElem?_cons_succ, List.getElem?_cons_zero, List.set_cons_succ, List.set_cons_zero, st_d, st_f, st_c, val_d, val_f, dats_d, dats_nil, vals_cons, vals_nil, lend_c, args_d, DL.args_nil, Opt_some, out_v, out_n, out_t, lab_d, lab_f, sto_f, sto_d, List.length_cons, List.length_nil, lenD_list, lenD_tuple, listC_list, listC_tuple, tupC_list, tupC_tuple, istt, istf, Bool.not_true, Bool.not_false, Bool.false_eq_true, if_false, if_true, outR_d]
        exact k
      | true =>
        rw [decide_eq_true (show (cs z).length ≤ 6 by have := of_decide_eq_true c2; omega)] at k
        try simp only [s_callL, s_call, s_cons, s_consM, s_nil, s_c, s_var, s_bin, s_un, s_lst, s_tup, s_cb, s_B, s_tru, s_not, s_repr, List.getElem?_cons_succ, List.getElem?_cons_zero, List.set_cons_succ, List.set_cons_zero, st_d, st_f, st_c, val_d, val_f, dats_d, dats_nil, vals_cons, vals_nil, lend_c, args_d, DL.args_nil, Opt_some, out_v, out_n, out_t, lab_d, lab_f, sto_f, sto_d, List.length_cons, List.length_nil, lenD_list, lenD_tuple, listC_list, listC_tuple, tupC_list, tupC_tuple, istt, istf, Bool.not_true, Bool.not_false, Bool.false_eq_true, if_false, if_true]
        rw [s_next]
        dsimp only
        rw [s_ret]
        simp only [s_callL, s_call, s_cons, s_consM, s_nil, s_c, s_var, s_bin, s_un, s_lst, s_tup, s_cb, s_B, s_tru, s_not, s_repr, List.getElem?_cons_succ, List.getElem?_cons_zero, List.set_cons_succ, List.set_cons_zero, st_d, st_f, st_c, val_d, val_f, dats_d, dats_nil, vals_cons, vals_nil, lend_c, args_d, DL.args_nil, Opt_some, out_v, out_n, out_t, lab_d, lab_f, sto_f, sto_d, List.length_cons, List.length_nil, lenD_list, lenD_tuple, listC_list, listC_tuple, tupC_list, tupC_tuple, istt, istf, Bool.not_true, Bool.not_false, Bool.false_eq_true, if_false, if_true, s_lc, s_sq, wipeR_cons, wipeR_nil]
        refine lc_map (fun c => PyData.str ⟨#[c]⟩) (fun c => .bool (letterB c)) (by trivial) z.cps.toList [] (by show 0 + (cs z).length ≤ _; omega) (fun c _ C hC => ?_) ?_
        · rw [s_name]
          simp only [s_callL, s_call, s_cons, s_consM, s_nil, s_c, s_var, s_bin, s_un, s_lst, s_tup, s_cb, s_B, s_tru, s_not, s_repr, List.getElem?_cons_succ, List.getElem?_cons_zero, List.set_cons_succ, List.set_cons_zero, st_d, st_f, st_c, val_d, val_f, dats_d, dats_nil, vals_cons, vals_nil, lend_c, args_d, DL.args_nil, Opt_some, out_v, out_n, out_t, lab_d, lab_f, sto_f, sto_d, List.length_cons, List.length_nil, lenD_list, lenD_tuple, listC_list, listC_tuple, tupC_list, tupC_tuple, istt, istf, Bool.not_true, Bool.not_false, Bool.false_eq_true, if_false, if_true, in_letters]
          exact hC
        rw [List.nil_append]
        simp only [s_callL, s_call, s_cons, s_consM, s_nil, s_c, s_var, s_bin, s_un, s_lst, s_tup, s_cb, s_B, s_tru, s_not, s_repr, List.getElem?_cons_succ, List.getElem?_cons_zero, List.set_cons_succ, List.set_cons_zero, st_d, st_f, st_c, val_d, val_f, dats_d, dats_nil, vals_cons, vals_nil, lend_c, args_d, DL.args_nil, Opt_some, out_v, out_n, out_t, lab_d, lab_f, sto_f, sto_d, List.length_cons, List.length_nil, lenD_list, lenD_tuple, listC_list, listC_tuple, tupC_list, tupC_tuple, istt, istf, Bool.not_true, Bool.not_false, Bool.false_eq_true, if_false, if_true, all_f, outR_d]
        exact k
  | none => exact no rfl rfl
  | bool b => exact no rfl rfl
  | int i => exact no rfl rfl
  | list xs => exact no rfl rfl
  | tuple xs => exact no rfl rfl
  | dict xs => exact no rfl rfl
def numB : PyData → Bool
  | .int _ => true
  | _ => false
def Ph_is_number (rs : List R) (P : R → Prop) : Prop := ∃ x, rs = [.d x] ∧ P (.d (.bool (numB x)))
/-- is_number -/
def w_is_number : DTS := (wRet (wAndV (wIsi .int (wVar 0)) (wNotV (wIsi .bool (wVar 0)))))
theorem r_is_number (rs : List R) (Pd : R → Prop) (h : Ph_is_number rs Pd) (hl : rs.length = 1) : w_is_number { nx := fun _ _ => Pd (.d .none), rt := fun r κ => Opt (outR κ 0 r) Pd } (rs.map some ++ List.replicate 0 none) [] := by
  obtain ⟨x, rfl, k⟩ := h
  clear hl
  simp only [List.map_cons, List.map_nil, List.replicate_zero, List.append_nil]
  unfold w_is_number
  rw [s_ret]
  cases x <;> simp only [s_callL, s_call, s_cons, s_consM, s_nil, s_c, s_var, s_bin, s_un, s_lst, s_tup, s_cb, s_B, s_tru, s_not, s_repr, List.getElem?_cons_succ, List.getElem?_cons_zero, List.set_cons_succ, List.set_cons_zero, st_d, st_f, st_c, val_d, val_f, dats_d, dats_nil, vals_cons, vals_nil, lend_c, args_d, DL.args_nil, Opt_some, out_v, out_n, out_t, lab_d, lab_f, sto_f, sto_d, List.length_cons, List.length_nil, lenD_list, lenD_tuple, listC_list, listC_tuple, tupC_list, tupC_tuple, istt, istf, Bool.not_true, Bool.not_false, Bool.false_eq_true, if_false, if_true, s_andV, s_notV, s_isi, isi, outR_d] <;> exact k
def senseB : PyData → Bool
  | .int i => decide (i = 1) || decide (i = -1)
  | _ => false
def Ph_is_sense (rs : List R) (P : R → Prop) : Prop := ∃ x, rs = [.d x] ∧ P (.d (.bool (senseB x)))
/-- is_sense -/
def w_is_sense : DTS := (wRet (wAndV (wCall Ph_is_number (wCons (wVar 0) wNil)) (wBin (inD false) (wVar 0) (wTup (wCons (wC (.int 1)) (wCons (wUn negD (wC (.int 1))) wNil))))))
theorem in_senses (i : Int) : inD false (.int i) (.tuple [.int 1, .int (-1)]) = some (.v (.bool (senseB (.int i)))) := by
  have h : flatD (.int i) = true ∧ [PyData.int 1, .int (-1)].all flatD = true := ⟨rfl, rfl⟩
  unfold inD
  simp only
  rw [if_pos h]
  unfold senseB
  simp only [List.any_cons, List.any_nil, Bool.or_false, PyData.eqv, Bool.false_eq_true, if_false]
  congr 3
  rw [Bool.eq_iff_iff]
  rw [Bool.or_eq_true, Bool.or_eq_true, beq_iff_eq, beq_iff_eq, decide_eq_true_iff, decide_eq_true_iff]
  omega
theorem r_is_sense (rs : List R) (Pd : R → Prop) (h : Ph_is_sense rs Pd) (hl : rs.length = 1) : w_is_sense { nx := fun _ _ => Pd (.d .none), rt := fun r κ => Opt (outR κ 0 r) Pd } (rs.map some ++ List.replicate 0 none) [] := by
  obtain ⟨x, rfl, k⟩ := h
  clear hl
  have hz := sizeLine_eq
  simp only [List.map_cons, List.map_nil, List.replicate_zero, List.append_nil]
  unfold w_is_sense
  rw [s_ret, s_andV]
  simp only [s_callL, s_call, s_cons, s_consM, s_nil, s_c, s_var, s_bin, s_un, s_lst, s_tup, s_cb, s_B, s_tru, s_not, s_repr, List.getElem?_cons_succ, List.getElem?_cons_zero, List.set_cons_succ, List.set_cons_zero, st_d, st_f, st_c, val_d, val_f, dats_d, dats_nil, vals_cons, vals_nil, lend_c, args_d, DL.args_nil, Opt_some, out_v, out_n, out_t, lab_d, lab_f, sto_f, sto_d, List.length_cons, List.length_nil, lenD_list, lenD_tuple, listC_list, listC_tuple, tupC_list, tupC_tuple, istt, istf, Bool.not_true, Bool.not_false, Bool.false_eq_true, if_false, if_true]
  refine ⟨x, rfl, ?_⟩
  have no : numB x = false → senseB x = false → Opt (outR [] 0 (.d (.bool false))) Pd := fun _ h2 => by
    rw [h2] at k
    simp only [s_callL, s_call, s_cons, s_consM, s_nil, s_c, s_var, s_bin, s_un, s_lst, s_tup, s_cb, s_B, s_tru, s_not, s_repr, List.getElem?_cons_succ, List.getElem?_cons_zero, List.set_cons_succ, List.set_cons_zero, st_d, st_f, st_c, val_d, val_f, dats_d, dats_nil, vals_cons, vals_nil, lend_c, args_d, DL.args_nil, Opt_some, out_v, out_n, out_t, lab_d, lab_f, sto_f, sto_d, List.length_cons, List.length_nil, lenD_list, lenD_tuple, listC_list, listC_tuple, tupC_list, tupC_tuple, istt, istf, Bool.not_true, Bool.not_false, Bool.false_eq_true, if_false, if_true, outR_d]
    exact k
  cases x with
  | int i =>
    rw [show numB (.int i) = true from rfl]
    simp only [s_callL, s_call, s_cons, s_consM, s_nil, s_c, s_var, s_bin, s_un, s_lst, s_tup, s_cb, s_B, s_tru, s_not, s_repr, List.getElem?_cons_succ, List.getElem?_cons_zero, List.set_cons_succ, List.set_cons_zero, st_d, st_f, st_c, val_d, val_f, dats_d, dats_nil, vals_cons, vals_nil, lend_c, args_d, DL.args_nil, Opt_some, out_v, out_n, out_t, lab_d, lab_f, sto_f, sto_d, List.length_cons, List.length_nil, lenD_list, lenD_tuple, listC_list, listC_tuple, tupC_list, tupC_tuple, istt, istf, Bool.not_true, Bool.not_false, Bool.false_eq_true, if_false, if_true, negD_int]
    refine ⟨by omega, ?_⟩
    simp only [s_callL, s_call, s_cons, s_consM, s_nil, s_c, s_var, s_bin, s_un, s_lst, s_tup, s_cb, s_B, s_tru, s_not, s_repr, List.getElem?_cons_succ, List.getElem?_cons_zero, List.set_cons_succ, List.set_cons_zero, st_d, st_f, st_c, val_d, val_f, dats_d, dats_nil, vals_cons, vals_nil, lend_c, args_d, DL.args_nil, Opt_some, out_v, out_n, out_t, lab_d, lab_f, sto_f, sto_d, List.length_cons, List.length_nil, lenD_list, lenD_tuple, listC_list, listC_tuple, tupC_list, tupC_tuple, istt, istf, Bool.not_true, Bool.not_false, Bool.false_eq_true, if_false, if_true, in_senses, outR_d]
    exact k
  | none => exact no rfl rfl
  | bool b => exact no rfl rfl
  | str z => exact no rfl rfl
  | list xs => exact no rfl rfl
  | tuple xs => exact no rfl rfl
  | dict xs => exact no rfl rfl
theorem sml_item {n : Nat} {xs : List PyData} {x : PyData} (h : sml (n + 1) (.tuple xs) = true) (hx : x ∈ xs) : sml n x = true := by
  have h : (decide (xs.length ≤ 1000000) && xs.all (sml n)) = true := h
  rw [Bool.and_eq_true, List.all_eq_true] at h
  exact h.2 x hx
theorem sml_len {n : Nat} {xs : List PyData} (h : sml (n + 1) (.tuple xs) = true) : xs.length ≤ 1000000 := by
  have h : (decide (xs.length ≤ 1000000) && xs.all (sml n)) = true := h
  rw [Bool.and_eq_true] at h
  exact of_decide_eq_true h.1
def ltD : PyData → PyData → Bool
  | .str a, .str b => decide (cs a < cs b)
  | _, _ => false
def hookB : PyData → Bool
  | .tuple [a, b, c] => senseB c && (ropeB a && (ropeB b && ltD a b))
  | _ => false
def Ph_is_hook (rs : List R) (P : R → Prop) : Prop := ∃ x, rs = [.d x] ∧ sml 1 x = true ∧ P (.d (.bool (hookB x)))
/-- is_hook -/
def w_is_hook : DTS := (wSeq (wIfS (wOr (wNot (wTru (wIsi .tuple (wVar 0)))) (wOr (wB (wBin (eqD true) (wCB lenD (wCons (wVar 0) wNil)) (wC (.int (3))))) (wNot (wTru (wCall Ph_is_sense (wCons (wBin ixD (wVar 0) (wC (.int 2))) wNil)))))) (wRet (wC (.bool false))) wNext)
  (wRet (wAndV (wCall Ph_is_rope (wCons (wBin ixD (wVar 0) (wC (.int 0))) wNil)) (wAndV (wCall Ph_is_rope (wCons (wBin ixD (wVar 0) (wC (.int 1))) wNil)) (wBin (ordD ltI ltS) (wBin ixD (wVar 0) (wC (.int 0))) (wBin ixD (wVar 0) (wC (.int 1))))))))
theorem hook_len {xs : List PyData} (h : xs.length ≠ 3) : hookB (.tuple xs) = false := by
  match xs, h with
  | [], _ => rfl
  | [_], _ => rfl
  | [_, _], _ => rfl
  | [_, _, _], h => exact absurd rfl h
  | _ :: _ :: _ :: _ :: _, _ => rfl
theorem rope_str {x : PyData} (h : ropeB x = true) : ∃ z, x = .str z ∧ IsName z := by
  cases x with
  | str z => exact ⟨z, rfl, ropeB_iff.mp h⟩
  | _ => cases h
theorem r_is_hook (rs : List R) (Pd : R → Prop) (h : Ph_is_hook rs Pd) (hl : rs.length = 1) : w_is_hook { nx := fun _ _ => Pd (.d .none), rt := fun r κ => Opt (outR κ 0 r) Pd } (rs.map some ++ List.replicate 0 none) [] := by
  obtain ⟨x, rfl, hx, k⟩ := h
  clear hl
  have hz := sizeLine_eq
  simp only [List.map_cons, List.map_nil, List.replicate_zero, List.append_nil]
  unfold w_is_hook
  rw [s_seq, s_if, s_or, s_not]
  have no : isi x .tuple = false → hookB x = false → Pd (.d (.bool false)) := fun _ h2 => by rw [h2] at k; exact k
  cases x with
  | tuple xs =>
    have ll := sml_len hx
    simp only [s_callL, s_call, s_cons, s_consM, s_nil, s_c, s_var, s_bin, s_un, s_lst, s_tup, s_cb, s_B, s_tru, s_not, s_repr, List.getElem?_cons_succ, List.getElem?_cons_zero, List.set_cons_succ, List.set_cons_zero, st_d, st_f, st_c, val_d, val_f, dats_d, dats_nil, vals_cons, vals_nil, lend_c, args_d, DL.args_nil, Opt_some, out_v, out_n, out_t, lab_d, lab_f, sto_f, sto_d, List.length_cons, List.length_nil, lenD_list, lenD_tuple, listC_list, listC_tuple, tupC_list, tupC_tuple, istt, istf, Bool.not_true, Bool.not_false, Bool.false_eq_true, if_false, if_true, s_isi, show isi (.tuple xs) .tuple = true from rfl]
    rw [s_or]
    have en : eqD true (.int (xs.length : Nat)) (.int 3) = some (.v (.bool (!decide (xs.length = 3)))) := by
      have := eqD_ii (xs.length : Nat) 3
      rw [eqD_of (by unfold SeqAt.shaped PyData.canLay0; simp [PyData.depth]) (by unfold SeqAt.shaped PyData.canLay0; simp [PyData.depth])] at this ⊢
      simp only [Bool.false_eq_true, if_false, if_true, Option.some.injEq, Out.v.injEq, PyData.bool.injEq] at this ⊢
      rw [this]
      congr 1
      exact decide_eq_decide.mpr (by omega)
    simp only [s_callL, s_call, s_cons, s_consM, s_nil, s_c, s_var, s_bin, s_un, s_lst, s_tup, s_cb, s_B, s_tru, s_not, s_repr, List.getElem?_cons_succ, List.getElem?_cons_zero, List.set_cons_succ, List.set_cons_zero, st_d, st_f, st_c, val_d, val_f, dats_d, dats_nil, vals_cons, vals_nil, lend_c, args_d, DL.args_nil, Opt_some, out_v, out_n, out_t, lab_d, lab_f, sto_f, sto_d, List.length_cons, List.length_nil, lenD_list, lenD_tuple, listC_list, listC_tuple, tupC_list, tupC_tuple, istt, istf, Bool.not_true, Bool.not_false, Bool.false_eq_true, if_false, if_true, en]
    by_cases c : xs.length = 3
    · rw [decide_eq_true c]
      match xs, c with
      | [a, b, cc], _ =>
        have i0 : ixD (.tuple [a, b, cc]) (.int 0) = some (.v a) := ixD_tuple (atI_nat (j := 0) rfl)
        have i1 : ixD (.tuple [a, b, cc]) (.int 1) = some (.v b) := ixD_tuple (atI_nat (j := 1) rfl)
        have i2 : ixD (.tuple [a, b, cc]) (.int 2) = some (.v cc) := ixD_tuple (atI_nat (j := 2) rfl)
        have k : Pd (.d (.bool (senseB cc && (ropeB a && (ropeB b && ltD a b))))) := k
        simp only [s_callL, s_call, s_cons, s_consM, s_nil, s_c, s_var, s_bin, s_un, s_lst, s_tup, s_cb, s_B, s_tru, s_not, s_repr, List.getElem?_cons_succ, List.getElem?_cons_zero, List.set_cons_succ, List.set_cons_zero, st_d, st_f, st_c, val_d, val_f, dats_d, dats_nil, vals_cons, vals_nil, lend_c, args_d, DL.args_nil, Opt_some, out_v, out_n, out_t, lab_d, lab_f, sto_f, sto_d, List.length_cons, List.length_nil, lenD_list, lenD_tuple, listC_list, listC_tuple, tupC_list, tupC_tuple, istt, istf, Bool.not_true, Bool.not_false, Bool.false_eq_true, if_false, if_true, i2]
        refine ⟨cc, rfl, ?_⟩
        simp only [s_callL, s_call, s_cons, s_consM, s_nil, s_c, s_var, s_bin, s_un, s_lst, s_tup, s_cb, s_B, s_tru, s_not, s_repr, List.getElem?_cons_succ, List.getElem?_cons_zero, List.set_cons_succ, List.set_cons_zero, st_d, st_f, st_c, val_d, val_f, dats_d, dats_nil, vals_cons, vals_nil, lend_c, args_d, DL.args_nil, Opt_some, out_v, out_n, out_t, lab_d, lab_f, sto_f, sto_d, List.length_cons, List.length_nil, lenD_list, lenD_tuple, listC_list, listC_tuple, tupC_list, tupC_tuple, istt, istf, Bool.not_true, Bool.not_false, Bool.false_eq_true, if_false, if_true, truth_b]
        cases hc : senseB cc with
        | false =>
          rw [hc] at k
          try simp only [s_callL, s_call, s_cons, s_consM, s_nil, s_c, s_var, s_bin, s_un, s_lst, s_tup, s_cb, s_B, s_tru, s_not, s_repr, List.getElem?_cons_succ, List.getElem?_cons_zero, List.set_cons_succ, List.set_cons_zero, st_d, st_f, st_c, val_d, val_f, dats_d, dats_nil, vals_cons, vals_nil, lend_c, args_d, DL.args_nil, Opt_some, out_v, out_n, out_t, lab_d, lab_f, sto_f, sto_d, List.length_cons, List.length_nil, lenD_list, lenD_tuple, listC_list, listC_tuple, tupC_list, tupC_tuple, istt, istf, Bool.not_true, Bool.not_false, Bool.false_eq_true, if_false, if_true]
          rw [s_ret]
          simp only [s_callL, s_call, s_cons, s_consM, s_nil, s_c, s_var, s_bin, s_un, s_lst, s_tup, s_cb, s_B, s_tru, s_not, s_repr, List.getElem?_cons_succ, List.getElem?_cons_zero, List.set_cons_succ, List.set_cons_zero, st_d, st_f, st_c, val_d, val_f, dats_d, dats_nil, vals_cons, vals_nil, lend_c, args_d, DL.args_nil, Opt_some, out_v, out_n, out_t, lab_d, lab_f, sto_f, sto_d, List.length_cons, List.length_nil, lenD_list, lenD_tuple, listC_list, listC_tuple, tupC_list, tupC_tuple, istt, istf, Bool.not_true, Bool.not_false, Bool.false_eq_true, if_false, if_true, outR_d]
          exact k
        | true =>
          rw [hc, Bool.true_and] at k
          try simp only [s_callL, s_call, s_cons, s_consM, s_nil, s_c, s_var, s_bin, s_un, s_lst, s_tup, s_cb, s_B, s_tru, s_not, s_repr, List.getElem?_cons_succ, List.getElem?_cons_zero, List.set_cons_succ, List.set_cons_zero, st_d, st_f, st_c, val_d, val_f, dats_d, dats_nil, vals_cons, vals_nil, lend_c, args_d, DL.args_nil, Opt_some, out_v, out_n, out_t, lab_d, lab_f, sto_f, sto_d, List.length_cons, List.length_nil, lenD_list, lenD_tuple, listC_list, listC_tuple, tupC_list, tupC_tuple, istt, istf, Bool.not_true, Bool.not_false, Bool.false_eq_true, if_false, if_true]
          rw [s_next]
          dsimp only
          rw [s_ret, s_andV]
          simp only [s_callL, s_call, s_cons, s_consM, s_nil, s_c, s_var, s_bin, s_un, s_lst, s_tup, s_cb, s_B, s_tru, s_not, s_repr, List.getElem?_cons_succ, List.getElem?_cons_zero, List.set_cons_succ, List.set_cons_zero, st_d, st_f, st_c, val_d, val_f, dats_d, dats_nil, vals_cons, vals_nil, lend_c, args_d, DL.args_nil, Opt_some, out_v, out_n, out_t, lab_d, lab_f, sto_f, sto_d, List.length_cons, List.length_nil, lenD_list, lenD_tuple, listC_list, listC_tuple, tupC_list, tupC_tuple, istt, istf, Bool.not_true, Bool.not_false, Bool.false_eq_true, if_false, if_true, i0]
          refine ⟨a, rfl, sml_item hx (by simp), ?_⟩
          cases ha : ropeB a with
          | false =>
            rw [ha] at k
            try simp only [s_callL, s_call, s_cons, s_consM, s_nil, s_c, s_var, s_bin, s_un, s_lst, s_tup, s_cb, s_B, s_tru, s_not, s_repr, List.getElem?_cons_succ, List.getElem?_cons_zero, List.set_cons_succ, List.set_cons_zero, st_d, st_f, st_c, val_d, val_f, dats_d, dats_nil, vals_cons, vals_nil, lend_c, args_d, DL.args_nil, Opt_some, out_v, out_n, out_t, lab_d, lab_f, sto_f, sto_d, List.length_cons, List.length_nil, lenD_list, lenD_tuple, listC_list, listC_tuple, tupC_list, tupC_tuple, istt, istf, Bool.not_true, Bool.not_false, Bool.false_eq_true, if_false, if_true, outR_d]
            exact k
          | true =>
            rw [ha, Bool.true_and] at k
            try simp only [s_callL, s_call, s_cons, s_consM, s_nil, s_c, s_var, s_bin, s_un, s_lst, s_tup, s_cb, s_B, s_tru, s_not, s_repr, List.getElem?_cons_succ, List.getElem?_cons_zero, List.set_cons_succ, List.set_cons_zero, st_d, st_f, st_c, val_d, val_f, dats_d, dats_nil, vals_cons, vals_nil, lend_c, args_d, DL.args_nil, Opt_some, out_v, out_n, out_t, lab_d, lab_f, sto_f, sto_d, List.length_cons, List.length_nil, lenD_list, lenD_tuple, listC_list, listC_tuple, tupC_list, tupC_tuple, istt, istf, Bool.not_true, Bool.not_false, Bool.false_eq_true, if_false, if_true]
            rw [s_andV]
            simp only [s_callL, s_call, s_cons, s_consM, s_nil, s_c, s_var, s_bin, s_un, s_lst, s_tup, s_cb, s_B, s_tru, s_not, s_repr, List.getElem?_cons_succ, List.getElem?_cons_zero, List.set_cons_succ, List.set_cons_zero, st_d, st_f, st_c, val_d, val_f, dats_d, dats_nil, vals_cons, vals_nil, lend_c, args_d, DL.args_nil, Opt_some, out_v, out_n, out_t, lab_d, lab_f, sto_f, sto_d, List.length_cons, List.length_nil, lenD_list, lenD_tuple, listC_list, listC_tuple, tupC_list, tupC_tuple, istt, istf, Bool.not_true, Bool.not_false, Bool.false_eq_true, if_false, if_true, i1]
            refine ⟨b, rfl, sml_item hx (by simp), ?_⟩
            cases hb : ropeB b with
            | false =>
              rw [hb] at k
              try simp only [s_callL, s_call, s_cons, s_consM, s_nil, s_c, s_var, s_bin, s_un, s_lst, s_tup, s_cb, s_B, s_tru, s_not, s_repr, List.getElem?_cons_succ, List.getElem?_cons_zero, List.set_cons_succ, List.set_cons_zero, st_d, st_f, st_c, val_d, val_f, dats_d, dats_nil, vals_cons, vals_nil, lend_c, args_d, DL.args_nil, Opt_some, out_v, out_n, out_t, lab_d, lab_f, sto_f, sto_d, List.length_cons, List.length_nil, lenD_list, lenD_tuple, listC_list, listC_tuple, tupC_list, tupC_tuple, istt, istf, Bool.not_true, Bool.not_false, Bool.false_eq_true, if_false, if_true, outR_d]
              exact k
            | true =>
              rw [hb, Bool.true_and] at k
              obtain ⟨za, rfl, _⟩ := rope_str ha
              obtain ⟨zb, rfl, _⟩ := rope_str hb
              have eo : ordD ltI ltS (.str za) (.str zb) = some (.v (.bool (ltD (.str za) (.str zb)))) := rfl
              try simp only [s_callL, s_call, s_cons, s_consM, s_nil, s_c, s_var, s_bin, s_un, s_lst, s_tup, s_cb, s_B, s_tru, s_not, s_repr, List.getElem?_cons_succ, List.getElem?_cons_zero, List.set_cons_succ, List.set_cons_zero, st_d, st_f, st_c, val_d, val_f, dats_d, dats_nil, vals_cons, vals_nil, lend_c, args_d, DL.args_nil, Opt_some, out_v, out_n, out_t, lab_d, lab_f, sto_f, sto_d, List.length_cons, List.length_nil, lenD_list, lenD_tuple, listC_list, listC_tuple, tupC_list, tupC_tuple, istt, istf, Bool.not_true, Bool.not_false, Bool.false_eq_true, if_false, if_true, i0, i1, eo, outR_d]
              exact k
    · rw [decide_eq_false c]
      rw [hook_len c] at k
      try simp only [s_callL, s_call, s_cons, s_consM, s_nil, s_c, s_var, s_bin, s_un, s_lst, s_tup, s_cb, s_B, s_tru, s_not, s_repr, List.getElem?_cons_succ, List.getElem?_cons_zero, List.set_cons_succ, List.set_cons_zero, st_d, st_f, st_c, val_d, val_f, dats_d, dats_nil, vals_cons, vals_nil, lend_c, args_d, DL.args_nil, Opt_some, out_v, out_n, out_t, lab_d, lab_f, sto_f, sto_d, List.length_cons, List.length_nil, lenD_list, lenD_tuple, listC_list, listC_tuple, tupC_list, tupC_tuple, istt, istf, Bool.not_true, Bool.not_false, Bool.false_eq_true, if_false, if_true]
      rw [s_ret]
      simp only [s_callL, s_call, s_cons, s_consM, s_nil, s_c, s_var, s_bin, s_un, s_lst, s_tup, s_cb, s_B, s_tru, s_not, s_repr, List.getElem?_cons_succ, List.getElem?_cons_zero, List.set_cons_succ, List.set_cons_zero, st_d, st_f, st_c, val_d, val_f, dats_d, dats_nil, vals_cons, vals_nil, lend_c, args_d, DL.args_nil, Opt_some, out_v, out_n, out_t, lab_d, lab_f, sto_f, sto_d, List.length_cons, List.length_nil, lenD_list, lenD_tuple, listC_list, listC_tuple, tupC_list, tupC_tuple, istt, istf, Bool.not_true, Bool.not_false, Bool.false_eq_true, if_false, if_true, outR_d]
      exact k
  | none => simp only [s_callL, s_call, s_cons, s_consM, s_nil, s_c, s_var, s_bin, s_un, s_lst, s_tup, s_cb, s_B, s_tru, s_not, s_repr, List.getElem?_cons_succ, List.getElem?_cons_zero, List.set_cons_succ, List.set_cons_zero, st_d, st_f, st_c, val_d, val_f, dats_d, dats_nil, vals_cons, vals_nil, lend_c, args_d, DL.args_nil, Opt_some, out_v, out_n, out_t, lab_d, lab_f, sto_f, sto_d, List.length_cons, List.length_nil, lenD_list, lenD_tuple, listC_list, listC_tuple, tupC_list, tupC_tuple, istt, istf, Bool.not_true, Bool.not_false, Bool.false_eq_true, if_false, if_true, s_isi, isi]; rw [s_ret]; simp only [s_callL, s_call, s_cons, s_consM, s_nil, s_c, s_var, s_bin, s_un, s_lst, s_tup, s_cb, s_B, s_tru, s_not, s_repr, List.getElem?_cons_succ, List.getElem?_cons_zero, List.set_cons_succ, List.set_cons_zero, st_d, st_f, st_c, val_d, val_f, dats_d, dats_nil, vals_cons, vals_nil, lend_c, args_d, DL.args_nil, Opt_some, out_v, out_n, out_t, lab_d, lab_f, sto_f, sto_d, List.length_cons, List.length_nil, lenD_list, lenD_tuple, listC_list, listC_tuple, tupC_list, tupC_tuple, istt, istf, Bool.not_true, Bool.not_false, Bool.false_eq_true, if_false, if_true, outR_d]; exact no rfl rfl
  | bool b => simp only [s_callL, s_call, s_cons, s_consM, s_nil, s_c, s_var, s_bin, s_un, s_lst, s_tup, s_cb, s_B, s_tru, s_not, s_repr, List.getElem?_cons_succ, List.getElem?_cons_zero, List.set_cons_succ, List.set_cons_zero, st_d, st_f, st_c, val_d, val_f, dats_d, dats_nil, vals_cons, vals_nil, lend_c, args_d, DL.args_nil, Opt_some, out_v, out_n, out_t, lab_d, lab_f, sto_f, sto_d, List.length_cons, List.length_nil, lenD_list, lenD_tuple, listC_list, listC_tuple, tupC_list, tupC_tuple, istt, istf, Bool.not_true, Bool.not_false, Bool.false_eq_true, if_false, if_true, s_isi, isi]; rw [s_ret]; simp only [s_callL, s_call, s_cons, s_consM, s_nil, s_c, s_var, s_bin, s_un, s_lst, s_tup, s_cb, s_B, s_tru, s_not, s_repr, List.getElem?_cons_succ, List.getElem?_cons_zero, List.set_cons_succ, List.set_cons_zero, st_d, st_f, st_c, val_d, val_f, dats_d, dats_nil, vals_cons, vals_nil, lend_c, args_d, DL.args_nil, Opt_some, out_v, out_n, out_t, lab_d, lab_f, sto_f, sto_d, List.length_cons, List.length_nil, lenD_list, lenD_tuple, listC_list, listC_tuple, tupC_list, tupC_tuple, istt, istf, Bool.not_true, Bool.not_false, Bool.false_eq_true, if_false, if_true, outR_d]; exact no rfl rfl
  | int i => simp only [s_callL, s_call, s_cons, s_consM, s_nil, s_c, s_var, s_bin, s_un, s_lst, s_tup, s_cb, s_B, s_tru, s_not, s_repr, List.getElem?_cons_succ, List.getElem?_cons_zero, List.set_cons_succ, List.set_cons_zero, st_d, st_f, st_c, val_d, val_f, dats_d, dats_nil, vals_cons, vals_nil, lend_c, args_d, DL.args_nil, Opt_some, out_v, out_n, out_t, lab_d, lab_f, sto_f, sto_d, List.length_cons, List.length_nil, lenD_list, lenD_tuple, listC_list, listC_tuple, tupC_list, tupC_tuple, istt, istf, Bool.not_true, Bool.not_false, Bool.false_eq_true, if_false, if_true, s_isi, isi]; rw [s_ret]; simp only [s_callL, s_call, s_cons, s_consM, s_nil, s_c, s_var, s_bin, s_un, s_lst, s_tup, s_cb, s_B, s_tru, s_not, s_repr, List.getElem?_cons_succ, List.getElem?_cons_zero, List.set_cons_succ, List.set_cons_zero, st_d, st_f, st_c, val_d, val_f, dats_d, dats_nil, vals_cons, vals_nil, lend_c, args_d, DL.args_nil, Opt_some, out_v, out_n, out_t, lab_d, lab_f, sto_f, sto_d, List.length_cons, List.length_nil, lenD_list, lenD_tuple, listC_list, listC_tuple, tupC_list, tupC_tuple, istt, istf, Bool.not_true, Bool.not_false, Bool.false_eq_true, if_false, if_true, outR_d]; exact no rfl rfl
  | str xs => simp only [s_callL, s_call, s_cons, s_consM, s_nil, s_c, s_var, s_bin, s_un, s_lst, s_tup, s_cb, s_B, s_tru, s_not, s_repr, List.getElem?_cons_succ, List.getElem?_cons_zero, List.set_cons_succ, List.set_cons_zero, st_d, st_f, st_c, val_d, val_f, dats_d, dats_nil, vals_cons, vals_nil, lend_c, args_d, DL.args_nil, Opt_some, out_v, out_n, out_t, lab_d, lab_f, sto_f, sto_d, List.length_cons, List.length_nil, lenD_list, lenD_tuple, listC_list, listC_tuple, tupC_list, tupC_tuple, istt, istf, Bool.not_true, Bool.not_false, Bool.false_eq_true, if_false, if_true, s_isi, isi]; rw [s_ret]; simp only [s_callL, s_call, s_cons, s_consM, s_nil, s_c, s_var, s_bin, s_un, s_lst, s_tup, s_cb, s_B, s_tru, s_not, s_repr, List.getElem?_cons_succ, List.getElem?_cons_zero, List.set_cons_succ, List.set_cons_zero, st_d, st_f, st_c, val_d, val_f, dats_d, dats_nil, vals_cons, vals_nil, lend_c, args_d, DL.args_nil, Opt_some, out_v, out_n, out_t, lab_d, lab_f, sto_f, sto_d, List.length_cons, List.length_nil, lenD_list, lenD_tuple, listC_list, listC_tuple, tupC_list, tupC_tuple, istt, istf, Bool.not_true, Bool.not_false, Bool.false_eq_true, if_false, if_true, outR_d]; exact no rfl rfl
  | list xs => simp only [s_callL, s_call, s_cons, s_consM, s_nil, s_c, s_var, s_bin, s_un, s_lst, s_tup, s_cb, s_B, s_tru, s_not, s_repr, List.getElem?_cons_succ, List.getElem?_cons_zero, List.set_cons_succ, List.set_cons_zero, st_d, st_f, st_c, val_d, val_f, dats_d, dats_nil, vals_cons, vals_nil, lend_c, args_d, DL.args_nil, Opt_some, out_v, out_n, out_t, lab_d, lab_f, sto_f, sto_d, List.length_cons, List.length_nil, lenD_list, lenD_tuple, listC_list, listC_tuple, tupC_list, tupC_tuple, istt, istf, Bool.not_true, Bool.not_false, Bool.false_eq_true, if_false, if_true, s_isi, isi]; rw [s_ret]; simp only [s_callL, s_call, s_cons, s_consM, s_nil, s_c, s_var, s_bin, s_un, s_lst, s_tup, s_cb, s_B, s_tru, s_not, s_repr, List.getElem?_cons_succ, List.getElem?_cons_zero, List.set_cons_succ, List.set_cons_zero, st_d, st_f, st_c, val_d, val_f, dats_d, dats_nil, vals_cons, vals_nil, lend_c, args_d, DL.args_nil, Opt_some, out_v, out_n, out_t, lab_d, lab_f, sto_f, sto_d, List.length_cons, List.length_nil, lenD_list, lenD_tuple, listC_list, listC_tuple, tupC_list, tupC_tuple, istt, istf, Bool.not_true, Bool.not_false, Bool.false_eq_true, if_false, if_true, outR_d]; exact no rfl rfl
  | dict xs => simp only [s_callL, s_call, s_cons, s_consM, s_nil, s_c, s_var, s_bin, s_un, s_lst, s_tup, s_cb, s_B, s_tru, s_not, s_repr, List.getElem?_cons_succ, List.getElem?_cons_zero, List.set_cons_succ, List.set_cons_zero, st_d, st_f, st_c, val_d, val_f, dats_d, dats_nil, vals_cons, vals_nil, lend_c, args_d, DL.args_nil, Opt_some, out_v, out_n, out_t, lab_d, lab_f, sto_f, sto_d, List.length_cons, List.length_nil, lenD_list, lenD_tuple, listC_list, listC_tuple, tupC_list, tupC_tuple, istt, istf, Bool.not_true, Bool.not_false, Bool.false_eq_true, if_false, if_true, s_isi, isi]; rw [s_ret]; simp only [s_callL, s_call, s_cons, s_consM, s_nil, s_c, s_var, s_bin, s_un, s_lst, s_tup, s_cb, s_B, s_tru, s_not, s_repr, List.getElem?_cons_succ, List.getElem?_cons_zero, List.set_cons_succ, List.set_cons_zero, st_d, st_f, st_c, val_d, val_f, dats_d, dats_nil, vals_cons, vals_nil, lend_c, args_d, DL.args_nil, Opt_some, out_v, out_n, out_t, lab_d, lab_f, sto_f, sto_d, List.length_cons, List.length_nil, lenD_list, lenD_tuple, listC_list, listC_tuple, tupC_list, tupC_tuple, istt, istf, Bool.not_true, Bool.not_false, Bool.false_eq_true, if_false, if_true, outR_d]; exact no rfl rfl
end SH
namespace DL
open PySem PySem.Spec PyProof.Rows L2
section
variable {K : PySem.W.Frag} {G H : Hp} {As : List Addr} {κ : Kap}
end
section
variable {X : Cx} {tg e o i : Expr} {we wo wi : DTE} {pos : Pos}
end
section
variable {X : Cx} {a b c : Expr} {wr : DTA} {pos : Pos}
end
end DL
namespace DL
open PySem PySem.Spec PyProof.Rows L2
def mergeM (es ms : List (Key × R)) : List (Key × R) := ms.foldl (fun acc e => putM acc e.1 e.2) es
section
variable {X : Cx} {o e : Expr} {wo we : DTE} {apos cpos : Pos}
end
end DL
namespace DL
open PySem PySem.Spec PyProof.Rows L2
open PySem.SeqAt (EqP)
open PySem.Calls PyProof.V
section
variable {prog : Program} {w : World} {K : Type} [DecidableEq K] {knd : HeapKind prog w K} {A : Around} {E : Value → Shared → Prop} {s : Shared}
end
section
variable {X : Cx} {pins : List (Addr × Obj)} {σ : L2.St} {H : Hp} {s : Shared}
end
section
variable {X : Cx} {a b : Expr} {wa wb : DTE} {pos : Pos}
end
end DL
namespace DL
open PySem PySem.Spec PyProof.Rows L2
section
variable {X : Cx} {o e : Expr} {wo we : DTE} {apos cpos pos : Pos}
def stripD : PyData → List PyData → Option Out
  | .str a, [.str b] => if a.length ≤ 16777216 then some (.v (.str (Txt.stripChars a b))) else none
  | _, _ => none
theorem mt_stripL : MtR X "str.strip" (fun x xs H Q => ∃ a b, x = .str a ∧ xs = [.str b] ∧ a.length ≤ sizeLine ∧ Q (.str (Txt.stripChars a b)) H) := by
  intro pins s σ H x xs v us Q I rx rs h
  obtain ⟨a, b, rfl, rfl, hz, h⟩ := h
  obtain ⟨t, rfl⟩ := rx
  cases rs with
  | cons r1 rs =>
    cases rs
    obtain ⟨u, rfl⟩ := r1
    exact PySem.SC.stripChars (fun t2 k => ⟨.str _, H, I.tok k, ⟨t2, rfl⟩, h⟩) hz
theorem strip_ok {K : PySem.W.Frag} : MtD K (fun x xs H Q => ∃ a b, x = .str a ∧ xs = [.str b] ∧ a.length ≤ sizeLine ∧ Q (.str (Txt.stripChars a b)) H) stripD := by
  intro G H v vs x xs oo Q ext hx h0 e k
  unfold stripD at e
  split at e
  · split at e
    · cases e
      obtain ⟨u, rfl, h⟩ := one_of h0
      have hz := sizeLine_eq
      exact ⟨_, _, vw_str hx, by rw [vw_str h], by omega, k _ (.str _)⟩
    · cases e
  · cases e
end
end DL
namespace DL
open PySem PySem.Spec PyProof.Rows L2
section
variable {X : Cx} {es : List Expr} {wr : DTA} {pos : Pos}
end
end DL
namespace DL
open PySem PySem.Spec PyProof.Rows L2
section
variable {prog : Program} {w : World} {A : Around} {E : Value → Shared → Prop} {s : Shared}
theorem bounds_past {a c n : Nat} (ha : a ≤ n) : sliceBounds (some (a : Int)) (some (c : Int)) none n = ((a : Int), ((min c n : Nat) : Int), 1) := by
  have q1 : ¬ ((a : Int) < 0) := by omega
  have q2 : ¬ ((c : Int) < 0) := by omega
  simp only [sliceBounds, Option.getD_none, q1, q2, if_false, show (1 : Int) > 0 by decide, if_true]
  refine Prod.ext ?_ (Prod.ext ?_ rfl)
  · show max 0 (min (a : Int) (n : Int)) = (a : Int); omega
  · show max 0 (min (c : Int) (n : Int)) = ((min c n : Nat) : Int); omega
theorem put_slice {l b sl : Addr} {ys zs : Array Value} {n m : Nat} {vl vu : Value} {a c : Nat} {Q : Unit → Shared → Prop}
    (eL : s.heap.get? l = some { cls := .type "list", data := .seq ys n }) (eB : s.heap.get? b = some { cls := .type "list", data := .seq zs m }) (ne : l ≠ b)
    (iS : s.heap.IsSliceOf sl vl vu .none) (p1 : IsPart vl (some (a : Int))) (p2 : IsPart vu (some (c : Int))) (hac : a ≤ min c ys.size)
    (hsz : ys.size + zs.size ≤ sizeLine) (k : Q () { s with heap := s.heap.update l (Obj.mapSeq fun xs => xs.extract 0 a ++ zs ++ xs.extract (min c ys.size) xs.size) }) :
    wpAny (model prog w) A (setItem (.ref l) (.ref sl) (.ref b)) Q E s := by
  have iL : s.heap.IsList l ys := PySem.IsL.isList eL
  have iB : s.heap.IsList b zs := PySem.IsL.isList eB
  obtain ⟨o, ho, hc, hd⟩ := id iS
  have tS : s.TypeIs (.ref sl) "slice" := ⟨o, ho, hc⟩
  have dif : Builtin.List.listSameRef (.ref l) (.ref b) = false := by
    unfold Builtin.List.listSameRef
    exact beq_eq_false_iff_ne.mpr ne
  have top : (max (a : Int) ((min c ys.size : Nat) : Int)).toNat = min c ys.size := by omega
  have room : ((fun xs : Array Value => xs.extract 0 a ++ zs ++ xs.extract (min c ys.size) xs.size) ys).size ≤ sizeLine + 1 := by
    simp only [Array.size_append, Array.size_extract]; omega
  unfold setItem
  try with_reducible refine wpAny_holding ?_
  first | refine wpAny_bind (wpAny_pure ?_) | skip
  refine wpAny_bind (wpAny_sequenceKey iL.typeIs (by decide) ?_)
  refine wpAny_bind (wpAny_callSpecial?_slot (name := Str.ofString "__setitem__") iL.typeIs slot_list_setitem (wpAny_call_entry slot_list_setitem iL.typeIs entry_list_setitem ?_ (args_list_setitem _ _ _)))
  show wpAny _ _ (Builtin.List.listSubscript? (.ref sl) >>= _) _ _ s
  refine wpAny_bind ?_
  unfold Builtin.List.listSubscript?
  refine wpAny_bind (wpAny_specialOf tS slice_no_index ?_)
  simp only [Option.isNone_none, if_true]
  refine wpAny_pure ?_
  show wpAny _ _ (typeOf (.ref sl) >>= _) _ _ s
  refine wpAny_bind (wpAny_typeOf tS ?_)
  first | rw [if_neg (by decide)] | refine PySem.W.KFB.if_not (by decide) ?_
  rw [listSliceParts_eq]
  refine wpAny_bind (wpAny_bind (wpAny_field ho hd (x := .none) rfl (wpAny_bind (wpAny_listPart .none ?_))))
  rw [if_neg (show ¬ ((rawPart none == rawInt 0) = true) from Bool.false_ne_true)]
  refine wpAny_bind (wpAny_field ho hd (x := vl) rfl (wpAny_bind (wpAny_listPart p1 ?_)))
  refine wpAny_bind (wpAny_field ho hd (x := vu) rfl (wpAny_bind (wpAny_listPart p2 (wpAny_pure ?_))))
  first | simp only [dif, Bool.false_eq_true, if_false] | refine PySem.W.KFB.if_not dif ?_ | (dsimp only; rw [if_neg (by rw [dif]; exact Bool.false_ne_true)])
  refine wpAny_bind (m := Builtin.List.listAllItems (.ref b) "must assign iterable to extended slice") ?_
  unfold Builtin.List.listAllItems
  refine wpAny_bind (wpAny_typeOf iB.typeIs ?_)
  first | refine PySem.W.KFB.if_so (by decide) ?_ | rw [if_pos (by decide)] | simp only [beq_self_eq_true, Bool.true_or, if_true]
  unfold Builtin.List.listItems
  refine wpAny_bind (wpAny_seqItems eB rfl (wpAny_pure ?_))
  refine wpAny_bind (wpAny_bind (wpAny_seqItems eL rfl (wpAny_pure ?_)))
  refine wpAny_bind (wpAny_of_eq ((sliceIndices_raw (some (a : Int)) (some (c : Int)) none ys.size (by simp)).trans (congrArg (pure : Int × Int × Int → Sem (Int × Int × Int)) (bounds_past (by omega)))) ?_)
  show wpAny _ _ (if ((1 : Int) == 1) = true then _ else _) _ _ s
  rw [if_pos (by decide)]
  refine wpAny_bind (wpAny_rule ?_)
  first | simp only [notLongL hsz, Bool.false_eq_true, if_false] | refine PySem.W.KFB.if_not (notLongL hsz) ?_
  first | refine wpAny_bind (wpAny_pure ?_) | skip
  show wpAny _ _ (updateSeq l (fun xs => xs.extract 0 ((a : Int)).toNat ++ zs ++ xs.extract (max (a : Int) ((min c ys.size : Nat) : Int)).toNat xs.size) >>= _) _ _ s
  rw [top, Int.toNat_natCast]
  refine wpAny_bind (wpAny_updateSeq (hz := Nat.le_trans (Nat.le_add_right _ _) hsz) (_hz' := room) eL rfl ?_)
  refine wpAny_bind (wpAny_letGo ?_)
  first | exact wpAny_bind (wpAny_pure (wpAny_pure ⟨.none, rfl, wpAny_pure k⟩)) | exact wpAny_pure ⟨.none, rfl, wpAny_pure k⟩
end
section
variable {X : Cx} {o e lo hi : Expr} {wo wl wh wa : DTE} {wl' wh' : DTO} {pos p2 : Pos}
theorem set_past {pins : List (Addr × Obj)} {s : Shared} {σ : L2.St} {H : Hp} {l b sl : Addr} {xs ys : List V} {a c : Nat} {vl vu : Value} {Q : Unit → Shared → Prop} (I : Inv X pins σ H s)
    (hH : H l = some (.lst xs)) (hB : H b = some (.lst ys)) (ne : l ≠ b) (hs : s.heap.IsSliceOf sl vl vu .none) (p1 : IsPart vl (some (a : Int))) (p2 : IsPart vu (some (c : Int))) (hac : a ≤ min c xs.length)
    (hz : xs.length + ys.length ≤ sizeLine) (h : ∀ s', Inv X pins σ (upd H l (.lst (xs.take a ++ ys ++ xs.drop (min c xs.length)))) s' → Q () s') :
    wpAny (model X.prog X.w) X.A (setItem (.ref l) (.ref sl) (.ref b)) Q X.xe s := by
  obtain ⟨z, its, n, r, hl, e⟩ := I.lstM hH
  obtain ⟨z2, its2, n2, r2, hl2, e2⟩ := I.lstM hB
  refine put_slice (a := a) (c := c) e e2 ne hs p1 p2 (by rw [List.size_toArray]; omega) (by rw [List.size_toArray, List.size_toArray]; omega) (h _ ?_)
  have hlen : its.toArray.size = xs.length := by rw [List.size_toArray]; omega
  rw [hlen]
  refine I.lset (its' := its.take a ++ its2 ++ its.drop (min c xs.length)) (t' := s.toks) hH e ?_ (Vals.append (Vals.append (r.take _) r2) (r.drop _)) ?_
  · exact splice_eq its its2 a (min c xs.length)
  · rw [List.length_append, List.length_append, List.length_take, List.length_drop]
    omega
/-- o[lo:hi] = v -/
def wSubSl (wo : DTE) (wl wh : DTO) : DTG := fun r ρ κ P => Opt (dat κ r) fun q => match q.1 with
  | .list ys => wo ρ q.2 fun ro κ1 => match ro with
    | .c k => wl ρ κ1 fun l κ2 => wh ρ κ2 fun h κ3 => match l, h, κ3[k]? with
      | some (.ofNat a), some (.ofNat c), some (.l xs) => a ≤ min c xs.length ∧ xs.length + ys.length ≤ 1000000 ∧ P ρ (κ3.set k (.l (xs.take a ++ ys ++ xs.drop (min c xs.length))))
      | _, _, _ => False
    | _ => False
  | _ => False
def gSl (to : TE) (tl th : TO) : TG := fun v σ H Q => to σ H fun x H1 => tl σ H1 fun l H2 => th σ H2 fun h H3 => ∃ (d b : Addr) (xs ys : List V) (a c : Nat), x = .ref d ∧ v = .ref b ∧ l = some (a : Int) ∧ h = some (c : Int) ∧ H3 d = some (.lst xs) ∧ H3 b = some (.lst ys) ∧ d ≠ b ∧ a ≤ min c xs.length ∧ xs.length + ys.length ≤ sizeLine ∧ Q σ (upd H3 d (.lst (xs.take a ++ ys ++ xs.drop (min c xs.length))))
theorem pg_sl {to : TE} {tl th : TO} (po : PE X o to) (pl : PO X (some lo) tl) (ph : PO X (some hi) th)
    (hx : ∀ v, assign (.Subscript o (.Slice (some lo) (some hi) none p2) pos) X.env v = (do
      let ov ← holding [v] (eval o X.env)
      let iv ← holding [v, ov] (eval (.Slice (some lo) (some hi) none p2) X.env)
      standAt pos
      holding [v, ov, iv] (setItem ov iv v)
      release [iv, v, ov] []) := by intro _; rfl) : PG X (.Subscript o (.Slice (some lo) (some hi) none p2) pos) (gSl to tl th) := by
  refine ⟨fun pins s σ H v u Q I r w => ?_⟩
  rw [hx]
  refine wpAny_bind (wpAny_holding (thn (po.run pins s σ H _ I w) fun ov s1 ⟨x, H1, I1, r1, q1⟩ => ?_))
  refine wpAny_bind (wpAny_holding (wpAny_Slice (thn (pl.run pins s1 σ H1 _ I1 q1) fun vl s2 ⟨l, H2, I2, pl', q2⟩ => thn (ph.run pins s2 σ H2 _ I2 q2) fun vu s3 ⟨h, H3, I3, ph', q3⟩ => ?_)))
  obtain ⟨d, b, xs, ys, a, c, rfl, rfl, rfl, rfl, hd, hb, ne, hac, hz, q⟩ := q3
  cases r1
  cases r
  rw [evalPart_none]
  refine wpAny_pure ?_
  have I4 : Inv X pins σ H3 { s3 with heap := s3.heap.push { cls := .type "slice", data := .fields #[vl, vu, .none] } } := I3.kept (t' := s3.toks) fun y ob e => Heap.get?_push_of_some _ e
  refine wpAny_bind (wpAny_standAt (wpAny_bind (wpAny_holding (set_past I4 hd hb ne (Heap.IsSliceOf.new ..) pl' ph' hac hz fun s' I' => ?_))))
  exact wpAny_release ⟨σ, _, I', q⟩
theorem dg_sl (ho : DE X o wo) (hl : DO X (some lo) wl') (hh : DO X (some hi) wh')
    (hx : ∀ v, assign (.Subscript o (.Slice (some lo) (some hi) none p2) pos) X.env v = (do
      let ov ← holding [v] (eval o X.env)
      let iv ← holding [v, ov] (eval (.Slice (some lo) (some hi) none p2) X.env)
      standAt pos
      holding [v, ov, iv] (setItem ov iv v)
      release [iv, v, ov] []) := by intro _; rfl) : DG X (.Subscript o (.Slice (some lo) (some hi) none p2) pos) [] (wSubSl wo wl' wh') := by
  obtain ⟨to, po, ho⟩ := ho
  obtain ⟨tl, pl, hl⟩ := hl
  obtain ⟨th, ph, hh⟩ := hh
  refine ⟨_, pg_sl po pl ph hx, fun G H As σ ρ κ v r P Q c p i0 w k => ?_⟩
  obtain ⟨⟨x, κ0⟩, e0, w⟩ := w.ex
  obtain ⟨G0, s0, c0, r0⟩ := dat_ok c i0 e0
  cases x with
  | list ys =>
    obtain ⟨b, vb, rfl, hb, rb⟩ : ∃ b vb, v = V.ref b ∧ G0 b = some (.lst vb) ∧ RpA X.K G0 vb ys := by
      cases r0 with
      | lst h1 h2 => exact ⟨_, _, rfl, h1, h2⟩
    refine ho G0 H As σ ρ κ0 _ _ c0 (p.step s0) w fun v1 r1 G1 H1 As1 κ1 s1 c1 p1 i1 w1 => ?_
    cases r1 with
    | c kk =>
      obtain ⟨d, hd, rfl⟩ := i1
      refine hl G1 H1 As1 σ ρ κ1 _ _ c1 p1 w1 fun l G2 H2 As2 κ2 s2 c2 p2 w2 => ?_
      refine hh G2 H2 As2 σ ρ κ2 _ _ c2 p2 w2 fun h G3 H3 As3 κ3 s3 c3 p3 w3 => ?_
      split at w3
      · rename_i l' h' c' a c xs hk
        obtain ⟨n1, n2, w4⟩ := w3
        have st := s2.trans s3
        obtain ⟨bs, eb⟩ := st.pre
        have hd3 : As3[kk]? = some d := by rw [eb, List.getElem?_append_left (List.getElem?_eq_some_iff.mp hd).1]; exact hd
        obtain ⟨g0, vs, hq, rp⟩ := c3.ok kk _ d hk hd3
        have sa := (s1.trans st)
        have gb : G3 b = some (.lst vb) := sa.ex _ _ hb
        have hB : H3 b = some (.lst vb) := c3.ext _ _ gb
        have ne : d ≠ b := fun e => by rw [e] at g0; rw [g0] at gb; cases gb
        have rb3 := RpA.mono sa.ex _ _ rb
        have hz := sizeLine_eq
        refine ⟨d, b, vs, vb, a, c, rfl, rfl, rfl, rfl, hq, hB, ne, by rw [rp.len]; exact n1, by rw [rp.len, rb.len]; omega, ?_⟩
        have sw : Step G3 H3 As3 G3 (upd H3 d (.lst (vs.take a ++ vb ++ vs.drop (min c vs.length)))) As3 := Step.write (List.mem_of_getElem? hd3) hq
        have rr : RpA X.K G3 (vs.take a ++ vb ++ vs.drop (min c vs.length)) (xs.take a ++ ys ++ xs.drop (min c xs.length)) := by
          rw [rp.len]
          exact ((RpA.take a rp).app rb3).app (RpA.drop _ rp)
        exact k σ ρ G3 _ As3 _ Wr.refl ((s0.trans sa).trans sw) (c3.write hk hd3 rr) (p.step ((s0.trans sa).trans sw)) w4
      · exact w3.elim
    | _ => exact w1.elim
  | _ => exact w.elim
end
section
variable {X : Cx} {e : Expr} {we : DTE} {p pos : Pos}
end
section
variable {prog : Program} {w : World} {A : Around} {E : Value → Shared → Prop} {s : Shared}
end
section
variable {X : Cx} {e : Expr} {te : TE} {wa : DTE} {k : Nat} {p1 p2 p3 pos : Pos}
end
end DL
namespace SH
open PySem PySem.Spec PyProof.Rows L2 DL
mutual
/-- texts of plain signs, small numbers, no dicts -/
def plain (b : Nat) : PyData → Bool
  | .none => true
  | .bool _ => true
  | .int i => decide (i.natAbs ≤ b)
  | .str z => (cs z).all fun c => decide (c < 128)
  | .list xs => plainAll b xs
  | .tuple xs => plainAll b xs
  | .dict _ => false
def plainAll (b : Nat) : List PyData → Bool
  | [] => true
  | x :: xs => plain b x && plainAll b xs
end
theorem plainAll_iff {b : Nat} : ∀ {xs : List PyData}, plainAll b xs = true ↔ ∀ x ∈ xs, plain b x = true
  | [] => by simp [plainAll]
  | x :: xs => by
    rw [plainAll, Bool.and_eq_true, plainAll_iff]
    simp
theorem plain_list {b : Nat} {xs : List PyData} : plain b (.list xs) = true ↔ ∀ x ∈ xs, plain b x = true := by
  rw [plain, plainAll_iff]
theorem plain_tuple {b : Nat} {xs : List PyData} : plain b (.tuple xs) = true ↔ ∀ x ∈ xs, plain b x = true := by
  rw [plain, plainAll_iff]
theorem weight_mem {x : PyData} : ∀ {xs : List PyData}, x ∈ xs → x.weight + 1 ≤ PyData.weightAll xs
  | y :: ys, h => by
    rw [PyData.weightAll]
    rcases List.mem_cons.mp h with rfl | h
    · omega
    · have := weight_mem h
      omega
theorem weight_len : ∀ xs : List PyData, xs.length ≤ PyData.weightAll xs
  | [] => Nat.le_refl _
  | x :: xs => by
    rw [PyData.weightAll, List.length_cons]
    have := weight_len xs
    omega
theorem depth_mem {x : PyData} : ∀ {xs : List PyData}, x ∈ xs → x.depth ≤ PyData.depthAll xs
  | y :: ys, h => by
    rw [PyData.depthAll]
    rcases List.mem_cons.mp h with rfl | h
    · omega
    · have := depth_mem h
      omega
/-- small: not deep, not heavy, plain -/
structure Fine (b n s : Nat) (x : PyData) : Prop where
  deep : x.depth ≤ n
  pl : plain b x = true
  wt : x.weight ≤ s
theorem fine_sml {b s : Nat} (hs : s ≤ 1000000) : ∀ (m : Nat) {x : PyData}, plain b x = true → x.weight ≤ s → sml m x = true
  | _, .none, _, _ => by unfold sml; rfl
  | _, .bool _, _, _ => by unfold sml; rfl
  | _, .int _, _, _ => by unfold sml; rfl
  | m, .str z, _, h => by
    unfold sml
    rw [PyData.weight] at h
    exact decide_eq_true (show z.cps.size ≤ 1000000 by omega)
  | 0, .list _, _, _ => by unfold sml; rfl
  | 0, .tuple _, _, _ => by unfold sml; rfl
  | m + 1, .list xs, h, w => by
    unfold sml
    rw [PyData.weight] at w
    have l := weight_len xs
    rw [Bool.and_eq_true, List.all_eq_true]
    refine ⟨decide_eq_true (by omega), fun x hx => ?_⟩
    have := weight_mem hx
    exact fine_sml hs m (plain_list.mp h x hx) (by omega)
  | m + 1, .tuple xs, h, w => by
    unfold sml
    rw [PyData.weight] at w
    have l := weight_len xs
    rw [Bool.and_eq_true, List.all_eq_true]
    refine ⟨decide_eq_true (by omega), fun x hx => ?_⟩
    have := weight_mem hx
    exact fine_sml hs m (plain_tuple.mp h x hx) (by omega)
  | _, .dict _, h, _ => by rw [plain] at h; cases h
theorem Fine.sml {b n s : Nat} {x : PyData} (f : Fine b n s x) (hs : s ≤ 1000000) (m : Nat) : SH.sml m x = true := fine_sml hs m f.pl f.wt
theorem Fine.item {b n s : Nat} {xs : List PyData} {x : PyData} (f : Fine b (n + 1) s (.list xs)) (h : x ∈ xs) : Fine b n s x := by
  have h1 := f.deep
  rw [PyData.depth] at h1
  have h2 := f.wt
  rw [PyData.weight] at h2
  have := depth_mem h
  have := weight_mem h
  exact ⟨by omega, plain_list.mp f.pl x h, by omega⟩
theorem plain_mono {b c : Nat} (h : b ≤ c) : ∀ {x : PyData}, plain b x = true → plain c x = true := by
  have key : ∀ (n : Nat) {x : PyData}, x.depth ≤ n → plain b x = true → plain c x = true := fun n => by
    induction n with
    | zero =>
      intro x hd hp
      cases x with
      | int i => rw [plain] at hp ⊢; exact decide_eq_true (Nat.le_trans (of_decide_eq_true hp) h)
      | list xs => rw [PyData.depth] at hd; omega
      | tuple xs => rw [PyData.depth] at hd; omega
      | dict _ => rw [plain] at hp; cases hp
      | str z => rw [plain] at hp ⊢; exact hp
      | none => rw [plain]
      | bool _ => rw [plain]
    | succ n ih =>
      intro x hd hp
      cases x with
      | int i => rw [plain] at hp ⊢; exact decide_eq_true (Nat.le_trans (of_decide_eq_true hp) h)
      | list xs =>
        rw [PyData.depth] at hd
        exact plain_list.mpr fun y hy => ih (Nat.le_trans (depth_mem hy) (by omega)) (plain_list.mp hp y hy)
      | tuple xs =>
        rw [PyData.depth] at hd
        exact plain_tuple.mpr fun y hy => ih (Nat.le_trans (depth_mem hy) (by omega)) (plain_tuple.mp hp y hy)
      | dict _ => rw [plain] at hp; cases hp
      | str z => rw [plain] at hp ⊢; exact hp
      | none => rw [plain]
      | bool _ => rw [plain]
  exact fun {x} hp => key _ (Nat.le_refl _) hp
theorem Fine.mono {b n s b' n' s' : Nat} {x : PyData} (f : Fine b n s x) (h1 : b ≤ b') (h2 : n ≤ n') (h3 : s ≤ s') : Fine b' n' s' x := ⟨Nat.le_trans f.deep h2, plain_mono h1 f.pl, Nat.le_trans f.wt h3⟩
end SH
namespace SH
open PySem PySem.Spec PyProof.Rows L2 DL
/-- it comes to x, and nothing is changed -/
def Gv (w : DTE) (ρ : Rho) (κ : Kap) (x : PyData) : Prop := ∀ Q : R → Kap → Prop, (∀ r : R, r.st = .d x → Q r κ) → w ρ κ Q
def Tv (w : DTT) (ρ : Rho) (κ : Kap) (b : Bool) : Prop := ∀ Q : Bool → Kap → Prop, Q b κ → w ρ κ Q
section
variable {ρ : Rho} {κ : Kap} {wa wb wc wd : DTE} {wt wu : DTT} {x y z u : PyData} {b c : Bool}
theorem gv_var {i : Nat} (h : ρ[i]? = some (some (.d x))) : Gv (wVar i) ρ κ x := fun Q k => by
  rw [s_var, h]
  exact k _ rfl
theorem gv_c : Gv (wC x) ρ κ x := fun Q k => by
  rw [s_c]
  exact k _ rfl
theorem gv_bin {f : PyData → PyData → Option Out} {o : Out} (ha : Gv wa ρ κ x) (hb : Gv wb ρ κ y) (e : f x y = some o) (ez : o.r.st = .d z) : Gv (wBin f wa wb) ρ κ z := fun Q k => by
  rw [s_bin]
  refine ha _ fun r hr => hb _ fun q hq => ?_
  rw [hr, hq, val_d, Opt_some, val_d, Opt_some, e, Opt_some]
  exact k _ ez
theorem gv_un {f : PyData → Option Out} {o : Out} (ha : Gv wa ρ κ x) (e : f x = some o) (ez : o.r.st = .d z) : Gv (wUn f wa) ρ κ z := fun Q k => by
  rw [s_un]
  refine ha _ fun r hr => ?_
  rw [hr, val_d, Opt_some, e, Opt_some]
  exact k _ ez
theorem gv_cb {f : List PyData → Option Out} {o : Out} (ha : Gv wa ρ κ x) (e : f [x] = some o) (ez : o.r.st = .d z) : Gv (wCB f (wCons wa wNil)) ρ κ z := fun Q k => by
  rw [s_cb, s_cons]
  refine ha _ fun r hr => ?_
  simp only [s_nil, hr, vals_cons, vals_nil, val_d, Opt_some, e]
  exact k _ ez
theorem gv_call1 {Φ : List R → (R → Prop) → Prop} (ha : Gv wa ρ κ x) (hΦ : ∀ P : R → Prop, (∀ r : R, r.st = .d z → P r) → Φ [.d x] P) : Gv (wCall Φ (wCons wa wNil)) ρ κ z := fun Q k => by
  rw [s_call, s_cons]
  refine ha _ fun r hr => ?_
  rw [s_nil, hr]
  show Φ [.d x] _
  exact hΦ _ fun r hr => k r hr
theorem gv_call2 {Φ : List R → (R → Prop) → Prop} (ha : Gv wa ρ κ x) (hb : Gv wb ρ κ y) (hΦ : ∀ P : R → Prop, (∀ r : R, r.st = .d z → P r) → Φ [.d x, .d y] P) : Gv (wCall Φ (wCons wa (wCons wb wNil))) ρ κ z := fun Q k => by
  rw [s_call, s_cons]
  refine ha _ fun r hr => ?_
  rw [s_cons]
  refine hb _ fun q hq => ?_
  rw [s_nil, hr, hq]
  show Φ [.d x, .d y] _
  exact hΦ _ fun r hr => k r hr
theorem gv_lst2 (ha : Gv wa ρ κ x) (hb : Gv wb ρ κ y) : Gv (wLst (wCons wa (wCons wb wNil))) ρ κ (.list [x, y]) := fun Q k => by
  have hz := sizeLine_eq
  rw [s_lst, s_cons]
  refine ha _ fun r hr => ?_
  rw [s_cons]
  refine hb _ fun q hq => ?_
  rw [s_nil, hr, hq, dats_d, dats_d, dats_nil]
  simp only [s_callL, s_call, s_cons, s_consM, s_nil, s_c, s_var, s_bin, s_un, s_lst, s_tup, s_cb, s_B, s_tru, s_not, s_repr, List.getElem?_cons_succ, List.getElem?_cons_zero, List.set_cons_succ, List.set_cons_zero, st_d, st_f, st_c, val_d, val_f, dats_d, dats_nil, vals_cons, vals_nil, lend_c, args_d, DL.args_nil, Opt_some, out_v, out_n, out_t, lab_d, lab_f, sto_f, sto_d, List.length_cons, List.length_nil, lenD_list, lenD_tuple, listC_list, listC_tuple, tupC_list, tupC_tuple, istt, istf, Bool.not_true, Bool.not_false, Bool.false_eq_true, if_false, if_true]
  exact ⟨by omega, k _ rfl⟩
theorem gv_lst0 : Gv (wLst wNil) ρ κ (.list []) := fun Q k => by
  have hz := sizeLine_eq
  rw [s_lst, s_nil, dats_nil, Opt_some]
  exact ⟨by simp, k _ rfl⟩
theorem gv_lst1 (ha : Gv wa ρ κ x) : Gv (wLst (wCons wa wNil)) ρ κ (.list [x]) := fun Q k => by
  have hz := sizeLine_eq
  rw [s_lst, s_cons]
  refine ha _ fun r hr => ?_
  rw [s_nil, hr, dats_d, dats_nil]
  simp only [s_callL, s_call, s_cons, s_consM, s_nil, s_c, s_var, s_bin, s_un, s_lst, s_tup, s_cb, s_B, s_tru, s_not, s_repr, List.getElem?_cons_succ, List.getElem?_cons_zero, List.set_cons_succ, List.set_cons_zero, st_d, st_f, st_c, val_d, val_f, dats_d, dats_nil, vals_cons, vals_nil, lend_c, args_d, DL.args_nil, Opt_some, out_v, out_n, out_t, lab_d, lab_f, sto_f, sto_d, List.length_cons, List.length_nil, lenD_list, lenD_tuple, listC_list, listC_tuple, tupC_list, tupC_tuple, istt, istf, Bool.not_true, Bool.not_false, Bool.false_eq_true, if_false, if_true]
  exact ⟨by omega, k _ rfl⟩
theorem gv_sl {lo hi : Option Int} {wl wh : DTO} {o : Out} (ha : Gv wa ρ κ x) (h1 : ∀ P : Option Int → Kap → Prop, P lo κ → wl ρ κ P) (h2 : ∀ P : Option Int → Kap → Prop, P hi κ → wh ρ κ P) (e : slD x lo hi = some o) (ez : o.r.st = .d z) : Gv (wSl wa wl wh) ρ κ z := fun Q k => by
  rw [s_sl]
  refine ha _ fun r hr => h1 _ (h2 _ ?_)
  rw [hr, val_d, Opt_some, e, Opt_some]
  exact k _ ez
theorem go_no {P : Option Int → Kap → Prop} (h : P none κ) : wNoP ρ κ P := by rw [s_noP]; exact h
theorem go_at {i : Int} (ha : Gv wa ρ κ (.int i)) : ∀ P : Option Int → Kap → Prop, P (some i) κ → wP wa ρ κ P := fun P h => by
  rw [s_P]
  refine ha _ fun r hr => ?_
  have e : r = .d (.int i) := by
    cases r with
    | d y => exact hr
    | f xs => exact nomatch (show R.d (.list xs) = R.d (.int i) from hr)
    | _ => cases hr
  rw [e]
  exact h
theorem st_bool {r : R} (h : r.st = .d (.bool b)) : r = .d (.bool b) := by
  cases r with
  | d y => exact h
  | f xs => exact nomatch (show R.d (.list xs) = R.d (.bool b) from h)
  | _ => cases h
theorem tv_tru (ha : Gv wa ρ κ (.bool b)) : Tv (wTru wa) ρ κ b := fun Q k => by
  rw [s_tru]
  refine ha _ fun r hr => ?_
  rw [hr, val_d, Opt_some]
  exact k
theorem tv_B (ha : Gv wa ρ κ (.bool b)) : Tv (wB wa) ρ κ b := fun Q k => by
  rw [s_B]
  refine ha _ fun r hr => ?_
  rw [st_bool hr]
  exact k
theorem tv_not (h : Tv wt ρ κ b) : Tv (wNot wt) ρ κ (!b) := fun Q k => by
  rw [s_not]
  exact h _ k
theorem tv_or (h : Tv wt ρ κ b) (h2 : b = false → Tv wu ρ κ c) : Tv (wOr wt wu) ρ κ (b || c) := fun Q k => by
  rw [s_or]
  refine h _ ?_
  cases b with
  | true => exact k
  | false =>
    rw [if_neg (by decide)]
    exact h2 rfl _ k
theorem tv_and (h : Tv wt ρ κ b) (h2 : b = true → Tv wu ρ κ c) : Tv (wAnd wt wu) ρ κ (b && c) := fun Q k => by
  rw [s_and]
  refine h _ ?_
  cases b with
  | true =>
    rw [if_pos rfl]
    exact h2 rfl _ k
  | false => exact k
theorem gv_if (h : Tv wt ρ κ b) (ha : b = true → Gv wa ρ κ x) (hb : b = false → Gv wb ρ κ y) : Gv (wIf wt wa wb) ρ κ (if b = true then x else y) := fun Q k => by
  rw [s_ifx]
  refine h _ ?_
  cases b with
  | true =>
    rw [if_pos rfl]
    exact ha rfl _ k
  | false =>
    rw [if_neg (by decide)]
    exact hb rfl _ k
theorem pass_gv {E : DEnds} {a : DTS} (h : Tv wt ρ κ false) (k : E.nx ρ κ) : wIfS wt a wNext E ρ κ := by
  rw [s_if]
  refine h _ ?_
  rw [if_neg (by decide), s_next]
  exact k
theorem set_gv {E : DEnds} {i : Nat} (h : Gv wa ρ κ x) (k : E.nx (ρ.set i (some (.d x))) κ) : wSet false i wa E ρ κ := by
  rw [s_set]
  refine h _ fun r hr => ?_
  have e : sto false r κ = (.d x, κ) := by
    cases r with
    | d y => cases hr; exact sto_d _ _
    | f xs => cases (show R.d (.list xs) = R.d x from hr); exact sto_f ..
    | _ => cases hr
  rw [e]
  exact k
theorem gv_same (ha : Gv wa ρ κ x) (hb : Gv wb ρ κ x) (g : GoodN 8 x) : Gv (wCall Ph_law_same (wCons wa (wCons wb wNil))) ρ κ (.bool true) := gv_call2 ha hb fun P k => ⟨x, rfl, g, k _ rfl⟩
theorem tv_same (ha : Gv wa ρ κ x) (hb : Gv wb ρ κ x) (g : GoodN 8 x) : Tv (wNot (wTru (wCall Ph_law_same (wCons wa (wCons wb wNil))))) ρ κ false := tv_not (tv_tru (gv_same ha hb g))
end
end SH
namespace SH
open PySem PySem.Spec PyProof.Rows L2 DL
def Ph_law_pick (bs : List PyData) (rs : List R) (P : R → List PyData → Prop) : Prop := ∃ (N : Int) (xs : List PyData), Box N bs ∧ N ≤ 2 ^ 39 ∧ rs = [.d (.list xs)] ∧ 0 < xs.length ∧ xs.length ≤ 1000000 ∧ ∀ (x : PyData) (bs' : List PyData), x ∈ xs → Box (N + 1) bs' → P (.d x) bs'
/-- _law_pick -/
def w_law_pick : DTS := (wRet (wBin ixD (wVar 1) (wCallL Ph_law_take (wCons (wVar 0) (wCons (wCB lenD (wCons (wVar 1) wNil)) wNil)))))
theorem r_law_pick (bs : List PyData) (rs : List R) (Pd : R → List PyData → Prop) (h : Ph_law_pick bs rs Pd) (hl : rs.length = 1) : w_law_pick { nx := fun _ κ => endL κ (.d .none) Pd, rt := fun r κ => endL κ r Pd } (some (.c 0) :: (rs.map some ++ List.replicate 0 none)) [.l bs] := by
  obtain ⟨N, xs, hb, hN, rfl, l0, l1, k⟩ := h
  clear hl
  simp only [List.map_cons, List.map_nil, List.replicate_zero, List.append_nil]
  unfold w_law_pick
  rw [s_ret]
  simp only [s_callL, s_call, s_cons, s_consM, s_nil, s_c, s_var, s_bin, s_un, s_lst, s_tup, s_cb, s_B, s_tru, s_not, s_repr, List.getElem?_cons_succ, List.getElem?_cons_zero, List.set_cons_succ, List.set_cons_zero, st_d, st_f, st_c, val_d, val_f, dats_d, dats_nil, vals_cons, vals_nil, lend_c, args_d, DL.args_nil, Opt_some, out_v, out_n, out_t, lab_d, lab_f, sto_f, sto_d, List.length_cons, List.length_nil, lenD_list, lenD_tuple, listC_list, listC_tuple, tupC_list, tupC_tuple, istt, istf, Bool.not_true, Bool.not_false, Bool.false_eq_true, if_false, if_true]
  refine ⟨N, xs.length, hb, by omega, rfl, by omega, by omega, fun z bs1 z0 z1 hb1 => ?_⟩
  obtain ⟨j, rfl⟩ := Int.eq_ofNat_of_zero_le z0
  have hj : j < xs.length := by omega
  have e : ixD (.list xs) (.int (j : Int)) = some (.v xs[j]) := ixD_list (atI_nat (List.getElem?_eq_getElem hj))
  simp only [s_callL, s_call, s_cons, s_consM, s_nil, s_c, s_var, s_bin, s_un, s_lst, s_tup, s_cb, s_B, s_tru, s_not, s_repr, List.getElem?_cons_succ, List.getElem?_cons_zero, List.set_cons_succ, List.set_cons_zero, st_d, st_f, st_c, val_d, val_f, dats_d, dats_nil, vals_cons, vals_nil, lend_c, args_d, DL.args_nil, Opt_some, out_v, out_n, out_t, lab_d, lab_f, sto_f, sto_d, List.length_cons, List.length_nil, lenD_list, lenD_tuple, listC_list, listC_tuple, tupC_list, tupC_tuple, istt, istf, Bool.not_true, Bool.not_false, Bool.false_eq_true, if_false, if_true, e, endL_d]
  exact k _ _ (List.getElem_mem hj) hb1
end SH
namespace SH
open PySem PySem.Spec PyProof.Rows L2 DL
end SH
namespace SH
open PySem PySem.Spec PyProof.Rows L2 DL
/-- arguments that come to these things -/
def Ga (wr : DTA) (ρ : Rho) (κ : Kap) (xs : List PyData) : Prop := ∀ Q : List R → Kap → Prop, (∀ rs, dats κ rs = some (xs, κ) → Q rs κ) → wr ρ κ Q
section
variable {ρ : Rho} {κ : Kap} {wa wb : DTE} {wr : DTA} {x y : PyData} {xs : List PyData}
theorem ga_nil : Ga wNil ρ κ [] := fun Q k => by
  rw [s_nil]
  exact k _ rfl
theorem ga_cons (ha : Gv wa ρ κ x) (hr : Ga wr ρ κ xs) : Ga (wCons wa wr) ρ κ (x :: xs) := fun Q k => by
  rw [s_cons]
  refine ha _ fun r e1 => hr _ fun rs e2 => k _ ?_
  rw [e1, dats_d, e2]
theorem gv_lst (h : Ga wr ρ κ xs) (l : xs.length ≤ 1000000) : Gv (wLst wr) ρ κ (.list xs) := fun Q k => by
  rw [s_lst]
  refine h _ fun rs e => ?_
  rw [e, Opt_some]
  refine ⟨?_, k _ rfl⟩
  rw [sizeLine_eq]
  show xs.length ≤ _
  omega
theorem gv_tup (h : Ga wr ρ κ xs) (l : xs.length ≤ 1000000) : Gv (wTup wr) ρ κ (.tuple xs) := fun Q k => by
  rw [s_tup]
  refine h _ fun rs e => ?_
  rw [e, Opt_some]
  refine ⟨?_, k _ rfl⟩
  rw [sizeLine_eq]
  show xs.length ≤ _
  omega
theorem gv_neg1 : Gv (wUn negD (wC (.int 1))) ρ κ (.int (-1)) := gv_un gv_c rfl rfl
end
abbrev rhoB (x : PyData) : Rho := [some (.c 0), some (.d x), none, none, none]
section
variable {N : Int} {bs : List PyData} {x : PyData} {κ : Kap} {E : DEnds} {W : DTS} {wr : DTA} {m : Nat} {F : Str → List PyData}
theorem s_subSl {wo : DTE} {wl wh : DTO} {r : R} {P : Rho → Kap → Prop} {ρ : Rho} : wSubSl wo wl wh r ρ κ P = Opt (dat κ r) fun q => match q.1 with
  | .list ys => wo ρ q.2 fun ro κ1 => match ro with
    | .c k => wl ρ κ1 fun l κ2 => wh ρ κ2 fun h κ3 => match l, h, κ3[k]? with
      | some (.ofNat a), some (.ofNat c), some (.l xs) => a ≤ min c xs.length ∧ xs.length + ys.length ≤ 1000000 ∧ P ρ (κ3.set k (.l (xs.take a ++ ys ++ xs.drop (min c xs.length))))
      | _, _, _ => False
    | _ => False
  | _ => False := rfl
section
variable {n b s : Nat} {t : Bool} {xs : List PyData} {Pd : R → List PyData → Prop}
end
end
section
variable {N : Int} {bs : List PyData} {W : DTS} {n b s : Nat} {t : Bool} {xs : List PyData} {Pd : R → List PyData → Prop}
end
end SH
namespace SH
open PySem PySem.Spec PyProof.Rows L2 DL
theorem take_while_len {p : Nat → Bool} : ∀ {l : List Nat}, (l.takeWhile p).length = l.length ↔ l.all p = true
  | [] => by simp
  | c :: l => by
    have ih := take_while_len (p := p) (l := l)
    rw [List.takeWhile_cons, List.all_cons]
    cases h : p c with
    | true => simp [ih]
    | false => simp
theorem take_while_le {p : Nat → Bool} : ∀ l : List Nat, (l.takeWhile p).length ≤ l.length
  | [] => Nat.le_refl _
  | c :: l => by
    rw [List.takeWhile_cons]
    have := take_while_le (p := p) l
    cases p c <;> simp <;> omega
theorem take_while_mem {p : Nat → Bool} {l : List Nat} (h : (l.takeWhile p).length < l.length) : ∃ c, (l.drop (l.takeWhile p).length).head? = some c ∧ p c = false := by
  induction l with
  | nil => simp at h
  | cons c l ih =>
    rw [List.takeWhile_cons] at h ⊢
    cases q : p c with
    | true =>
      rw [q] at h
      simp only [if_true, List.length_cons] at h
      obtain ⟨d, h1, h2⟩ := ih (by omega)
      refine ⟨d, ?_, h2⟩
      simpa using h1
    | false => exact ⟨c, by simp, q⟩
theorem sub_empty {z : Str} {lo hi : Nat} (h1 : hi ≤ z.length) : Builtin.Str.strSub z lo hi = (⟨#[]⟩ : Str) ↔ hi ≤ lo := by
  have e : (Builtin.Str.strSub z lo hi).cps.size = min hi z.cps.size - lo := Array.size_extract ..
  have hz : z.length = z.cps.size := rfl
  constructor
  · intro h
    rw [h] at e
    have : (0 : Nat) = min hi z.cps.size - lo := e
    omega
  · intro h
    have : (Builtin.Str.strSub z lo hi).cps.size = 0 := by omega
    have h2 := Array.eq_empty_of_size_eq_zero this
    show (⟨(Builtin.Str.strSub z lo hi).cps⟩ : Str) = _
    rw [h2]
theorem strip_bare (z y : Str) : Txt.stripChars z y = (⟨#[]⟩ : Str) ↔ (cs z).all (fun c => y.cps.contains c) = true := by
  have lz : (cs z).length = z.length := rfl
  have key : Txt.stripChars z y = Builtin.Str.strSub z (stripLo y.cps.contains true z) (stripHi y.cps.contains true z (stripLo y.cps.contains true z)) := by
    unfold Txt.stripChars
    rw [PySem.W.stripBy_eq]
    rfl
  rw [key]
  have e1 : stripLo y.cps.contains true z = ((cs z).takeWhile y.cps.contains).length := rfl
  have e2 : ∀ lo, stripHi y.cps.contains true z lo = z.length - ((((cs z).drop lo).reverse).takeWhile y.cps.contains).length := fun lo => rfl
  rw [e2, e1]
  have le := take_while_le (p := y.cps.contains) (cs z)
  rw [sub_empty (by omega), ← take_while_len]
  by_cases h : ((cs z).takeWhile y.cps.contains).length = (cs z).length
  · rw [h]
    exact ⟨fun _ => rfl, fun _ => by omega⟩
  · refine ⟨fun q => absurd ?_ h, fun q => absurd q h⟩
    obtain ⟨c, h1, h2⟩ := take_while_mem (p := y.cps.contains) (l := cs z) (by omega)
    generalize hl : ((cs z).takeWhile y.cps.contains).length = lo at *
    have ld : ((cs z).drop lo).length = (cs z).length - lo := List.length_drop
    have no : ¬ (((((cs z).drop lo).reverse).takeWhile y.cps.contains).length = (((cs z).drop lo).reverse).length) := fun e => by
      rw [take_while_len, List.all_reverse, List.all_eq_true] at e
      have := e c (List.mem_of_mem_head? h1)
      rw [h2] at this
      cases this
    have le2 := take_while_le (p := y.cps.contains) ((cs z).drop lo).reverse
    rw [List.length_reverse] at no le2
    omega
theorem letters_in (c : Nat) : ("abcdefghijklmnopqrstuvwxyz" : Str).cps.contains c = letterB c := by
  have e : (cs ("abcdefghijklmnopqrstuvwxyz" : Str)) = (List.range 26).map (97 + ·) := by decide +kernel
  rw [← Array.contains_toList]
  show (cs ("abcdefghijklmnopqrstuvwxyz" : Str)).contains c = letterB c
  rw [e, Bool.eq_iff_iff, List.contains_iff_mem, List.mem_map]
  unfold letterB
  rw [Bool.and_eq_true, decide_eq_true_iff, decide_eq_true_iff]
  constructor
  · rintro ⟨i, hi, rfl⟩
    have := List.mem_range.mp hi
    omega
  · rintro ⟨h1, h2⟩
    exact ⟨c - 97, List.mem_range.mpr (by omega), by omega⟩
end SH
namespace SH
open PySem PySem.Spec PyProof.Rows L2 DL
end SH
namespace SH
open PySem PySem.Spec PyProof.Rows L2 DL
def HookIn (h : Hook) : Prop := IsName h.1 ∧ IsName h.2.1 ∧ cs h.1 < cs h.2.1 ∧ (h.2.2 = 1 ∨ h.2.2 = -1)
def StepIn (s : StepT) : Prop := ∀ a h, s = .come a h → HookIn h
end SH
namespace SH
open PySem PySem.Spec PyProof.Rows L2 DL
end SH
namespace SH
open PySem PySem.Spec PyProof.Rows L2 DL
theorem HookIn.row {h : Hook} (a : HookIn h) : IsName h.1 ∧ IsName h.2.1 ∧ h.1 ≠ h.2.1 := ⟨a.1, a.2.1, fun e => by
  have := a.2.2.1
  rw [e] at this
  exact absurd this (List.lt_irrefl _)⟩
section
variable {E : DEnds} {ok : Kap → Prop} {other : Row} {κ : Kap} {p0 p1 p2 : Option R}
end
end SH
namespace SH
open PySem PySem.Spec PyProof.Rows L2 DL
def RowH (r : Row) : Prop := ∀ h ∈ r, HookIn h
def Lead (M : Nat) : Row → List StepT → Row → Prop
  | r, [], q => r = q ∧ r.length ≤ M
  | r, s :: ss, q => (canF r s = true ∧ r.length ≤ M ∧ StepIn s) ∧ Lead M (goneF r s) ss q
theorem Lead.end {M : Nat} : ∀ {ss : List StepT} {r q : Row}, Lead M r ss q → q.length ≤ M
  | [], _, _, h => by rw [← h.1]; exact h.2
  | _ :: _, _, _, h => Lead.end h.2
theorem Lead.len {M : Nat} : ∀ {ss : List StepT} {r q : Row}, Lead M r ss q → r.length ≤ M
  | [], _, _, h => h.2
  | _ :: _, _, _, h => h.1.2.1
theorem Lead.mono {M N : Nat} (l : M ≤ N) : ∀ {ss : List StepT} {r q : Row}, Lead M r ss q → Lead N r ss q
  | [], _, _, h => ⟨h.1, Nat.le_trans h.2 l⟩
  | _ :: _, _, _, h => ⟨⟨h.1.1, Nat.le_trans h.1.2.1 l, h.1.2.2⟩, Lead.mono l h.2⟩
theorem Lead.app {M : Nat} : ∀ {a : List StepT} {r m : Row} {b : List StepT} {q : Row}, Lead M r a m → Lead M m b q → Lead M r (a ++ b) q
  | [], _, _, _, _, h1, h2 => by
    obtain ⟨rfl, _⟩ := h1
    exact h2
  | _ :: _, _, _, _, _, h1, h2 => ⟨h1.1, Lead.app h1.2 h2⟩
theorem Lead.pile {M : Nat} : ∀ {ss : List StepT} {r q : Row}, Lead M r ss q → pile q = pile r
  | [], _, _, h => by rw [h.1]
  | _ :: _, _, _, h => (Lead.pile h.2).trans (pile_gone h.1.1)
theorem two_at (u v : Row) (x y : Hook) (f : Hook → Hook → Bool) : two (u ++ x :: y :: v) (u.length : Int) f = f x y := by
  unfold two
  rw [Int.toNat_natCast, (drop_at u _ rfl).1, decide_eq_true (by omega), decide_eq_true (by rw [List.length_append]; simp; omega)]
  rfl
theorem do_change (u v : Row) {x y : Hook} (e : hits x y = false) : canF (u ++ x :: y :: v) (.change (u.length : Int)) = true ∧ goneF (u ++ x :: y :: v) (.change (u.length : Int)) = u ++ y :: x :: v := by
  constructor
  · show two _ _ _ = true
    rw [two_at, e]
    rfl
  · show (u ++ x :: y :: v).take (u.length : Int).toNat ++ (match (u ++ x :: y :: v).drop (u.length : Int).toNat with
      | x :: y :: v => y :: x :: v
      | v => v) = _
    rw [Int.toNat_natCast, (drop_at u _ rfl).1, (drop_at u _ rfl).2]
theorem do_go (u v : Row) (x : Hook) : canF (u ++ x :: turned x :: v) (.go (u.length : Int)) = true ∧ goneF (u ++ x :: turned x :: v) (.go (u.length : Int)) = u ++ v := by
  constructor
  · show two _ _ _ = true
    rw [two_at]
    exact decide_eq_true rfl
  · show (u ++ x :: turned x :: v).take (u.length : Int).toNat ++ (u ++ x :: turned x :: v).drop ((u.length : Int).toNat + 2) = _
    rw [Int.toNat_natCast, (drop_at u _ rfl).2, ← List.drop_drop, (drop_at u _ rfl).1]
    rfl
theorem do_come (u v : Row) (x : Hook) : canF (u ++ v) (.come (u.length : Int) x) = true ∧ goneF (u ++ v) (.come (u.length : Int) x) = u ++ x :: turned x :: v := by
  constructor
  · show (decide ((0 : Int) ≤ u.length) && decide ((u.length : Int) ≤ ((u ++ v).length : Int))) = true
    rw [decide_eq_true (by omega), decide_eq_true (by rw [List.length_append]; omega)]
    rfl
  · show (u ++ v).take (u.length : Int).toNat ++ (x :: turned x :: (u ++ v).drop (u.length : Int).toNat) = _
    rw [Int.toNat_natCast, (drop_at u _ rfl).1, (drop_at u _ rfl).2]
theorem in_change (a : Int) : StepIn (.change a) := fun _ _ e => nomatch e
theorem in_go (a : Int) : StepIn (.go a) := fun _ _ e => nomatch e
def undoF (r : Row) : StepT → StepT
  | .go a => .come a (r.getD a.toNat ("", "", 0))
  | .change a => .change a
  | .come a _ => .go a
theorem undo_ok {M : Nat} {r : Row} {s : StepT} (hc : canF r s = true) (hr : RowH r) (lr : r.length ≤ M) (lg : (goneF r s).length ≤ M) (hs : StepIn s) : RowH (goneF r s) ∧ Lead M (goneF r s) [undoF r s] r := by
  cases s with
  | come a h =>
    have c : (decide (0 ≤ a) && decide (a ≤ (r.length : Int))) = true := hc
    rw [Bool.and_eq_true] at c
    have c1 := of_decide_eq_true c.1
    have c2 := of_decide_eq_true c.2
    obtain ⟨n, rfl⟩ := Int.eq_ofNat_of_zero_le c1
    have e := List.take_append_drop n r
    have l1 : (r.take n).length = n := by rw [List.length_take]; omega
    have g : goneF r (.come (n : Int) h) = r.take n ++ h :: turned h :: r.drop n := rfl
    have hh : HookIn h := hs _ _ rfl
    have ht : HookIn (turned h) := ⟨hh.1, hh.2.1, hh.2.2.1, by
      have := hh.2.2.2
      show -h.2.2 = 1 ∨ -h.2.2 = -1
      omega⟩
    rw [g] at lg ⊢
    constructor
    · intro x hx
      rcases List.mem_append.mp hx with hx | hx
      · exact hr x (List.mem_of_mem_take hx)
      · rcases List.mem_cons.mp hx with rfl | hx
        · exact hh
        · rcases List.mem_cons.mp hx with rfl | hx
          · exact ht
          · exact hr x (List.mem_of_mem_drop hx)
    · have d := do_go (r.take n) (r.drop n) h
      rw [l1] at d
      have q : goneF (r.take n ++ h :: turned h :: r.drop n) (undoF r (.come (n : Int) h)) = r := d.2.trans e
      exact ⟨⟨d.1, lg, in_go _⟩, q, by rw [q]; exact lr⟩
  | change a =>
    by_cases c : 0 ≤ a ∧ a < (r.length : Int) - 1
    · obtain ⟨n, u, v, x, y, rfl, hu, rfl, e⟩ := two_split (f := fun x y => !hits x y) c.1 c.2
      have hh : (!hits x y) = true := e.symm.trans hc
      have nh : hits x y = false := by simpa using hh
      have nh2 : hits y x = false := by rw [hits_symm]; exact nh
      subst hu
      have g := (do_change u v nh).2
      have g2 := do_change u v nh2
      rw [g] at lg ⊢
      constructor
      · intro z hz
        refine hr z ?_
        simp only [List.mem_append, List.mem_cons] at hz ⊢
        rcases hz with h | h | h | h
        · exact .inl h
        · exact .inr (.inr (.inl h))
        · exact .inr (.inl h)
        · exact .inr (.inr (.inr h))
      · have q : goneF (u ++ y :: x :: v) (undoF (u ++ x :: y :: v) (.change (u.length : Int))) = u ++ x :: y :: v := g2.2
        exact ⟨⟨g2.1, lg, in_change _⟩, q, by rw [q]; exact lr⟩
    · have := two_no (f := fun x y => !hits x y) c
      rw [canF, this] at hc
      cases hc
  | go a =>
    by_cases c : 0 ≤ a ∧ a < (r.length : Int) - 1
    · obtain ⟨n, u, v, x, y, rfl, hu, rfl, e⟩ := two_split (f := fun x y => decide (y = turned x)) c.1 c.2
      have hh : y = turned x := of_decide_eq_true (e.symm.trans hc)
      subst hh
      subst hu
      have g := (do_go u v x).2
      have g2 := do_come u v x
      have hx := hr x (by simp)
      rw [g] at lg ⊢
      constructor
      · intro z hz
        refine hr z ?_
        simp only [List.mem_append, List.mem_cons] at hz ⊢
        rcases hz with h | h
        · exact .inl h
        · exact .inr (.inr (.inr h))
      · have eu : undoF (u ++ x :: turned x :: v) (.go (u.length : Int)) = .come (u.length : Int) x := by
          show StepT.come (u.length : Int) ((u ++ x :: turned x :: v).getD (u.length : Int).toNat _) = _
          rw [Int.toNat_natCast, List.getD_eq_getElem?_getD, List.getElem?_append_right (Nat.le_refl _), Nat.sub_self]
          rfl
        rw [eu]
        refine ⟨⟨g2.1, lg, fun a h e => ?_⟩, by rw [g2.2]; exact ⟨rfl, lr⟩⟩
        cases e
        exact hx
    · have := two_no (f := fun x y => decide (y = turned x)) c
      rw [canF, this] at hc
      cases hc
def backS : Row → List StepT → List StepT
  | _, [] => []
  | r, s :: ss => undoF r s :: backS (goneF r s) ss
theorem Lead.back {M : Nat} : ∀ {ss : List StepT} {r q : Row}, RowH r → Lead M r ss q → Lead M q (backS r ss).reverse r
  | [], r, q, _, h => ⟨h.1.symm, by rw [← h.1]; exact h.2⟩
  | s :: ss, r, q, hr, h => by
    obtain ⟨h1, h2⟩ := undo_ok h.1.1 hr h.1.2.1 h.2.len h.1.2.2
    show Lead M q (undoF r s :: backS (goneF r s) ss).reverse r
    rw [List.reverse_cons]
    exact (Lead.back h1 h.2).app h2
end SH
namespace DL
open PySem PySem.Spec PyProof.Rows L2
section
variable {P : Program} {w : World} {A : Around} {E : Value → Shared → Prop} {s : Shared}
end
section
variable {X : Cx}
end
section
variable {X : Cx} {e : Expr} {we : DTE} {p p2 pos cpos : Pos}
end
end DL
namespace DL
open PySem PySem.Spec PyProof.Rows L2
abbrev MEnt := Str × PyData
section
variable {K : PySem.W.Frag} {G H : Hp} {As : List Addr}
end
section
variable {X : Cx} {e : Expr} {we : DTE} {p pos : Pos}
end
section
variable {X : Cx}
end
section
variable {X : Cx} {e : Expr} {we : DTE} {p pos : Pos}
end
section
variable {X : Cx} {pos : Pos} {o i : Expr} {wo wi : DTE}
end
section
variable {K : PySem.W.Frag} {G H G' H' : Hp} {As : List Addr} {κ : Kap} {es : List MEnt} {k : Nat} {a : Addr} {v : V} {r : R}
end
section
variable {X : Cx} {CX : CXT} {k : Nat} {f : Addr} {fd : FuncData} {ps : List Str} {n : Nat} {E : XK} {x : Str} {p pos : Pos} {e : Expr} {es : List Expr} {wr : DTA}
end
section
variable {X : Cx} {k n : Nat} {ps : List Str} {x : Str} {p pos : Pos} {e : Expr} {es : List Expr} {wr : DTA}
end
section
variable {P : Program} {w : World} {K : PySem.W.Frag} {mg : Str → Option Value} {base : Heap} {x qual : Str} {st : Stmt} {f : Addr} {fd : FuncData} {N ps : List Str} {k : Nat}
end
open PySem.SeqAt (EqP)
open PySem.Calls PyProof.V
section
variable {prog : Program} {w : World} {K : Type} [DecidableEq K] {knd : KeyKind prog w K} {A : Around} {E : Value → Shared → Prop} {s : Shared}
end
section
variable {X : Cx} {pins : List (Addr × Obj)} {σ : L2.St} {H : Hp} {s : Shared}
end
section
variable {X : Cx} {a b : Expr} {wa wb : DTE} {pos : Pos}
end
end DL
namespace DL
open PySem PySem.Spec PyProof.Rows L2
section
variable {X : Cx} {a b : Expr} {wa wb : DTE} {pos : Pos}
end
end DL
namespace DL
open PySem PySem.Spec PyProof.Rows L2
section
variable {X : Cx} {o a i : Expr} {wo wa wi ws : DTE} {apos cpos pos : Pos}
end
end DL
namespace L2
open PySem PySem.Spec PyProof.Rows
section
variable {X : Cx} {tg : Expr}
end
end L2
namespace DL
open PySem PySem.Spec PyProof.Rows L2
section
variable {X : Cx} {tg a b e : Expr} {wr : DTA} {p pos : Pos}
end
end DL
namespace SH
open PySem PySem.Spec PyProof.Rows L2 DL
theorem RowH.inn {r : Row} (h : RowH r) : RowIn r := fun x hx => (h x hx).row
section
variable {E : DEnds} {ok : Kap → Prop} {κ : Kap} {p0 p1 p2 : Option R} {h : Hook}
end
end SH
namespace SH
open PySem PySem.Spec PyProof.Rows L2 DL
section
variable {E : DEnds} {ok : Kap → Prop} {κ : Kap} {p0 p1 p2 p3 p4 p5 p6 p7 p8 p9 : Option R}
end
end SH
namespace SH
open PySem PySem.Spec PyProof.Rows L2 DL
section
variable {E : DEnds} {ok : Kap → Prop} {κ : Kap} {p0 p1 p2 p3 p4 p5 p6 p7 p8 p9 : Option R}
end
end SH
namespace SH
open PySem PySem.Spec PyProof.Rows L2 DL
theorem RowH.settled {r : Row} (h : RowH r) : RowH (settledF r) := fun x hx => h x (settled_mem hx)
section
variable {E : DEnds} {ok : Kap → Prop} {p0 p1 : Option R}
end
end SH
namespace SH
open PySem PySem.Spec PyProof.Rows L2 DL
/-- bare without any of its ropes, on these alone -/
structure PureFor (S : List Str) (r : Row) : Prop where
  on : ∀ x ∈ r, x.1 ∈ S ∧ x.2.1 ∈ S
  bare : ∀ U : List Str, (∃ z ∈ S, z ∉ U) → pile (keptF r U) = pile []
theorem PureFor.nil (S : List Str) : PureFor S [] := ⟨(fun _ h => nomatch h), fun _ _ => rfl⟩
theorem PureFor.least {S : List Str} {r : Row} (p : PureFor S r) : PureFor S (leastF r) := ⟨fun x hx => p.on x (least_mem hx), fun U h => by
  rw [kept_same U (pile_least r)]
  exact p.bare U h⟩
section
variable {ns : List Str} {F : List Str → Row}
end
end SH
namespace SH
open PySem PySem.Spec PyProof.Rows L2 DL
def nl (r : Row) : Nat := (leastF r).length
theorem nl_same {r q : Row} (e : pile r = pile q) : nl r = nl q := by unfold nl; rw [least_same e]
theorem nl_le (r : Row) : nl r ≤ r.length := least_len r
theorem nl_settled (r : Row) : nl r = (settledF r).length := lines_len (first_lines (settledF r))
def Tight (r : Row) : Prop := nl r = r.length
theorem hits_tl (g k : Hook) : hits (turned g) k = hits g k := by rw [hits_symm, hits_t, hits_symm]
theorem red_rev {ρ : Row} (R : Red ρ) : Red ρ.reverse := fun x g y z e => by
  have e2 : ρ = z.reverse ++ turned g :: (y.reverse ++ turned (turned g) :: x.reverse) := by
    have := congrArg List.reverse e
    rw [List.reverse_reverse] at this
    rw [this, turned2]
    simp
  obtain ⟨k, hk, h⟩ := R _ _ _ _ e2
  rw [hits_tl] at h
  exact ⟨k, List.mem_reverse.mp hk, h⟩
theorem red_tight {r : Row} (R : Red r) : Tight r := by
  have := nf_red (red_rev R)
  rw [List.reverse_reverse] at this
  unfold Tight
  rw [nl_settled, settled_nf, this, List.reverse_reverse]
theorem free_past {g : Hook} {y : Row} (h : ∀ k ∈ y, hits g k = false) (x z : Row) : pile (x ++ g :: (y ++ z)) = pile (x ++ (y ++ g :: z)) := by
  have e := pile_app2 (x := x) (pile_app1 (y := z) (pile_past h))
  simpa using e
theorem tight_red {r : Row} (t : Tight r) : Red r := fun x g y z e => by
  refine Classical.byContradiction fun hn => ?_
  have hf : ∀ k ∈ y, hits g k = false := fun k hk => by
    cases c : hits g k with
    | false => rfl
    | true => exact absurd ⟨k, hk, c⟩ hn
  have e1 : pile r = pile (x ++ (y ++ z)) := by
    rw [e, free_past hf]
    have := pile_come (x ++ y) z g
    simpa using this
  have l := nl_le (x ++ (y ++ z))
  rw [← nl_same e1, t, e] at l
  simp only [List.length_append, List.length_cons] at l
  omega
theorem Tight.mid {a b c : Row} (t : Tight (a ++ b ++ c)) : Tight b := red_tight fun x g y z e => tight_red t (a ++ x) g y (z ++ c) (by rw [e]; simp)
theorem Tight.left {a b : Row} (t : Tight (a ++ b)) : Tight a := Tight.mid (a := []) (c := b) (by simpa using t)
theorem Tight.right {a b : Row} (t : Tight (a ++ b)) : Tight b := Tight.mid (a := a) (c := []) (by simpa using t)
def First (h : Hook) (u : Row) : Prop := ∃ A B, u = A ++ h :: B ∧ ∀ x ∈ A, hits h x = false
def Last (h : Hook) (u : Row) : Prop := ∃ A B, u = A ++ h :: B ∧ ∀ x ∈ B, hits h x = false
def NoPeel (u : Row) : Prop := ∀ h, First h u → ¬ Last (turned h) u
theorem First.mem {h : Hook} {u : Row} (f : First h u) : h ∈ u := by
  obtain ⟨A, B, e, _⟩ := f
  rw [e]; simp
theorem Last.mem {h : Hook} {u : Row} (f : Last h u) : h ∈ u := by
  obtain ⟨A, B, e, _⟩ := f
  rw [e]; simp
def rp (n : Nat) (r : Row) : Row := (List.replicate n r).flatten
end SH
namespace SH
open PySem PySem.Spec PyProof.Rows L2 DL
/-- what is taken off, what is left -/
structure Core (r l u : Row) : Prop where
  same : pile r = pile (l ++ u ++ back l)
  many : 2 * l.length + u.length = nl r
  no : NoPeel u
theorem Core.tight {r l u : Row} (c : Core r l u) : Tight (l ++ u ++ back l) := by
  unfold Tight
  rw [← nl_same c.same, ← c.many]
  rw [List.length_append, List.length_append, back_len]
  omega
/-- many times over, either way -/
def rz (n : Int) (r : Row) : Row := if 0 ≤ n then rp n.natAbs r else rp n.natAbs (back r)
end SH
namespace SH
open PySem PySem.Spec PyProof.Rows L2 DL
section
variable {ns : List Str} {row r q x : Row} {rope z : Str}
end
end SH
namespace SH
open PySem PySem.Spec PyProof.Rows L2 DL
abbrev Wish := Str → List (List Str)
/-- the wish can be asked: sets of others, rising -/
structure WishOk (ns : List Str) (W : Wish) : Prop where
  sub : ∀ z ∈ ns, ∀ h ∈ W z, h.Sublist ns ∧ z ∉ h ∧ 1 ≤ h.length
  few : ∀ z ∈ ns, (W z).length ≤ 300
section
variable {ns : List Str} {W : Wish}
end
end SH
namespace SH
open PySem PySem.Spec PyProof.Rows L2 DL
section
variable {ns : List Str} {W : Wish} {E : DEnds} {ok : Kap → Prop} {ss : List (List Str)}
theorem WishOk.small (hn : Names ns) (n8 : ns.length ≤ 8) (w : WishOk ns W) {z : Str} (hz : z ∈ ns) : Small (W z) ∧ (W z).length ≤ 300 := ⟨fun s hs => by
  have h := (w.sub z hz s hs).1
  have := h.length_le
  exact ⟨fun y hy => hn.1 y (h.subset hy), by omega⟩, w.few z hz⟩
end
end SH
namespace SH
open PySem PySem.Spec PyProof.Rows L2 DL
/-- a wish changed at one rope -/
def setW (W : Wish) (z : Str) (l : List (List Str)) : Wish := fun y => if y = z then l else W y
end SH
namespace SH
open PySem PySem.Spec PyProof.Rows L2 DL
def Gc (wr : DTA) (ρ : Rho) (κ : Kap) (xs : List R) : Prop := ∀ Q : List R → Kap → Prop, Q xs κ → wr ρ κ Q
section
variable {ρ : Rho} {κ : Kap} {wa : DTE} {wr : DTA} {x z : PyData} {xs : List R}
theorem gc_nil : Gc wNil ρ κ [] := fun Q k => by
  rw [s_nil]
  exact k
theorem gc_cons (ha : Gv wa ρ κ x) (hr : Gc wr ρ κ xs) : Gc (wCons wa wr) ρ κ (.d x :: xs) := fun Q k => by
  rw [s_cons]
  refine ha _ fun r hr' => hr _ ?_
  rw [hr']
  exact k
theorem args_all (κ : Kap) : ∀ xs : List PyData, args κ (xs.map .d) = some (xs.map .d, κ)
  | [] => rfl
  | x :: xs => by
    show (match arg κ (.d x) with
      | some (y, κ1) => match args κ1 (xs.map .d) with
        | some (ys, κ2) => some (y :: ys, κ2)
        | none => none
      | none => none) = _
    rw [show arg κ (.d x) = some (.d x, κ) from rfl]
    simp only
    rw [args_all κ xs]
    rfl
end
theorem eqD_intn (neg : Bool) (i j : Int) : eqD neg (.int i) (.int j) = some (.v (.bool (if neg then !decide (i = j) else decide (i = j)))) := by
  rw [eqD_of (by unfold SeqAt.shaped PyData.canLay0; simp [PyData.depth]) (by unfold SeqAt.shaped PyData.canLay0; simp [PyData.depth])]
  have e : PyData.eqv (.int i) (.int j) = decide (i = j) := by
    rw [PyData.eqv]
    by_cases q : i = j <;> simp [q]
  rw [e]
section
variable {E : DEnds} {ok : Kap → Prop} {κ : Kap} {p1 p2 : Option R}
end
end SH
namespace SH
open PySem PySem.Spec PyProof.Rows L2 DL
end SH
namespace PySem
open Sem (wp)
namespace F
end F
section
variable {prog : Program} {w : World} {A : Around} {E : Value → Shared → Prop} {s : Shared}
end
end PySem
namespace L2
open PySem PySem.Spec PyProof.Rows
section
variable {M : Model} {A : Around} {E : Value → Shared → Prop} {s : Shared} {env : Env}
end
end L2
namespace DL
open PySem PySem.Spec PyProof.Rows L2
section
variable {X : Cx} {a b : Expr} {wr : DTA} {p pos kp cp : Pos}
end
end DL
namespace DL
open PySem PySem.Spec PyProof.Rows L2
def maxI (d : Int) : List Int → Int
  | [] => d
  | n :: ns => ns.foldl max n
section
variable {X : Cx} {e d : Expr} {we wd : DTE} {p pos kpos : Pos}
end
end DL
namespace DL
open PySem PySem.Spec PyProof.Rows L2
section
variable {X : Cx} {o i y : Expr} {wo wi wy : DTE} {apos cpos : Pos}
end
section
variable {X : Cx} {pos : Pos} {k v : Expr} {ks : List (Option Expr)} {vs : List Expr} {wk wv : DTE} {l : List (DTE × DTE)}
end
end DL
namespace PySem
open Sem (wp)
section
variable {prog : Program} {w : World} {A : Around} {E : Value → Shared → Prop} {s : Shared}
end
end PySem
namespace L2
open PySem PySem.Spec PyProof.Rows
end L2
namespace DL
open PySem PySem.Spec PyProof.Rows L2
section
variable {X : Cx} {a b : Expr} {wr : DTA} {p pos kp cp : Pos}
end
end DL
namespace SH
open PySem PySem.Spec PyProof.Rows L2 DL
end SH
namespace SH
open PySem PySem.Spec PyProof.Rows L2 DL
end SH
namespace SH
open PySem PySem.Spec PyProof.Rows L2 DL
end SH
namespace DL
open PySem PySem.Spec PyProof.Rows L2
section
variable {X : Cx} {a b : Expr} {wa wb : DTE} {pos : Pos}
end
end DL
namespace SH
open PySem PySem.Spec PyProof.Rows L2 DL
end SH
namespace SH
open PySem PySem.Spec PyProof.Rows L2 DL
section
variable {ρ : Rho} {κ κ1 : Kap} {wa wb wc : DTE} {wr : DTA} {x y z u : PyData} {xs : List PyData} {ns ss : List Str} {r q : Row} {n : Nat}
theorem gv_app {E : DEnds} {i j : Nat} (hi : ρ[i]? = some (some (.c j))) (hj : κ[j]? = some (.l xs)) (g : Gv wb ρ κ x) (l : xs.length ≤ 1000000) (k : E.nx ρ (κ.set j (.l (xs ++ [x])))) : wDrop (wAppend (wVar i) wb) E ρ κ := by
  rw [s_drop, s_append, s_var, hi]
  refine ⟨⟨_, hj⟩, g _ fun r hr => ?_⟩
  rw [hr, dat_d, Opt_some]
  simp only [hj]
  refine ⟨?_, k⟩
  rw [sizeLine_eq]
  omega
theorem gv_twice (ha : Gv wa ρ κ (.list [x])) : Gv (wBin mulD wa (wC (.int 2))) ρ κ (.list [x, x]) := gv_bin (y := .int ((2 : Nat) : Int)) ha gv_c (mulD_one (n := 2) (by decide)) rfl
theorem gv_lcm {α : Type} {f e : α → PyData} {l : List α} {g : DTG} {vs : List Nat} (h : Gv wa ρ κ (.list (l.map f))) (len : l.length ≤ 1000000) (step : ∀ x ∈ l, ∀ C : R → Kap → Prop, C (.d (e x)) κ → g (.d (f x)) (wipeR ρ vs) κ fun ρ1 κ1 => wb ρ1 κ1 C) : Gv (wLc (wSq wa) g wYes wb vs) ρ κ (.list (l.map e)) := fun Q k => by
  rw [s_lc, s_sq]
  refine h _ fun r hr => ?_
  rw [hr, val_d, Opt_some]
  dsimp only
  refine lc_map f e (by exact val_d ..) l [] (by rw [List.length_nil, sizeLine_eq]; omega) step ?_
  rw [List.nil_append]
  exact k _ rfl
theorem ret_gv {E : DEnds} (h : Gv wa ρ κ x) (k : ∀ r : R, r.st = .d x → E.rt r κ) : wRet wa E ρ κ := by
  rw [s_ret]
  exact h _ k
theorem gn_list (l : xs.length ≤ 1000000) (h : ∀ x ∈ xs, GoodN n x) : GoodN (n + 1) (.list xs) := ⟨by rw [sizeLine_eq]; omega, h⟩
theorem gn_tup (l : xs.length ≤ 1000000) (h : ∀ x ∈ xs, GoodN n x) : GoodN (n + 1) (.tuple xs) := ⟨by rw [sizeLine_eq]; omega, h⟩
theorem gn_nil {P : PyData → Prop} : ∀ x ∈ ([] : List PyData), P x := fun x h => by cases h
theorem gn_cons {P : PyData → Prop} {x : PyData} {xs : List PyData} (h : P x) (hs : ∀ y ∈ xs, P y) : ∀ y ∈ x :: xs, P y := fun y hy => by
  rcases List.mem_cons.mp hy with rfl | hy
  · exact h
  · exact hs y hy
theorem gn_map {α : Type} {f : α → PyData} {l : List α} {P : PyData → Prop} (h : ∀ a ∈ l, P (f a)) : ∀ y ∈ l.map f, P y := fun y hy => by
  obtain ⟨a, ha, rfl⟩ := List.mem_map.mp hy
  exact h a ha
end
end SH
namespace SH
open PySem PySem.Spec PyProof.Rows L2 DL
def reachF (f : Str → Nat) (h : Hook) : Nat := max (f h.1) (f h.2.1)
def reachN (f : Str → Nat) (h : Hook) : Str → Nat := fun z => if touches z h = true then reachF f h + 1 else f z
def depthsL : (Str → Nat) → Row → List Nat
  | _, [] => []
  | f, h :: r => reachF f h :: depthsL (reachN f h) r
def depthsF (row : Row) : List Nat := depthsL (fun _ => 0) row
theorem look_put {es : List (Key × R)} {k j : Key} {r : R} : lookM (putM es k r) j = if j = k then some r else lookM es j := by
  unfold lookM putM
  by_cases c : (es.any fun e => decide (e.1 = k)) = true
  · rw [if_pos c]
    induction es with
    | nil => cases c
    | cons e es ih =>
      rw [List.map_cons, List.find?_cons]
      by_cases q : e.1 = k
      · rw [if_pos q]
        by_cases d : j = k
        · rw [if_pos d, decide_eq_true (show (e.1, r).1 = j by rw [q, d])]
          rfl
        · rw [if_neg d, decide_eq_false (show ¬ (e.1, r).1 = j by rw [q]; exact fun z => d z.symm), List.find?_cons, decide_eq_false (show ¬ e.1 = j by rw [q]; exact fun z => d z.symm)]
          have key : ∀ l : List (Key × R), ((l.map fun e => if e.1 = k then (e.1, r) else e).find? fun e => decide (e.1 = j)).map (·.2) = (l.find? fun e => decide (e.1 = j)).map (·.2) := fun l => by
            induction l with
            | nil => rfl
            | cons x l il =>
              rw [List.map_cons, List.find?_cons, List.find?_cons]
              by_cases y : x.1 = k
              · rw [if_pos y, decide_eq_false (show ¬ (x.1, r).1 = j by rw [y]; exact fun z => d z.symm)]
                exact il
              · rw [if_neg y]
                by_cases y2 : x.1 = j
                · rw [decide_eq_true y2]
                · rw [decide_eq_false y2]
                  exact il
          exact key es
      · rw [if_neg q]
        by_cases d : e.1 = j
        · have dk : ¬ j = k := fun z => q (d.trans z)
          rw [if_neg dk, List.find?_cons, decide_eq_true d]
        · rw [decide_eq_false d, List.find?_cons, decide_eq_false d]
          refine ih ?_
          rw [List.any_cons, decide_eq_false q, Bool.false_or] at c
          exact c
  · rw [if_neg c, List.find?_append]
    by_cases d : j = k
    · have n : (es.find? fun e => decide (e.1 = j)) = none := by
        rw [List.find?_eq_none]
        intro x hx hc
        exact c (List.any_eq_true.mpr ⟨x, hx, by rw [← d]; exact hc⟩)
      rw [if_pos d, n, List.find?_cons, decide_eq_true (show (k, r).1 = j from d.symm)]
      rfl
    · rw [if_neg d, List.find?_cons, decide_eq_false (show ¬ (k, r).1 = j from fun z => d z.symm)]
      simp
end SH
namespace SH
open PySem PySem.Spec PyProof.Rows L2 DL
section
variable {E : DEnds} {ok : Kap → Prop} {p0 p3 p4 p5 p6 : Option R}
end
end SH
namespace SH
open PySem PySem.Spec PyProof.Rows L2 DL
/-- how many groups, what stands in one -/
def manyF (ns : List Nat) : Nat := (maxI (-1) (ns.map fun (n : Nat) => (n : Int)) + 1).toNat
section
variable {E : DEnds} {ok : Kap → Prop} {p0 p1 p3 p4 p5 : Option R} {m : Nat}
end
end SH
namespace SH
open PySem PySem.Spec PyProof.Rows L2 DL
abbrev HN := Hook × Nat
def runsF (r : Row) : List Nat := (depthsF r.reverse).reverse
def ez (r : Row) : List HN := r.zip (runsF r)
end SH
namespace SH
open PySem PySem.Spec PyProof.Rows L2 DL
theorem split_at {α : Type} {f : α → Nat} {m : Nat} : ∀ {l : List α}, (l.Pairwise fun a b => f a < f b) → l.filter (fun x => decide (f x < m)) ++ l.filter (fun x => !decide (f x < m)) = l
  | [], _ => rfl
  | x :: l, h => by
    obtain ⟨h1, h2⟩ := List.pairwise_cons.mp h
    by_cases c : f x < m
    · rw [List.filter_cons_of_pos (by simpa using c), List.filter_cons_of_neg (by simpa using c), List.cons_append, split_at h2]
    · have e : l.filter (fun x => decide (f x < m)) = [] := by
        rw [List.filter_eq_nil_iff]
        intro y hy
        have := h1 y hy
        simp
        omega
      rw [List.filter_cons_of_neg (by simpa using c), List.filter_cons_of_pos (by simpa using c), e, List.nil_append]
      congr 1
      rw [List.filter_eq_self]
      intro y hy
      have := h1 y hy
      simp
      omega
end SH
namespace SH
open PySem PySem.Spec PyProof.Rows L2 DL
def hitAt (r : Row) (q p : Nat) : Bool := match r[q]?, r[p]? with
  | some h, some g => hits h g
  | _, _ => false
def lastN (l : List Nat) : Nat := l.getLast?.getD 0
def nextB (r : Row) (es : List Nat) (many : Nat) (found : List Nat) (p : Nat) : Bool := decide (es.getD p 0 + 1 + found.length = many) && (decide (found.length = 0) || hitAt r (lastN found) p)
def longS (r : Row) (es : List Nat) (many : Nat) (found : List Nat) (p : Nat) : List Nat := if nextB r es many found p = true then found ++ [p] else found
structure LInv (r : Row) (i : Nat) (l : List Nat) : Prop where
  at_ : ∀ t q, l[t]? = some q → q < i ∧ (runsF r).getD q 0 + t + 1 = manyF (depthsF r)
  chain : ∀ t q p, l[t]? = some q → l[t + 1]? = some p → q < p ∧ hitAt r q p = true
  bare : l = [] → ∀ p, p < i → (runsF r).getD p 0 + 1 ≠ manyF (depthsF r)
  miss : l ≠ [] → ∀ p, lastN l < p → p < i → hitAt r (lastN l) p = true → (runsF r).getD p 0 + 1 + l.length ≠ manyF (depthsF r)
theorem lastN_at {l : List Nat} (h : l ≠ []) : l[l.length - 1]? = some (lastN l) := by
  unfold lastN
  rw [← List.getLast?_eq_getElem?]
  cases q : l.getLast? with
  | none => exact absurd (List.getLast?_eq_none_iff.mp q) h
  | some x => rfl
theorem lastN_snoc (l : List Nat) (p : Nat) : lastN (l ++ [p]) = p := by unfold lastN; rw [List.getLast?_concat]; rfl
theorem LInv.nil (r : Row) : LInv r 0 [] := ⟨(fun t q h => by cases h), (fun t q p h => by cases h), (fun _ p h => by omega), fun h => absurd rfl h⟩
theorem LInv.step {r : Row} {i : Nat} {l : List Nat} (v : LInv r i l) : LInv r (i + 1) (longS r (runsF r) (manyF (depthsF r)) l i) := by
  unfold longS
  cases c : nextB r (runsF r) (manyF (depthsF r)) l i with
  | false =>
    rw [if_neg (by decide)]
    refine ⟨fun t q h => ?_, v.chain, fun h p hp => ?_, fun h p h1 h2 h3 => ?_⟩
    · have := v.at_ t q h
      exact ⟨by omega, this.2⟩
    · by_cases e : p = i
      · subst e
        intro e2
        subst h
        unfold nextB at c
        rw [List.length_nil, decide_eq_true (by omega)] at c
        cases c
      · exact v.bare h p (by omega)
    · by_cases e : p = i
      · subst e
        intro e2
        unfold nextB at c
        rw [decide_eq_true e2, h3, Bool.or_true] at c
        cases c
      · exact v.miss h p h1 (by omega) h3
  | true =>
    rw [if_pos rfl]
    unfold nextB at c
    rw [Bool.and_eq_true, Bool.or_eq_true, decide_eq_true_iff, decide_eq_true_iff] at c
    obtain ⟨c1, c2⟩ := c
    refine ⟨fun t q h => ?_, fun t q p h1 h2 => ?_, fun h => by simp at h, fun h p h1 h2 h3 => ?_⟩
    · by_cases e : t < l.length
      · rw [List.getElem?_append_left e] at h
        have := v.at_ t q h
        exact ⟨by omega, this.2⟩
      · have lt := (List.getElem?_eq_some_iff.mp h).1
        rw [List.length_append, List.length_singleton] at lt
        have et : t = l.length := by omega
        subst et
        rw [List.getElem?_append_right (Nat.le_refl _), Nat.sub_self] at h
        have : i = q := Option.some.inj h
        subst this
        exact ⟨by omega, by omega⟩
    · have lt := (List.getElem?_eq_some_iff.mp h2).1
      rw [List.length_append, List.length_singleton] at lt
      by_cases e : t + 1 < l.length
      · rw [List.getElem?_append_left e] at h2
        rw [List.getElem?_append_left (by omega)] at h1
        exact v.chain t q p h1 h2
      · have et : t + 1 = l.length := by omega
        rw [List.getElem?_append_left (by omega)] at h1
        rw [et, List.getElem?_append_right (Nat.le_refl _), Nat.sub_self] at h2
        have : i = p := Option.some.inj h2
        subst this
        have hl : l ≠ [] := fun e => by subst e; simp at et
        have la := lastN_at hl
        rw [show l.length - 1 = t by omega, h1] at la
        have eq : q = lastN l := Option.some.inj la
        refine ⟨(v.at_ t q h1).1, ?_⟩
        rw [eq]
        rcases c2 with c2 | c2
        · omega
        · exact c2
    · rw [lastN_snoc] at h1
      omega
end SH
namespace SH
open PySem PySem.Spec PyProof.Rows L2 DL
section
variable {ρ : Rho} {κ κ1 : Kap} {wa wb wc : DTE} {wr : DTA} {x y z u : PyData} {xs : List PyData} {ns ms : List Nat} {r q : Row} {n : Nat}
end
section
variable {ρ : Rho} {κ : Kap} {wa wb : DTE} {x y : PyData}
end
end SH
namespace SH
open PySem PySem.Spec PyProof.Rows L2 DL
theorem s_chainL {g g' : PyData → PyData → Option Out} {wa wb wc : DTE} {ρ : Rho} {κ : Kap} {P : R → Kap → Prop} : wChain g g' wa wb wc ρ κ P = wa ρ κ fun r1 κ1 => wb ρ κ1 fun r2 κ2 => Opt (val κ2 r1.st) fun x => Opt (val κ2 r2.st) fun y => Opt (g x y) fun o => match o with
  | .v (.bool z) => if z = true then wc ρ κ2 fun r3 κ3 => Opt (val κ3 r2.st) fun y' => Opt (val κ3 r3.st) fun u => Opt (g' y' u) fun o' => P o'.r κ3 else P (.d (.bool false)) κ2
  | _ => False := rfl
end SH
namespace SH
open PySem PySem.Spec PyProof.Rows L2 DL
section
variable {ρ : Rho} {κ : Kap} {wa wb : DTE} {wr : DTA} {x y z : PyData} {bs xs : List PyData}
theorem lend_all {k : Nat} {ys : List PyData} (hκ : κ[k]? = some (.l bs)) : lend κ (.c k :: ys.map .d) = some (k, bs, ys.map .d, κ) := by
  rw [lend_c, args_all]
  simp only [hκ]
/-- a call that is lent the box, of things that are known -/
theorem box_call {Φ : List PyData → List R → (R → List PyData → Prop) → Prop} {Q : R → Kap → Prop} {ys : List PyData} (h0 : ρ[(0 : Nat)]? = some (some (.c 0))) (hκ : κ[(0 : Nat)]? = some (.l bs)) (h : Gc wr ρ κ (ys.map .d)) (hΦ : Φ bs (ys.map .d) fun r bs' => Q (r.lab 0) (κ.set 0 (.l bs'))) : wCallL Φ (wCons (wVar 0) wr) ρ κ Q := by
  rw [s_callL, s_cons, s_var, h0]
  refine h _ ?_
  rw [show (R.c 0).st = R.c 0 from rfl, lend_all hκ, Opt_some]
  exact hΦ
theorem box_take {Q : R → Kap → Prop} {N b : Int} (h0 : ρ[(0 : Nat)]? = some (some (.c 0))) (hκ : κ[(0 : Nat)]? = some (.l bs)) (hb : Box N bs) (hN : N < 2 ^ 40) (ha : Gv wa ρ κ (.int b)) (b0 : 0 < b) (b1 : b < 2 ^ 30)
    (k : ∀ (z : Int) (bs' : List PyData), 0 ≤ z → z < b → Box (N + 1) bs' → Q (.d (.int z)) (κ.set 0 (.l bs'))) : wCallL Ph_law_take (wCons (wVar 0) (wCons wa wNil)) ρ κ Q :=
  box_call (ys := [.int b]) h0 hκ (gc_cons ha gc_nil) ⟨N, b, hb, hN, rfl, b0, b1, fun z bs' z0 z1 hb' => k z bs' z0 z1 hb'⟩
theorem set0 {κ : Kap} {bs bs' : List PyData} (h : κ[(0 : Nat)]? = some (.l bs)) : (κ.set 0 (.l bs'))[(0 : Nat)]? = some (.l bs') := List.getElem?_set_self (List.getElem?_eq_some_iff.mp h).1
theorem setj {κ : Kap} {c d : Cell} {j : Nat} (hj : j ≠ 0) (h : κ[j]? = some c) : (κ.set 0 d)[j]? = some c := by rw [List.getElem?_set_ne (by omega)]; exact h
end
end SH
namespace GV
open PySem PySem.Spec PyProof.Rows L2 DL SH
theorem gv_mapT {ρ : Rho} {κ : Kap} {wa wb : DTE} {α : Type} {f e : α → PyData} {l : List α} {g : DTG} {vs : List Nat} (h : Gv wa ρ κ (.tuple (l.map f))) (len : l.length ≤ 1000000)
    (step : ∀ x ∈ l, ∀ C : R → Kap → Prop, C (.d (e x)) κ → g (.d (f x)) (wipeR ρ vs) κ fun ρ1 κ1 => wb ρ1 κ1 C) : Gv (wLc (wSq wa) g wYes wb vs) ρ κ (.list (l.map e)) := fun Q k => by
  rw [s_lc, s_sq]
  refine h _ fun r hr => ?_
  rw [hr, val_d, Opt_some]
  dsimp only
  refine lc_map f e (by exact val_d ..) l [] (by rw [List.length_nil, sizeLine_eq]; omega) step ?_
  rw [List.nil_append]
  exact k _ rfl
theorem gv_tup3 {ρ : Rho} {κ : Kap} {wa wb wc : DTE} {x y u : PyData} (ha : Gv wa ρ κ x) (hb : Gv wb ρ κ y) (hc : Gv wc ρ κ u) : Gv (wTup (wCons wa (wCons wb (wCons wc wNil)))) ρ κ (.tuple [x, y, u]) := gv_tup (ga_cons ha (ga_cons hb (ga_cons hc ga_nil))) (by simp)
end GV
namespace TX
open PySem PySem.Spec PyProof.Rows L2 DL
open SH (letterB ropeB hookB ltD senseB IsName HookIn hookD Hook)
def okN (u : List Nat) : Bool := decide (1 ≤ u.length) && decide (u.length ≤ 6) && u.all letterB
theorem okN_rope (u : List Nat) : ropeB (.str (mkS u)) = okN u := rfl
theorem okN_not {u : List Nat} {c : Nat} (h : okN u = true) (hc : c < 97 ∨ 122 < c) : c ∉ u := by
  unfold okN at h
  rw [Bool.and_eq_true, List.all_eq_true] at h
  intro hm
  have := h.2 c hm
  unfold letterB at this
  rw [Bool.and_eq_true, decide_eq_true_iff, decide_eq_true_iff] at this
  omega
theorem okN_name {z : Str} (h : IsName z) : okN (cs z) = true := by
  unfold okN
  rw [decide_eq_true h.1, decide_eq_true h.2.1, Bool.and_self, Bool.true_and, List.all_eq_true]
  intro c hc
  have := h.2.2 c hc
  unfold letterB
  rw [decide_eq_true this.1, decide_eq_true this.2]
  rfl
theorem name_okN {u : List Nat} (h : okN u = true) : IsName (mkS u) := SH.ropeB_iff.mp h
def fitB (u v : List Nat) : Bool := okN u && okN v && decide (u < v)
def fitW (s : Int) : List (List Nat) → PyData
  | [u, v] => if fitB u v = true then .tuple [.str (mkS u), .str (mkS v), .int s] else .none
  | _ => .none
def wordD (w : Str) : PyData := if 45 ∈ cs w then fitW 1 (splitL 45 (cs w)) else fitW (-1) (splitL 126 (cs w))
theorem hook_fit {u v : List Nat} {s : Int} (hs : s = 1 ∨ s = -1) : hookB (.tuple [.str (mkS u), .str (mkS v), .int s]) = fitB u v := by
  have h1 : senseB (.int s) = true := by rcases hs with rfl | rfl <;> rfl
  show (senseB (.int s) && (ropeB (.str (mkS u)) && (ropeB (.str (mkS v)) && ltD (.str (mkS u)) (.str (mkS v))))) = _
  rw [h1, okN_rope, okN_rope, Bool.true_and]
  unfold fitB
  rw [Bool.and_assoc]
  rfl
theorem hook_part {w : Str} {c : Nat} {s : Int} (hc : c < 97 ∨ 122 < c) (hs : s = 1 ∨ s = -1) (h : c ∈ cs w) : ∃ u v, Txt.partition w ⟨#[c]⟩ = (mkS u, ⟨#[c]⟩, mkS v) ∧ cs w = u ++ c :: v ∧ fitW s (splitL c (cs w)) = if fitB u v = true then .tuple [.str (mkS u), .str (mkS v), .int s] else .none := by
  obtain ⟨u, v, e, n⟩ := cut_first h
  refine ⟨u, v, part_yes e n, e, ?_⟩
  rw [e, splitL_app n]
  by_cases q : c ∈ v
  · have : fitB u v = false := by
      cases hv : okN v with
      | false => unfold fitB; rw [hv, Bool.and_false, Bool.false_and]
      | true => exact absurd q (okN_not hv hc)
    rw [this, if_neg (by decide)]
    obtain ⟨a, b, e2, n2⟩ := cut_first q
    rw [e2, splitL_app n2]
    cases e3 : splitL c b with
    | nil => exact absurd e3 (splitL_ne c b)
    | cons y ys => rfl
  · rw [splitL_self q]
    rfl
theorem other_no {u v : List Nat} {c d : Nat} (hd : d < 97 ∨ 122 < d) (hne : d ≠ c) (h : d ∈ u ++ c :: v) : fitB u v = false := by
  unfold fitB
  rcases List.mem_append.mp h with z | z
  · cases hu : okN u with
    | false => rw [Bool.false_and, Bool.false_and]
    | true => exact absurd z (okN_not hu hd)
  · rcases List.mem_cons.mp z with z | z
    · exact absurd z hne
    · cases hv : okN v with
      | false => rw [Bool.and_false, Bool.false_and]
      | true => exact absurd z (okN_not hv hd)
theorem fitW_is (s : Int) (hs : s = 1 ∨ s = -1) (l : List (List Nat)) : fitW s l = .none ∨ ∃ h : Hook, HookIn h ∧ fitW s l = hookD h := by
  unfold fitW
  split
  · rename_i u v
    split
    · rename_i h
      right
      unfold fitB at h
      rw [Bool.and_eq_true, Bool.and_eq_true] at h
      exact ⟨(mkS u, mkS v, s), ⟨name_okN h.1.1, name_okN h.1.2, of_decide_eq_true h.2, hs⟩, rfl⟩
    · exact .inl rfl
  · exact .inl rfl
theorem wordD_is (w : Str) : wordD w = .none ∨ ∃ h : Hook, HookIn h ∧ wordD w = hookD h := by
  unfold wordD
  split
  · exact fitW_is 1 (.inl rfl) _
  · exact fitW_is (-1) (.inr rfl) _
def noneB : PyData → Bool
  | .none => true
  | _ => false
def dot : Str := ⟨#[46]⟩
def gap : Str := ⟨#[32]⟩
def wordsT (z : Str) : List Str := (splitL 32 (cs z)).map mkS
theorem split_gap (z : Str) : Txt.split z gap = wordsT z := split_eq z (by decide)
/-- what a text writes -/
def readT (z : Str) : Option (List PyData) := if z = dot then some [] else if ((wordsT z).map wordD).any noneB = true then none else some ((wordsT z).map wordD)
theorem readT_hooks {z : Str} {l : List PyData} (h : readT z = some l) : ∀ d ∈ l, ∃ g : Hook, HookIn g ∧ d = hookD g := by
  unfold readT at h
  split at h
  · cases h
    intro d hd
    cases hd
  · split at h
    · cases h
    · rename_i hn
      cases h
      intro d hd
      obtain ⟨w, hw, rfl⟩ := List.mem_map.mp hd
      rcases wordD_is w with e | ⟨g, hg, e⟩
      · refine absurd ?_ hn
        rw [List.any_eq_true]
        exact ⟨wordD w, List.mem_map.mpr ⟨w, hw, rfl⟩, by rw [e]; rfl⟩
      · exact ⟨g, hg, e⟩
def sgT (h : Hook) : Nat := if h.2.2 = 1 then 45 else 126
def hkT (h : Hook) : Str := mkS (cs h.1 ++ sgT h :: cs h.2.1)
def rowT (r : List Hook) : Str := if r = [] then dot else mkS (joinL 32 (r.map fun h => cs (hkT h)))
theorem word_hook {h : Hook} (a : HookIn h) : wordD (hkT h) = hookD h := by
  obtain ⟨n1, n2, lt, hs⟩ := a
  have k1 := okN_name n1
  have k2 := okN_name n2
  have ef : fitB (cs h.1) (cs h.2.1) = true := by
    unfold fitB
    rw [k1, k2, decide_eq_true (show cs h.1 < cs h.2.1 from lt)]
    rfl
  unfold wordD hkT
  rw [cs_mk]
  rcases hs with e | e
  · have es : sgT h = 45 := if_pos e
    rw [es, if_pos (by simp), splitL_app (okN_not k1 (by omega)), splitL_self (okN_not k2 (by omega))]
    show (if fitB (cs h.1) (cs h.2.1) = true then _ else _) = _
    rw [if_pos ef, mk_cs, mk_cs, ← e]
    rfl
  · have es : sgT h = 126 := if_neg (by rw [e]; decide)
    have no : 45 ∉ cs h.1 ++ 126 :: cs h.2.1 := by
      intro q
      rcases List.mem_append.mp q with q | q
      · exact okN_not k1 (by omega) q
      · rcases List.mem_cons.mp q with q | q
        · omega
        · exact okN_not k2 (by omega) q
    rw [es, if_neg no, splitL_app (okN_not k1 (by omega)), splitL_self (okN_not k2 (by omega))]
    show (if fitB (cs h.1) (cs h.2.1) = true then _ else _) = _
    rw [if_pos ef, mk_cs, mk_cs, ← e]
    rfl
theorem hkT_no {h : Hook} (a : HookIn h) : 32 ∉ cs (hkT h) := by
  intro q
  have q : 32 ∈ cs h.1 ++ sgT h :: cs h.2.1 := q
  rcases List.mem_append.mp q with q | q
  · exact okN_not (okN_name a.1) (by omega) q
  · rcases List.mem_cons.mp q with q | q
    · unfold sgT at q
      split at q <;> omega
    · exact okN_not (okN_name a.2.1) (by omega) q
theorem hkT_len {h : Hook} (a : HookIn h) : 3 ≤ (cs (hkT h)).length ∧ (cs (hkT h)).length ≤ 13 := by
  have e : (cs (hkT h)).length = (cs h.1).length + ((cs h.2.1).length + 1) := by
    show (cs h.1 ++ sgT h :: cs h.2.1).length = _
    rw [List.length_append, List.length_cons]
  have := a.1.1; have := a.1.2.1; have := a.2.1.1; have := a.2.1.2.1
  have e1 : (cs h.1).length = (SH.cs h.1).length := rfl
  have e2 : (cs h.2.1).length = (SH.cs h.2.1).length := rfl
  omega
theorem hkT_ok {h : Hook} (a : HookIn h) : ∀ c ∈ cs (hkT h), c < 128 := by
  intro c q
  have q : c ∈ cs h.1 ++ sgT h :: cs h.2.1 := q
  rcases List.mem_append.mp q with q | q
  · have := (a.1.2.2 c q).2; omega
  · rcases List.mem_cons.mp q with q | q
    · unfold sgT at q
      split at q <;> omega
    · have := (a.2.1.2.2 c q).2; omega
theorem joinL_len : ∀ ws : List (List Nat), (joinL 32 ws).length ≤ lenS ws + ws.length
  | [] => by simp [joinL]
  | [x] => by simp [joinL, lenS]
  | x :: y :: xs => by
    have := joinL_len (y :: xs)
    rw [joinL, List.length_append, List.length_cons]
    simp only [lenS, List.length_cons] at this ⊢
    omega
theorem joinL_in {c d : Nat} : ∀ {ws : List (List Nat)}, d ∈ joinL c ws → d = c ∨ ∃ w ∈ ws, d ∈ w
  | [], h => by cases h
  | [x], h => .inr ⟨x, List.mem_cons_self .., h⟩
  | x :: y :: xs, h => by
    rw [joinL] at h
    rcases List.mem_append.mp h with h | h
    · exact .inr ⟨x, List.mem_cons_self .., h⟩
    · rcases List.mem_cons.mp h with h | h
      · exact .inl h
      · rcases joinL_in h with h | ⟨w, hw, h⟩
        · exact .inl h
        · exact .inr ⟨w, List.mem_cons_of_mem _ hw, h⟩
theorem rowT_read {r : List Hook} (h : ∀ x ∈ r, HookIn x) : readT (rowT r) = some (r.map hookD) := by
  unfold readT rowT
  by_cases q : r = []
  · subst q
    rw [if_pos rfl, if_pos rfl]
    rfl
  · rw [if_neg q]
    have hne : (r.map fun x => cs (hkT x)) ≠ [] := by simpa using q
    have hsp : splitL 32 (joinL 32 (r.map fun x => cs (hkT x))) = r.map fun x => cs (hkT x) := split_join hne fun w hw => by
      obtain ⟨x, hx, rfl⟩ := List.mem_map.mp hw
      exact hkT_no (h x hx)
    have nd : mkS (joinL 32 (r.map fun x => cs (hkT x))) ≠ dot := by
      intro e
      have e : joinL 32 (r.map fun x => cs (hkT x)) = [46] := congrArg cs e
      rw [e] at hsp
      have e2 : splitL 32 [46] = [[46]] := rfl
      rw [e2] at hsp
      cases r with
      | nil => exact q rfl
      | cons x xs =>
        rw [List.map_cons] at hsp
        have := (List.cons.inj hsp).1
        have l := (hkT_len (h x (List.mem_cons_self ..))).1
        rw [← this] at l
        exact absurd l (by decide)
    rw [if_neg nd]
    have ew : wordsT (mkS (joinL 32 (r.map fun x => cs (hkT x)))) = r.map hkT := by
      unfold wordsT
      rw [cs_mk, hsp, List.map_map]
      exact List.map_congr_left fun x _ => mk_cs _
    rw [ew, List.map_map]
    have em : r.map (wordD ∘ hkT) = r.map hookD := List.map_congr_left fun x hx => word_hook (h x hx)
    rw [em, if_neg]
    rw [List.any_eq_true]
    rintro ⟨d, hd, hn⟩
    obtain ⟨x, _, rfl⟩ := List.mem_map.mp hd
    cases hn
theorem rowT_ok {r : List Hook} (h : ∀ x ∈ r, HookIn x) : ∀ c ∈ cs (rowT r), c < 128 := by
  intro c hc
  unfold rowT at hc
  split at hc
  · have : c = 46 := by simpa [dot, cs] using hc
    omega
  · rw [cs_mk] at hc
    rcases joinL_in hc with rfl | ⟨w, hw, hc⟩
    · omega
    · obtain ⟨x, hx, rfl⟩ := List.mem_map.mp hw
      exact hkT_ok (h x hx) c hc
theorem lenS_le {n : Nat} : ∀ {ws : List (List Nat)}, (∀ w ∈ ws, w.length ≤ n) → lenS ws ≤ n * ws.length
  | [], _ => by simp [lenS]
  | w :: ws, h => by
    have := lenS_le (n := n) (ws := ws) fun w hw => h w (List.mem_cons_of_mem _ hw)
    have := h w (List.mem_cons_self ..)
    rw [lenS, List.length_cons, Nat.mul_add, Nat.mul_one]
    omega
theorem rowT_len {r : List Hook} (h : ∀ x ∈ r, HookIn x) : (rowT r).length ≤ 14 * r.length + 1 := by
  unfold rowT
  split
  · rename_i e
    subst e
    decide
  · rw [← cs_len, cs_mk]
    have h1 := joinL_len (r.map fun x => cs (hkT x))
    have h2 := lenS_le (n := 13) (ws := r.map fun x => cs (hkT x)) fun w hw => by
      obtain ⟨x, hx, rfl⟩ := List.mem_map.mp hw
      exact (hkT_len (h x hx)).2
    rw [List.length_map] at h1 h2
    omega
theorem cs_join (c : Nat) : ∀ ws : List Str, cs (Txt.join ⟨#[c]⟩ ws) = joinL c (ws.map cs) := by
  intro l
  rw [SH.join_eq]
  induction l with
  | nil => rfl
  | cons x l ih =>
    cases l with
    | nil => rfl
    | cons y l =>
      show SH.cs (x ++ (⟨#[c]⟩ : Str) ++ Str.join ⟨#[c]⟩ (y :: l)) = _
      rw [SH.cs_app, SH.cs_app]
      show cs x ++ [c] ++ cs (Str.join ⟨#[c]⟩ (y :: l)) = _
      rw [ih]
      simp [joinL]
theorem splitL_in {c d : Nat} : ∀ {l : List Nat} {p : List Nat}, p ∈ splitL c l → d ∈ p → d ∈ l
  | [], p, hp, hd => by
    have : p = [] := by simpa [splitL] using hp
    rw [this] at hd
    cases hd
  | x :: xs, p, hp, hd => by
    by_cases q : x = c
    · rw [splitL, if_pos q] at hp
      rcases List.mem_cons.mp hp with rfl | hp
      · cases hd
      · exact List.mem_cons_of_mem _ (splitL_in hp hd)
    · cases e : splitL c xs with
      | nil => exact absurd e (splitL_ne c xs)
      | cons y ys =>
        rw [splitL_cons q e] at hp
        rcases List.mem_cons.mp hp with rfl | hp
        · rcases List.mem_cons.mp hd with rfl | hd
          · exact List.mem_cons_self ..
          · exact List.mem_cons_of_mem _ (splitL_in (by rw [e]; exact List.mem_cons_self ..) hd)
        · exact List.mem_cons_of_mem _ (splitL_in (by rw [e]; exact List.mem_cons_of_mem _ hp) hd)
end TX
namespace SH
open PySem PySem.Spec PyProof.Rows L2 DL
section
variable {ρ : Rho} {κ : Kap} {wa wb : DTE} {x y : PyData} {xs : List PyData}
end
section
variable {E : DEnds} {ok : Kap → Prop} {ns : List Str} {p2 p4 p5 p6 p7 p8 : Option R}
end
end SH
namespace DL
open PySem PySem.Spec PyProof.Rows L2
section
variable {X : Cx} {a b : Expr} {wa wb : DTE} {pos : Pos}
end
end DL
namespace DL
open PySem PySem.Spec PyProof.Rows L2
section
variable {X : Cx} {e : Expr} {te : TE} {wa : DTE} {k : Nat} {p1 p2 p3 pos : Pos}
end
end DL
namespace SH
open PySem PySem.Spec PyProof.Rows L2 DL
section
variable {bs : List PyData} {x : PyData} {E : DEnds} {κ : Kap} {b d s : Nat}
def I5 (i : Int) : List PyData := [.int (i + 1), .int (i - 1), .int (0 - i), .str ((toString i : String) : Str), .bool (decide (i = 1))]
def S5 (z : Str) : List PyData := [.str (z ++ ("a" : Str)), .str (cutS z (some 1) none), .str (Txt.upper z), .str (z ++ (" " : Str)), .tuple [.str z]]
end
section
variable {n b s : Nat} {t : Bool} {xs : List PyData} {Pd : R → List PyData → Prop} {bs : List PyData} {N : Int}
end
end SH
namespace DL
open PySem PySem.Spec PyProof.Rows L2
section
variable {X : Cx} {es : List Expr} {wr : DTA} {pos : Pos}
end
section
variable {X : Cx} {a b : Expr} {wa wb : DTE} {pos : Pos}
end
section
variable {K : PySem.W.Frag} {G H G' H' G1 H1 G2 H2 : Hp} {As As' As1 : List Addr} {κ κ' κ1 κ2 κ3 : Kap} {v : V} {r : R}
end
end DL
namespace DL
open PySem PySem.Spec PyProof.Rows L2
/-- a list that nobody else knows, or one that is known for good -/
def NewOk (K : PySem.W.Frag) (G H : Hp) (a : Addr) : Cell → Prop
  | .l xs => G a = none ∧ ∃ ws, H a = some (.lst ws) ∧ RpA K G ws xs
  | .z x => Rp K G (.ref a) x
  | _ => False
theorem NewOk.cell {K : PySem.W.Frag} {G H : Hp} {As : List Addr} {a : Addr} {c : Cell} (h : NewOk K G H a c) : CellOk K G H As a c := by
  cases c with
  | l xs => exact ⟨h.1, h.2⟩
  | z x => exact h
  | _ => exact h.elim
theorem NewOk.at {K : PySem.W.Frag} {G H : Hp} {a : Addr} {c : Cell} (e : Ex G H) (h : NewOk K G H a c) : ∃ o, H a = some o := by
  cases c with
  | l xs => exact ⟨_, h.2.choose_spec.1⟩
  | z x =>
    have h : Rp K G (.ref a) x := h
    cases h with
    | lst z1 z2 => exact ⟨_, e _ _ z1⟩
    | tup z1 z2 => exact ⟨_, e _ _ z1⟩
  | _ => exact h.elim
/-- a tuple whose lists nobody else changes -/
def Tf (K : PySem.W.Frag) (H0 G H : Hp) (As : List Addr) (v : V) (yss : List Cell) : Prop := ∃ (p : Addr) (as : List Addr), v = .ref p ∧ G p = some (.tup (as.map V.ref)) ∧ as.Nodup ∧ as.length = yss.length ∧
  ∀ (i : Nat) (a : Addr) (xs : Cell), as[i]? = some a → yss[i]? = some xs → H0 a = none ∧ a ∉ As ∧ NewOk K G H a xs
/-- the places of cells that are put behind -/
def newP (n : Nat) (yss : List Cell) : List Nat := List.range' n yss.length
section
variable {K : PySem.W.Frag} {G H G' H' G1 H1 H0 : Hp} {As As' As1 : List Addr} {σ : L2.St} {ρ : Rho} {κ κ' : Kap} {v : V} {r : R}
theorem Cells.moreA : ∀ {as : List Addr} {yss : List Cell} {As : List Addr} {κ : Kap}, Cells K G H As κ → as.Nodup → as.length = yss.length → (∀ (i : Nat) (a : Addr) (xs : Cell), as[i]? = some a → yss[i]? = some xs → a ∉ As ∧ NewOk K G H a xs) → Cells K G H (As ++ as) (κ ++ yss)
  | [], [], As, κ, c, _, _, _ => by simpa using c
  | [], _ :: _, As, κ, c, _, h, _ => by cases h
  | _ :: _, [], As, κ, c, _, h, _ => by cases h
  | a :: as, xs :: yss, As, κ, c, nd, hl, h => by
    obtain ⟨nin, ok⟩ := h 0 a xs rfl rfl
    obtain ⟨na, nd'⟩ := List.nodup_cons.mp nd
    obtain ⟨o, ho⟩ := ok.at c.ext
    have c1 := c.moreC nin ho (ok.cell (As := As ++ [a]))
    have := Cells.moreA (as := as) (yss := yss) c1 nd' (by simpa using hl) fun i b ys h1 h2 => by
      obtain ⟨q2, q3⟩ := h (i + 1) b ys (by simpa using h1) (by simpa using h2)
      refine ⟨fun hm => ?_, q3⟩
      rcases List.mem_append.mp hm with z | z
      · exact q2 z
      · rw [List.mem_singleton] at z
        subst z
        exact na (List.mem_of_getElem? h1)
    rw [List.append_assoc, List.append_assoc] at this
    exact this
/-- what a call told becomes cells -/
theorem Tf.cells {yss : List Cell} (s : Step G1 H1 As1 G H As) (c : Cells K G H As κ) (t : Tf K H1 G H As v yss) : ∃ as, Step G1 H1 As1 G H (As ++ as) ∧ Cells K G H (As ++ as) (κ ++ yss) ∧ It K G (As ++ as) v (.p (newP κ.length yss)) := by
  obtain ⟨p, as, rfl, hp, nd, hl, h⟩ := t
  refine ⟨as, ?_, c.moreA nd hl fun i a xs h1 h2 => (h i a xs h1 h2).2, p, as.map V.ref, rfl, hp, by rw [List.length_map, newP, List.length_range', hl], fun i k hk => ?_⟩
  · obtain ⟨bs, e⟩ := s.pre
    refine ⟨s.ex, ⟨bs ++ as, by rw [e, List.append_assoc]⟩, fun a ha => ?_, s.fr, s.dom, s.gn⟩
    rcases List.mem_append.mp ha with z | z
    · exact s.new a z
    · obtain ⟨i, hi, ei⟩ := List.getElem_of_mem z
      have h1 : as[i]? = some a := by rw [List.getElem?_eq_getElem hi, ei]
      have h2 : yss[i]? = some (yss[i]'(by omega)) := List.getElem?_eq_getElem _
      exact .inr (h i a _ h1 h2).1
  · obtain ⟨li, ek⟩ := List.getElem?_eq_some_iff.mp hk
    unfold newP at li ek
    rw [List.length_range'] at li
    rw [List.getElem_range', Nat.one_mul] at ek
    have hi : i < as.length := by omega
    refine ⟨as[i], ?_, by rw [List.getElem?_map, List.getElem?_eq_getElem hi]; rfl⟩
    rw [← ek, ← c.len, List.getElem?_append_right (by omega), show As.length + i - As.length = i by omega, List.getElem?_eq_getElem hi]
theorem Tf.wide {yss : List Cell} (c : Cells K G H As κ) (t : Tf K H G' H' As1 v yss) : Tf K H G' H' As v yss := by
  obtain ⟨p, as, rfl, hp, nd, hl, h⟩ := t
  exact ⟨p, as, rfl, hp, nd, hl, fun i a xs h1 h2 => by
    obtain ⟨q1, _, q4⟩ := h i a xs h1 h2
    exact ⟨q1, c.notin q1, q4⟩⟩
theorem Tf.back {yss : List Cell} {G0 : Hp} {As0 As1 : List Addr} (s : Step G0 H0 As0 G1 H1 As1) (t : Tf K H1 G H As v yss) : Tf K H0 G H As v yss := by
  obtain ⟨p, as, rfl, hp, nd, hl, h⟩ := t
  exact ⟨p, as, rfl, hp, nd, hl, fun i a xs h1 h2 => by
    obtain ⟨q1, q2⟩ := h i a xs h1 h2
    exact ⟨s.dom a q1, q2⟩⟩
end
section
variable {X : Cx} {k n : Nat} {ps : List Str} {x : Str} {p pos : Pos} {e : Expr} {es : List Expr} {wr : DTA}
end
section
variable {P : Program} {w : World} {K : PySem.W.Frag} {mg : Str → Option Value} {base : Heap} {x qual : Str} {st : Stmt} {f : Addr} {fd : FuncData} {N ps : List Str} {k : Nat}
end
end DL
namespace DL
open PySem PySem.Spec PyProof.Rows L2
abbrev DTK := Rho → Kap → (Key → Nat → Kap → Prop) → Prop
def KR (G : Hp) (As : List Addr) (v : V) (q : Key) (j : Nat) : Prop := ∃ t a, v = .ref t ∧ G t = some (.tup [kV q, .ref a]) ∧ As[j]? = some a
theorem KR.mono {G G' : Hp} {As As' : List Addr} {v : V} {q : Key} {j : Nat} (h : KR G As v q j) (e : Ex G G') (p : ∃ bs, As' = As ++ bs) : KR G' As' v q j := by
  obtain ⟨bs, rfl⟩ := p
  obtain ⟨t, a, rfl, h1, h2⟩ := h
  exact ⟨t, a, rfl, e _ _ h1, by rw [List.getElem?_append_left (List.getElem?_eq_some_iff.mp h2).1]; exact h2⟩
def RefsK (G : Hp) (As : List Addr) (vs : List V) (es : List (Key × R)) : Prop := Paired (fun v (e : Key × R) => ∃ j, e.2 = .c j ∧ KR G As v e.1 j) vs es
theorem RefsK.nil {G : Hp} {As : List Addr} : RefsK G As [] [] := Paired.nil
theorem RefsK.len {G : Hp} {As : List Addr} {vs : List V} {es : List (Key × R)} (h : RefsK G As vs es) : vs.length = es.length := Paired.length h
theorem RefsK.mono {G G' : Hp} {As As' : List Addr} {vs : List V} {es : List (Key × R)} (h : RefsK G As vs es) (e : Ex G G') (p : ∃ bs, As' = As ++ bs) : RefsK G' As' vs es :=
  Paired.mapP h fun v x ⟨j, h1, h2⟩ => ⟨j, h1, h2.mono e p⟩
theorem RefsK.snoc {G : Hp} {As : List Addr} {vs : List V} {es : List (Key × R)} {v : V} {y : Key} {j : Nat} (h : RefsK G As vs es) (k : KR G As v y j) : RefsK G As (vs ++ [v]) (es ++ [(y, R.c j)]) := by
  unfold RefsK at h ⊢
  induction h with
  | nil => exact .cons ⟨j, rfl, k⟩ .nil
  | cons q t ih => exact .cons q ih
theorem RefsK.pairs {K : PySem.W.Frag} {G : Hp} {As : List Addr} {vs : List V} {es : List (Key × R)} (h : RefsK G As vs es) : ∃ (as : List Addr) (kvs : List (Key × V)), vs = as.map V.ref ∧ Paired (fun p (kv : Key × V) => G p = some (.tup [kV kv.1, kv.2])) as kvs ∧ Mp K G As kvs es := by
  unfold RefsK at h
  induction h with
  | nil => exact ⟨[], [], rfl, .nil, .nil⟩
  | @cons v e vs es q _ ih =>
    obtain ⟨as, kvs, e1, q1, q2⟩ := ih
    obtain ⟨j, ej, t, a, rfl, h1, h2⟩ := q
    obtain ⟨k, r⟩ := e
    dsimp only at ej
    subst ej
    exact ⟨t :: as, (k, .ref a) :: kvs, by rw [e1]; rfl, .cons h1 q1, .cons ⟨rfl, a, h2, rfl⟩ q2⟩
section
variable {X : Cx} {elt tg iter : Expr} {ifs : List Expr} {scope : Scope} {own : List (Str × Nat)} {pos : Pos} {wi : DTI} {g : DTG} {wt : DTT} {we : DTK} {js : List Nat}
end
section
variable {X : Cx} {e tg o i : Expr} {we wo wi : DTE} {wg : DTG} {js : List Nat} {pos : Pos}
end
end DL
namespace DL
open PySem PySem.Spec PyProof.Rows L2
section
variable {X : Cx} {k n : Nat} {ps : List Str} {x : Str} {p pos : Pos} {e : Expr} {es : List Expr} {wr : DTA}
end
section
variable {P : Program} {w : World} {K : PySem.W.Frag} {mg : Str → Option Value} {base : Heap} {x qual : Str} {st : Stmt} {f : Addr} {fd : FuncData} {N ps : List Str} {k : Nat}
end
end DL
namespace DL
open PySem PySem.Spec PyProof.Rows L2
section
variable {X : Cx}
end
end DL
namespace DL
open PySem PySem.Spec PyProof.Rows L2
section
variable {X : Cx} {pins : List (Addr × Obj)} {σ : L2.St} {H : Hp} {s : Shared}
end
section
variable {X : Cx} {e : Expr} {we : DTE} {p pos : Pos}
end
end DL
namespace DL
open PySem PySem.Spec PyProof.Rows L2
section
variable {X : Cx}
end
section
variable {X : Cx} {e : Expr} {we : DTE} {p pos : Pos}
end
section
variable {X : Cx} {k n : Nat} {ps : List Str} {x : Str} {p pos : Pos} {e : Expr} {es : List Expr} {wr : DTA}
end
section
variable {P : Program} {w : World} {K : PySem.W.Frag} {mg : Str → Option Value} {base : Heap} {x qual : Str} {st : Stmt} {f : Addr} {fd : FuncData} {N ps : List Str} {k : Nat}
end
end DL
namespace DL
open PySem PySem.Spec PyProof.Rows L2
section
variable {X : Cx} {e : Expr} {we : DTE} {p pos : Pos}
end
end DL
namespace DL
open PySem PySem.Spec PyProof.Rows L2
abbrev b1 (b : Bool) : Int := if b = true then 1 else 0
end DL
namespace SHb
open PySem PySem.Spec PyProof.Rows L2 DL SH
section
variable {bs : List PyData} {x : PyData} {E : DEnds} {κ : Kap} {b d s : Nat}
end
section
variable {n b s : Nat} {t : Bool} {xs : List PyData} {Pd : R → List PyData → Prop} {bs : List PyData} {N : Int}
end
end SHb
namespace WB
open PySem PySem.Spec PyProof.Rows L2 DL SH
scoped instance (priority := 100000) keyBEq : BEq Key := instBEqOfDecidableEq
scoped instance (priority := 100000) keyLaw : LawfulBEq Key := inferInstanceAs (@LawfulBEq Key instBEqOfDecidableEq)
abbrev End := Str × Int × Int
abbrev Line := Str × List End
abbrev Web := List Line
def endD (e : End) : PyData := .tuple [.str e.1, .int e.2.1, .int e.2.2]
def endsD (es : List End) : List PyData := es.map endD
def lineD (l : Line) : PyData := .tuple [.str l.1, .tuple (endsD l.2)]
def webD (L : Web) : PyData := .tuple (L.map lineD)
def mk (e : End) : Key := .inl e.2.2
def marks (L : Web) : List Key := L.flatMap fun l => l.2.map mk
def ren (S : List Key) (e : End) : End := (e.1, e.2.1, ((S.idxOf (mk e) : Nat) : Int))
def numW (S : List Key) (L : Web) : Web := L.map fun l => (l.1, l.2.map (ren S))
def numF (L : Web) : Web := numW (dedupK (marks L)) L
def ents (L : Web) : List (Str × End) := L.flatMap fun l => l.2.map fun e => (l.1, e)
def atM (zs : List (Str × End)) (q : Key) : List (Str × End) := zs.filter fun z => decide (mk z.2 = q)
def twoB : List (Str × End) → Bool
  | [a, b] => decide (b.1 = a.2.1 ∧ b.2.1 = a.1 ∧ b.2.2.1 = a.2.2.1)
  | _ => false
def pairsB (L : Web) : Bool := (dedupK (marks L)).all fun q => twoB (atM (ents L) q)
def risesB (L : Web) : Bool := decide (L.map (·.1) = ssF (L.map (·.1)))
def webOk (L : Web) : Bool := pairsB L && (risesB L && decide (numF L = L))
def endP (r : Str) : PyData → Option End
  | .tuple [.str t, .int s, .int n] => if ropeB (.str t) = true ∧ t ≠ r ∧ senseB (.int s) = true ∧ 0 ≤ n then some (t, s, n) else none
  | _ => none
def endsP (r : Str) : List PyData → Option (List End)
  | [] => some []
  | x :: xs => match endP r x, endsP r xs with
    | some e, some es => some (e :: es)
    | _, _ => none
def lineP : PyData → Option Line
  | .tuple [.str r, .tuple (x :: xs)] => if ropeB (.str r) = true then (endsP r (x :: xs)).map (r, ·) else none
  | _ => none
def linesP : List PyData → Option Web
  | [] => some []
  | x :: xs => match lineP x, linesP xs with
    | some l, some L => some (l :: L)
    | _, _ => none
def webP : PyData → Option Web
  | .tuple xs => linesP xs
  | _ => none
def webB (x : PyData) : Bool := match webP x with
  | some L => webOk L
  | none => false
def EndOk (r : Str) (e : End) : Prop := IsName e.1 ∧ e.1 ≠ r ∧ senseB (.int e.2.1) = true ∧ 0 ≤ e.2.2
structure LineOk (l : Line) : Prop where
  nm : IsName l.1
  ne : l.2 ≠ []
  all : ∀ e ∈ l.2, EndOk l.1 e
theorem endP_of {r : Str} {e : End} (h : EndOk r e) : endP r (endD e) = some e := by
  show (if _ then _ else _) = _
  rw [if_pos ⟨ropeB_iff.mpr h.1, h.2.1, h.2.2.1, h.2.2.2⟩]
theorem endsP_of {r : Str} : ∀ {es : List End}, (∀ e ∈ es, EndOk r e) → endsP r (endsD es) = some es
  | [], _ => rfl
  | e :: es, h => by
    show (match endP r (endD e), endsP r (endsD es) with
      | some e, some es => some (e :: es)
      | _, _ => none) = _
    rw [endP_of (h e (List.mem_cons_self ..)), endsP_of fun u hu => h u (List.mem_cons_of_mem _ hu)]
theorem lineP_of {l : Line} (h : LineOk l) : lineP (lineD l) = some l := by
  obtain ⟨r, es⟩ := l
  cases es with
  | nil => exact absurd rfl h.ne
  | cons e es =>
    show (if ropeB (.str r) = true then (endsP r (endsD (e :: es))).map (r, ·) else none) = _
    rw [if_pos (ropeB_iff.mpr h.nm), endsP_of h.all]
    rfl
theorem linesP_of : ∀ {L : Web}, (∀ l ∈ L, LineOk l) → linesP (L.map lineD) = some L
  | [], _ => rfl
  | l :: L, h => by
    show (match lineP (lineD l), linesP (L.map lineD) with
      | some l, some L => some (l :: L)
      | _, _ => none) = _
    rw [lineP_of (h l (List.mem_cons_self ..)), linesP_of fun u hu => h u (List.mem_cons_of_mem _ hu)]
theorem webB_of {L : Web} (h : ∀ l ∈ L, LineOk l) : webB (webD L) = webOk L := by
  unfold webB webP webD
  simp only [linesP_of h]
theorem LineOk.num {l : Line} (S : List Key) (h : LineOk l) : LineOk (l.1, l.2.map (ren S)) := by
  refine ⟨h.nm, fun z => h.ne (List.map_eq_nil_iff.mp z), fun e he => ?_⟩
  obtain ⟨u, hu, rfl⟩ := List.mem_map.mp he
  obtain ⟨a, b, c, d⟩ := h.all u hu
  exact ⟨a, b, c, Int.natCast_nonneg _⟩
end WB
namespace SH
open PySem PySem.Spec PyProof.Rows L2 DL
theorem st_int {r : R} {i : Int} (h : r.st = .d (.int i)) : r = .d (.int i) := by
  cases r with
  | d y => exact h
  | f xs => exact nomatch (show R.d (.list xs) = R.d (.int i) from h)
  | _ => cases h
theorem st_str {r : R} {z : Str} (h : r.st = .d (.str z)) : r = .d (.str z) := by
  cases r with
  | d y => exact h
  | f xs => exact nomatch (show R.d (.list xs) = R.d (.str z) from h)
  | _ => cases h
theorem st_tuple {r : R} {xs : List PyData} (h : r.st = .d (.tuple xs)) : r = .d (.tuple xs) := by
  cases r with
  | d y => exact h
  | f ys => exact nomatch (show R.d (.list ys) = R.d (.tuple xs) from h)
  | _ => cases h
section
variable {ρ : Rho} {κ κ1 : Kap} {wa wb wc : DTE} {wr : DTA} {x y z u : PyData} {xs : List PyData} {b c : Bool} {E : DEnds}
theorem gv_andV (ha : Gv wa ρ κ (.bool b)) (hb : b = true → Gv wb ρ κ (.bool c)) : Gv (wAndV wa wb) ρ κ (.bool (b && c)) := fun Q k => by
  unfold wAndV
  refine ha _ fun r hr => ?_
  rw [st_bool hr]
  dsimp only
  cases b with
  | true =>
    rw [if_pos rfl]
    exact hb rfl _ k
  | false =>
    rw [if_neg (by decide)]
    exact k _ rfl
theorem gv_chain {g g' : PyData → PyData → Option Out} (ha : Gv wa ρ κ x) (hb : Gv wb ρ κ y) (hc : Gv wc ρ κ z) (e1 : g x y = some (.v (.bool b))) (e2 : b = true → g' y z = some (.v (.bool c))) : Gv (wChain g g' wa wb wc) ρ κ (.bool (b && c)) := fun Q k => by
  rw [s_chainL]
  refine ha _ fun r1 h1 => hb _ fun r2 h2 => ?_
  rw [h1, h2, val_d, Opt_some, val_d, Opt_some, e1, Opt_some]
  cases b with
  | true =>
    dsimp only
    rw [if_pos rfl]
    refine hc _ fun r3 h3 => ?_
    rw [val_d, Opt_some, h3, val_d, Opt_some, e2 rfl, Opt_some]
    exact k _ rfl
  | false =>
    dsimp only
    rw [if_neg (by decide)]
    exact k _ rfl
theorem gv_callK {Φ : List R → (R → Prop) → Prop} {q : List Nat} {xs ys : List PyData} (h : Gc wr ρ κ (xs.map .d)) (e : pick q (xs.map R.d) = ys.map .d) (hΦ : ∀ P : R → Prop, (∀ r : R, r.st = .d z → P r) → Φ (ys.map .d) P) : Gv (wCallK Φ q wNil wr) ρ κ z := fun Q k => by
  unfold wCallK
  rw [s_nil]
  refine h _ ?_
  rw [List.nil_append, args_all, Opt_some]
  show Φ (pick q (xs.map R.d)) _
  rw [e]
  exact hΦ _ fun r hr => k r hr
theorem gv_tupC (h : Gv wa ρ κ (.list xs)) : Gv (wCB tupC (wCons wa wNil)) ρ κ (.tuple xs) := gv_cb h (tupC_list xs) rfl
theorem gv_len (h : Gv wa ρ κ (.list xs)) : Gv (wCB lenD (wCons wa wNil)) ρ κ (.int (xs.length : Int)) := gv_cb h (lenD_list xs) rfl
theorem gv_lenT (h : Gv wa ρ κ (.tuple xs)) : Gv (wCB lenD (wCons wa wNil)) ρ κ (.int (xs.length : Int)) := gv_cb h (lenD_tuple xs) rfl
theorem gv_at {i : Nat} {d : PyData} (h : Gv wa ρ κ (.list xs)) (hb : Gv wb ρ κ (.int (i : Int))) (e : xs[i]? = some d) : Gv (wBin ixD wa wb) ρ κ d := gv_bin h hb (ixD_list (atI_nat e)) rfl
theorem gv_addI {i j : Int} (ha : Gv wa ρ κ (.int i)) (hb : Gv wb ρ κ (.int j)) : Gv (wBin addD wa wb) ρ κ (.int (i + j)) := gv_bin ha hb (addD_int i j) rfl
theorem gv_eqI {i j : Int} (ha : Gv wa ρ κ (.int i)) (hb : Gv wb ρ κ (.int j)) : Gv (wBin (eqD false) wa wb) ρ κ (.bool (decide (i = j))) := gv_bin ha hb (eqD_intn _ i j) rfl
theorem gv_neI {i j : Int} (ha : Gv wa ρ κ (.int i)) (hb : Gv wb ρ κ (.int j)) : Gv (wBin (eqD true) wa wb) ρ κ (.bool (!decide (i = j))) := gv_bin ha hb (eqD_intn _ i j) rfl
theorem gv_seD (neg : Bool) (ha : Gv wa ρ κ x) (hb : Gv wb ρ κ x) (g : GoodN 8 x) : Gv (wBin (eqD neg) wa wb) ρ κ (.bool (!neg)) := gv_bin ha hb (eqD_self neg g) rfl
/-- all([..]) over a list -/
theorem gv_all {α : Type} {f : α → Bool} {l : List α} (h : Gv wa ρ κ (.list (l.map fun x => .bool (f x)))) : Gv (wCB (allC fun bs => bs.all id) (wCons wa wNil)) ρ κ (.bool (l.all f)) := gv_cb h (all_f f l) rfl
/-- a loop over a list that is known -/
theorem for_sq {g : DTG} {b : DTS} (h : Gv wa ρ κ (.list xs)) (k : ∀ ok : Kap → Prop, (∀ κ, ok κ) → forL ok g b E xs ρ κ) : wFor (wSq wa) g b E ρ κ := by
  rw [s_for, s_sq]
  refine h _ fun r hr => ?_
  rw [hr, val_d, Opt_some]
  dsimp only
  exact k _ fun κ => val_d ..
end
end SH
namespace SH
open PySem PySem.Spec PyProof.Rows L2 DL
section
variable {E : DEnds} {N : Int} {ns : List Str} {room j : Nat} {bs : List PyData} {f q : Row} {κ : Kap} {p4 p5 p6 : Option R}
end
section
variable {ρ ρ1 : Rho} {κ κ1 : Kap} {wa : DTE} {wr : DTA} {x z : PyData} {xs : List PyData}
end
end SH
namespace SH
open PySem PySem.Spec PyProof.Rows L2 DL
section
variable {ns : List Str} {W : Wish}
variable {E : DEnds} {ok : Kap → Prop}
end
end SH
namespace SH
open PySem PySem.Spec PyProof.Rows L2 DL
theorem put_keys {es : List (Key × R)} {q : Key} {r : R} (h : q ∈ es.map (·.1)) : (putM es q r).map (·.1) = es.map (·.1) := by
  unfold putM
  rw [if_pos (by
    obtain ⟨e, he, rfl⟩ := List.mem_map.mp h
    exact List.any_eq_true.mpr ⟨e, he, decide_eq_true rfl⟩), List.map_map]
  refine List.map_congr_left fun e he => ?_
  show (if e.1 = q then (e.1, r) else e).1 = e.1
  split <;> rfl
structure Lv (κ : Kap) (d : Nat) (es : List (Key × R)) (ns : List Str) (W : Wish) (bs : List PyData) : Prop where
  h0 : κ[(0 : Nat)]? = some (.l bs)
  hd : κ[d]? = some (.m es)
  d0 : d ≠ 0
  ek : es.map (·.1) = ns.map Sum.inr
  get : ∀ z ∈ ns, ∃ j, lookM es (.inr z) = some (.c j) ∧ j ≠ 0 ∧ j ≠ d ∧ κ[j]? = some (.l ((W z).map strsD))
  inj : ∀ z ∈ ns, ∀ y ∈ ns, ∀ j, lookM es (.inr z) = some (.c j) → lookM es (.inr y) = some (.c j) → z = y
section
variable {κ : Kap} {d : Nat} {es : List (Key × R)} {ns : List Str} {W : Wish} {bs : List PyData} {z : Str}
theorem Lv.box (h : Lv κ d es ns W bs) (bs' : List PyData) : Lv (κ.set 0 (.l bs')) d es ns W bs' where
  h0 := set0 h.h0
  hd := setj h.d0 h.hd
  d0 := h.d0
  ek := h.ek
  get z hz := by
    obtain ⟨j, h1, h2, h3, h4⟩ := h.get z hz
    exact ⟨j, h1, h2, h3, setj h2 h4⟩
  inj := h.inj
theorem setW_same {l : List (List Str)} : setW W z l z = l := by
  unfold setW
  rw [if_pos rfl]
theorem setW_ne {l : List (List Str)} {y : Str} (h : y ≠ z) : setW W z l y = W y := by
  unfold setW
  rw [if_neg h]
theorem Lv.put (h : Lv κ d es ns W bs) {l : List (List Str)} (hz : z ∈ ns) : Lv ((κ ++ [Cell.l (l.map strsD)]).set d (.m (putM es (.inr z) (.c κ.length)))) d (putM es (.inr z) (.c κ.length)) ns (setW W z l) bs := by
  have hk : (Sum.inr z : Key) ∈ es.map (·.1) := by rw [h.ek]; exact List.mem_map.mpr ⟨z, hz, rfl⟩
  have ld : d < κ.length := (List.getElem?_eq_some_iff.mp h.hd).1
  have l0 : 0 < κ.length := (List.getElem?_eq_some_iff.mp h.h0).1
  have d0 := h.d0
  refine ⟨by rw [List.getElem?_set_ne (by omega), List.getElem?_append_left l0]; exact h.h0, by rw [List.getElem?_set_self (by rw [List.length_append]; omega)], d0, by rw [put_keys hk, h.ek], fun y hy => ?_, fun x hx y hy j e1 e2 => ?_⟩
  · by_cases c : y = z
    · subst c
      refine ⟨κ.length, by rw [look_put, if_pos rfl], by omega, by omega, ?_⟩
      rw [setW_same, List.getElem?_set_ne (by omega), List.getElem?_append_right (Nat.le_refl _), Nat.sub_self]
      rfl
    · obtain ⟨j2, p1, p2, p3, p4⟩ := h.get y hy
      refine ⟨j2, by rw [look_put, if_neg (fun e => c (Sum.inr.inj e))]; exact p1, p2, p3, ?_⟩
      rw [setW_ne c, List.getElem?_set_ne (by omega), List.getElem?_append_left (List.getElem?_eq_some_iff.mp p4).1]
      exact p4
  · have old : ∀ u ∈ ns, lookM es (.inr u) ≠ some (.c κ.length) := fun u hu e => by
      obtain ⟨j2, p1, _, _, p4⟩ := h.get u hu
      rw [e] at p1
      injection p1 with p1
      injection p1 with p1
      have := (List.getElem?_eq_some_iff.mp p4).1
      omega
    rw [look_put] at e1 e2
    by_cases c1 : x = z
    · by_cases c2 : y = z
      · rw [c1, c2]
      · rw [if_pos (by rw [c1])] at e1
        rw [if_neg (fun e => c2 (Sum.inr.inj e))] at e2
        injection e1 with e1
        rw [← e1] at e2
        exact absurd e2 (old y hy)
    · rw [if_neg (fun e => c1 (Sum.inr.inj e))] at e1
      by_cases c2 : y = z
      · rw [if_pos (by rw [c2])] at e2
        injection e2 with e2
        rw [← e2] at e1
        exact absurd e1 (old x hx)
      · rw [if_neg (fun e => c2 (Sum.inr.inj e))] at e2
        exact h.inj x hx y hy j e1 e2
end
section
variable {ρ : Rho} {κ : Kap} {wa wb : DTE} {l : List (List Str)}
end
end SH
namespace DL
open PySem PySem.Spec PyProof.Rows L2
section
variable {prog : Program} {w : World} {A : Around} {E : Value → Shared → Prop} {s : Shared}
end
section
variable {X : Cx} {pos spos : Pos} {e : Expr} {es : List Expr} {js is : List Nat} {wg : DTG} {gs : List PyData → Rho → Kap → (Rho → Kap → Prop) → Prop}
end
end DL
namespace SH
open PySem PySem.Spec PyProof.Rows L2 DL
theorem Core.mid {r l u : Row} (c : Core r l u) : Tight u := c.tight.mid
end SH
namespace SH
open PySem PySem.Spec PyProof.Rows L2 DL
abbrev eA (s : Row) (i : Nat) : Nat := (runsF s).getD i 0
structure LNear (r : Row) (l : List Nat) : Prop where
  head : ∀ p, l[0]? = some p → ∀ q, q < p → eA r q + 1 ≠ manyF (depthsF r)
  near : ∀ t q p, l[t]? = some q → l[t + 1]? = some p → ∀ k, q < k → k < p → hitAt r q k = true → eA r k + 1 + (t + 1) ≠ manyF (depthsF r)
theorem LNear.step {r : Row} {i : Nat} {l : List Nat} (v : LInv r i l) (n : LNear r l) : LNear r (longS r (runsF r) (manyF (depthsF r)) l i) := by
  unfold longS
  by_cases c : nextB r (runsF r) (manyF (depthsF r)) l i = true
  · rw [if_pos c]
    by_cases hl : l = []
    · subst hl
      refine ⟨fun p hp q hq => ?_, fun t q p h1 h2 => ?_⟩
      · have : i = p := Option.some.inj hp
        subst this
        exact v.bare rfl q hq
      · cases t <;> simp at h2
    · have la := lastN_at hl
      have lp := List.length_pos_iff.mpr hl
      refine ⟨fun p hp q hq => ?_, fun t q p h1 h2 k k1 k2 k3 => ?_⟩
      · rw [List.getElem?_append_left lp] at hp
        exact n.head p hp q hq
      · have lt := (List.getElem?_eq_some_iff.mp h2).1
        rw [List.length_append, List.length_singleton] at lt
        rw [List.getElem?_append_left (by omega)] at h1
        by_cases e : t + 1 < l.length
        · rw [List.getElem?_append_left e] at h2
          exact n.near t q p h1 h2 k k1 k2 k3
        · have et : t + 1 = l.length := by omega
          rw [et, List.getElem?_append_right (Nat.le_refl _), Nat.sub_self] at h2
          have : i = p := Option.some.inj h2
          subst this
          have eq : q = lastN l := by
            rw [show l.length - 1 = t by omega, h1] at la
            exact Option.some.inj la
          subst eq
          have := v.miss hl k k1 k2 k3
          rw [et]
          exact this
  · rw [if_neg c]
    exact n
end SH
namespace SH
open PySem PySem.Spec PyProof.Rows L2 DL
end SH
namespace NR
open PySem PySem.Spec PyProof.Rows L2 DL SH
abbrev Row := SH.Row
theorem split_at {r : Row} {i : Nat} (h : i + 1 < r.length) : ∃ u x y v, r = u ++ x :: y :: v ∧ u.length = i := by
  obtain ⟨x, hx⟩ : ∃ x, r[i]? = some x := ⟨_, List.getElem?_eq_getElem (by omega)⟩
  obtain ⟨y, hy⟩ : ∃ y, r[i + 1]? = some y := ⟨_, List.getElem?_eq_getElem (by omega)⟩
  have e : r.drop i = x :: y :: r.drop (i + 2) := by
    rw [List.drop_eq_getElem_cons (by omega), List.drop_eq_getElem_cons (by omega)]
    rw [List.getElem?_eq_getElem (by omega)] at hx hy
    rw [Option.some.inj hx, Option.some.inj hy]
  exact ⟨r.take i, x, y, r.drop (i + 2), by rw [← e, List.take_append_drop], by rw [List.length_take]; omega⟩
theorem two_split {r : Row} {a : Int} {f : Hook → Hook → Bool} (h : two r a f = true) : ∃ u x y v, r = u ++ x :: y :: v ∧ a = (u.length : Int) ∧ f x y = true := by
  have h0 := h
  unfold two at h
  have hb : 0 ≤ a ∧ a < (r.length : Int) - 1 := by
    by_cases c : 0 ≤ a ∧ a < (r.length : Int) - 1
    · exact c
    · exfalso
      by_cases c1 : 0 ≤ a
      · have c2 : ¬ a < (r.length : Int) - 1 := fun z => c ⟨c1, z⟩
        rw [decide_eq_true c1, decide_eq_false c2] at h
        cases h
      · rw [decide_eq_false c1] at h
        cases h
  obtain ⟨n, rfl⟩ : ∃ n : Nat, a = (n : Int) := ⟨a.toNat, by omega⟩
  obtain ⟨u, x, y, v, rfl, hu⟩ := split_at (r := r) (i := n) (by omega)
  subst hu
  rw [two_at] at h0
  exact ⟨u, x, y, v, rfl, rfl, h0⟩
theorem lt_irrefl (x : PyData) : PySem.W.dataLt x x = false := lex_irrefl _
end NR
namespace WB
open PySem PySem.Spec PyProof.Rows L2 DL SH
section
variable {ρ : Rho} {κ : Kap} {wt wu : DTT} {b c : Bool}
theorem tv_orT (h : Tv wt ρ κ true) : Tv (wOr wt wu) ρ κ true := tv_or (b := true) (c := true) h fun z => nomatch z
end
section
variable {α : Type} (key : α → Key) (f : α → PyData)
end
end WB
namespace SH
open PySem PySem.Spec PyProof.Rows L2 DL
theorem lookM_put (es : List (Key × R)) (k k' : Key) (r : R) : (lookM (putM es k r) k').isSome = (decide (k' = k) || (lookM es k').isSome) := by
  have hany : ∀ (es : List (Key × R)) (q : Key), (lookM es q).isSome = es.any fun e => decide (e.1 = q) := fun es q => by
    unfold lookM
    rw [Option.isSome_map, Bool.eq_iff_iff, List.find?_isSome, List.any_eq_true]
  rw [hany, hany]
  unfold putM
  split
  · rename_i c
    rw [List.any_map]
    rw [Bool.eq_iff_iff]
    simp only [List.any_eq_true, Bool.or_eq_true, decide_eq_true_eq, Function.comp] at c ⊢
    constructor
    · rintro ⟨e, he, q⟩
      refine .inr ⟨e, he, ?_⟩
      split at q <;> exact q
    · rintro (q | ⟨e, he, q⟩)
      · obtain ⟨e, he, q2⟩ := c
        refine ⟨e, he, ?_⟩
        rw [if_pos q2, q2, q]
      · refine ⟨e, he, ?_⟩
        split <;> exact q
  · rw [List.any_append]
    rw [Bool.eq_iff_iff]
    simp only [List.any_cons, List.any_nil, Bool.or_false, Bool.or_eq_true, decide_eq_true_eq]
    constructor
    · rintro (q | q)
      · exact .inr q
      · exact .inl q.symm
    · rintro (q | q)
      · exact .inr q.symm
      · exact .inl q
theorem putM_len (es : List (Key × R)) (k : Key) (r : R) : (putM es k r).length ≤ es.length + 1 := by
  unfold putM
  split
  · rw [List.length_map]; omega
  · rw [List.length_append]; exact Nat.le_refl _
/-- what has been met -/
def Met (es : List (Key × R)) (met : List Str) : Prop := (∀ z : Str, (lookM es (.inr z)).isSome = decide (z ∈ met)) ∧ es.length ≤ met.length
theorem inr_iff {a b : Str} : (Sum.inr a : Key) = Sum.inr b ↔ a = b := ⟨fun h => by cases h; rfl, fun h => by rw [h]⟩
def pairE (h : Hook) : List (Key × R) := putM (putM [] (.inr h.1) (.d (.bool true))) (.inr h.2.1) (.d (.bool true))
theorem Met.put {es : List (Key × R)} {met : List Str} (m : Met es met) (z : Str) (r : R) : Met (putM es (.inr z) r) (met ++ [z]) := by
  refine ⟨fun y => ?_, ?_⟩
  · rw [lookM_put, m.1]
    rw [Bool.eq_iff_iff]
    simp only [Bool.or_eq_true, decide_eq_true_eq, List.mem_append, List.mem_singleton, inr_iff]
    exact or_comm
  · have := putM_len es (.inr z) r
    have := m.2
    rw [List.length_append, List.length_singleton]
    omega
theorem pairE_is (h : Hook) (ne : h.1 ≠ h.2.1) : pairE h = [(.inr h.1, .d (.bool true)), (.inr h.2.1, .d (.bool true))] := by
  unfold pairE putM
  simp [ne]
theorem Met.two {es : List (Key × R)} {met : List Str} (m : Met es met) {h : Hook} (ne : h.1 ≠ h.2.1) : Met (mergeM es (pairE h)) (met ++ [h.1, h.2.1]) := by
  rw [pairE_is h ne]
  have := (m.put h.1 (.d (.bool true))).put h.2.1 (.d (.bool true))
  rw [List.append_assoc] at this
  exact this
theorem Met.nil : Met [] [] := ⟨fun z => by simp [lookM], Nat.le_refl _⟩
theorem sto_c (m : Bool) (k : Nat) (κ : Kap) : sto m (.c k) κ = (.c k, κ) := by cases m <;> rfl
section
variable {p0 p5 : Option R} {a : Nat} {h : Hook} {κ : Kap} {E : DEnds} {es : List (Key × R)} {met : List Str} {fs : List Nat}
end
end SH
namespace DL
open PySem PySem.Spec PyProof.Rows L2
section
variable {X : Cx} {o i y : Expr} {wo wi wy : DTE} {apos cpos : Pos}
end
end DL
namespace DL
open PySem PySem.Spec PyProof.Rows L2
section
variable {X : Cx} {CX : CXT} {k : Nat} {f : Addr} {fd : FuncData} {ps : List Str} {sp : Sp} {E : XK} {x : Str} {p pos : Pos}
end
end DL
namespace DL
open PySem PySem.Spec PyProof.Rows L2
/-- the tuple at b is the row r -/
def KeyAt (H : Hp) (b : Addr) (r : RwK) : Prop := ∃ vs, H b = some (.tup vs) ∧ Paired (fun (v : V) (h : Str × Str × Int) => ∃ c, v = V.ref c ∧ H c = some (.tup [.str h.1, .str h.2.1, .int h.2.2])) vs r
theorem keyp_of {K : PySem.W.Frag} {G H : Hp} (e : Ex G H) : ∀ {r : RwK} {vs : List V}, RpA K G vs (r.map fun h => PyData.tuple [.str h.1, .str h.2.1, .int h.2.2]) → Paired (fun (v : V) (h : Str × Str × Int) => ∃ c, v = V.ref c ∧ H c = some (.tup [.str h.1, .str h.2.1, .int h.2.2])) vs r
  | [], _, h => by cases h; exact .nil
  | g :: r, _, h => by
    cases h with
    | cons h1 h2 =>
      refine .cons ?_ (keyp_of e h2)
      cases h1 with
      | tup q1 q2 =>
        cases q2 with
        | cons a1 a2 =>
          cases a2 with
          | cons b1 b2 =>
            cases b2 with
            | cons c1 c2 =>
              cases a1
              cases b1
              cases c1
              cases c2
              exact ⟨_, rfl, e _ _ q1⟩
theorem key_of {K : PySem.W.Frag} {G H : Hp} {b : Addr} {r : RwK} (e : Ex G H) (h : Rp K G (.ref b) (rwD r)) : KeyAt H b r := by
  unfold rwD at h
  cases h with
  | tup q1 q2 => exact ⟨_, e _ _ q1, keyp_of e q2⟩
section
variable {P : Program} {w : World} {H : Hp} {h : Heap}
end
section
variable {X : Cx} {pins : List (Addr × Obj)} {σ : L2.St} {H : Hp} {s : Shared} {a : Addr} {xs : List (RwK × Addr × V)}
end
section
variable {X : Cx}
end
section
variable {K : PySem.W.Frag} {G H G' H' : Hp} {As : List Addr} {xs : List (RwK × Addr × V)} {es : List (RwK × R)} {k : RwK} {v : V} {r : R} {b : Addr}
theorem Np.len (h : Np K G As xs es) : xs.length = es.length := Paired.length h
theorem Np.keys (e : Ex G H) (h : Np K G As xs es) : ∀ x ∈ xs, KeyAt H x.2.1 x.1 := by
  unfold Np at h
  induction h with
  | nil => intro x hx; cases hx
  | cons q t ih =>
    intro x hx
    rcases List.mem_cons.mp hx with rfl | hx
    · exact key_of e q.2.1
    · exact ih x hx
theorem Np.vals (h : Np K G As xs es) : Paired (It K G As) (xs.map (·.2.2)) (es.map (·.2)) := by
  unfold Np at h
  induction h with
  | nil => exact .nil
  | cons q t ih => exact .cons q.2.2 ih
theorem Np.snoc (h : Np K G As xs es) (hb : Rp K G (.ref b) (rwD k)) (hv : It K G As v r) : Np K G As (xs ++ [(k, b, v)]) (es ++ [(k, r)]) := by
  unfold Np at h ⊢
  induction h with
  | nil => exact .cons ⟨rfl, hb, hv⟩ .nil
  | cons q t ih => exact .cons q ih
end
section
variable {X : Cx} {pos : Pos}
end
end DL
namespace DL
open PySem PySem.Spec PyProof.Rows L2
section
variable {X : Cx}
end
section
variable {X : Cx} {k v i o : Expr} {wk wv wi wo : DTE} {pos : Pos}
end
end DL
namespace DL
open PySem PySem.Spec PyProof.Rows L2
section
variable {P : Program} {w : World}
def NoCls (P : Program) (w : World) (n : Nat) (s : Shared) (v : Value) : Prop := ∀ (A : Around) (E : Value → Shared → Prop) (Q : Bool → Shared → Prop), Q false s → wpAny (model P w) A (ofAClassStatement n v) Q E s
theorem NoCls.flat {n : Nat} {s : Shared} {v : Value} (h : ofAClassStatement n v = pure false) : NoCls P w n s v := fun A E Q q => by
  rw [h]
  exact wpAny_pure q
theorem NoCls.tuple {n : Nat} {s : Shared} {b : Addr} {o : Obj} {its : Array Value} {m : Nat} (ho : s.heap.get? b = some o) (hc : o.cls = .type "tuple") (hd : o.data = .seq its m) (all : ∀ v ∈ its.toList, NoCls P w n s v) : NoCls P w (n + 1) s (.ref b) := fun A E Q q => by
  have T : s.TypeIs (.ref b) "tuple" := ⟨o, ho, hc⟩
  unfold ofAClassStatement
  refine wpAny_bind (wpAny_typeOf T ?_)
  dsimp only
  have et : (("tuple" : String) == "tuple") = true := by decide
  simp only [et, if_true, if_false, Bool.not_true, Bool.false_eq_true]
  try refine wpAny_bind (wpAny_pure ?_)
  try simp only [if_false, Bool.not_true, Bool.false_eq_true]
  show wpAny _ _ (seqItems? (.ref b) >>= _) _ _ s
  refine wpAny_bind (wpAny_seqItems ho hd ?_)
  dsimp only
  refine wpAny_bind ?_
  show wpAny _ _ (forIn its _ _) _ _ s
  rw [← Array.forIn_toList]
  refine wpAny_forIn_list _ (fun more z s1 => z.1 = none ∧ s1 = s ∧ ∀ v ∈ more, NoCls P w n s v) _ ?_ ?_ _ _ ⟨rfl, rfl, all⟩
  · rintro v more z s1 ⟨hz, rfl, am⟩
    refine wpAny_bind (am v List.mem_cons_self _ _ _ ?_)
    simp only [if_false, Bool.false_eq_true]
    exact wpAny_pure ⟨rfl, rfl, fun u hu => am u (List.mem_cons_of_mem _ hu)⟩
  · rintro ⟨z1, z2⟩ s1 ⟨hz, rfl, _⟩
    simp only at hz
    subst hz
    exact wpAny_pure q
/-- whether its hash is told by value: asked, and nothing else happens -/
def HashAsk (P : Program) (w : World) (n : Nat) (s : Shared) (v : Value) : Prop := ∀ (A : Around) (E : Value → Shared → Prop) (Q : Bool → Shared → Prop), (∀ b, Q b s) → wpAny (model P w) A (hashByValue n v) Q E s
theorem HashAsk.flat {n : Nat} {s : Shared} {v : Value} {b : Bool} (h : hashByValue n v = pure b) : HashAsk P w n s v := fun A E Q q => by
  rw [h]
  exact wpAny_pure (q b)
theorem HashAsk.tuple {n : Nat} {s : Shared} {b : Addr} {o : Obj} {its : Array Value} {m : Nat} (ho : s.heap.get? b = some o) (hc : o.cls = .type "tuple") (hd : o.data = .seq its m) (all : ∀ v ∈ its.toList, HashAsk P w n s v) : HashAsk P w (n + 1) s (.ref b) := fun A E Q q => by
  have T : s.TypeIs (.ref b) "tuple" := ⟨o, ho, hc⟩
  unfold hashByValue
  refine wpAny_bind (wpAny_specialOf T F.slot_tuple_hash.lookup ?_)
  show wpAny _ _ (seqItems? (.ref b) >>= _) _ _ s
  refine wpAny_bind (wpAny_seqItems ho hd ?_)
  refine wpAny_bind ?_
  show wpAny _ _ (forIn its _ _) _ _ s
  rw [← Array.forIn_toList]
  refine wpAny_forIn_list _ (fun more z s1 => z.1 = none ∧ s1 = s ∧ ∀ v ∈ more, HashAsk P w n s v) _ ?_ ?_ _ _ ⟨rfl, rfl, all⟩
  · rintro v more z s1 ⟨hz, rfl, am⟩
    refine wpAny_bind (am v List.mem_cons_self _ _ _ fun c => ?_)
    cases c with
    | false =>
      simp only [if_true, Bool.not_false]
      exact wpAny_pure (wpAny_pure (q false))
    | true =>
      simp only [if_false, Bool.not_true, Bool.false_eq_true]
      exact wpAny_pure ⟨rfl, rfl, fun u hu => am u (List.mem_cons_of_mem _ hu)⟩
  · rintro ⟨z1, z2⟩ s1 ⟨hz, rfl, _⟩
    simp only at hz
    subst hz
    exact wpAny_pure (q true)
end
abbrev IsN (h : Heap) (k : NestedKey) (b : Addr) : Prop := NestedIs h k (.ref b) ∧ k.depth ≤ 8
abbrev Mbr := Addr × NestedKey
def mHash (w : World) (p : Mbr) : Int := p.2.hash w
def mRows (w : World) (L : List Mbr) : List (Int × Value) := L.map fun p => (mHash w p, Value.ref p.1)
structure TRN (w : World) (h : Heap) (D : Addr) (L : List Mbr) (es : Array (Int × Value)) (ep : Nat) (t : SetTable) : Prop where
  ob : ∃ o, h.get? D = some o ∧ o.ExactSet ∧ o.data = .set es ep t
  rows : es.toList = mRows w L
  tab : TabOk t (L.map (mHash w))
  nd : (L.map (·.2)).Nodup
  mem : ∀ p ∈ L, IsN h p.2 p.1
  led : w.params.followText "set-order" = true ∨ t.led = true
  room : L.length * 5 < t.mask * 3
  few : L.length < 64
abbrev wy (t : SetTable) (h : Int) (c : Nat) : SetTable.Probe := nth t.mask (runAt t.mask (SetTable.bits h % (t.mask + 1)) (SetTable.bits h)) c
section
variable {P : Program} {w : World} {A : Around} {E : Value → Shared → Prop} {s : Shared} {D : Addr} {L : List Mbr} {es : Array (Int × Value)} {ep : Nat} {t : SetTable}
theorem TRN.size (R : TRN w s.heap D L es ep t) : es.size = L.length := by
  have e := congrArg List.length R.rows
  unfold mRows at e
  rwa [List.length_map, Array.length_toList] at e
theorem TRN.fits (R : TRN w s.heap D L es ep t) : t.fits es.size = true := by
  have e1 := R.tab.sz
  have e2 := R.size
  have e3 := R.room
  rw [List.length_map] at e1
  unfold SetTable.fits SetTable.fill
  rw [R.tab.dm, Bool.and_eq_true, decide_eq_true_eq, beq_iff_eq]
  show t.place.size = es.size ∧ t.place.size + 0 ≤ t.mask
  exact ⟨by omega, by omega⟩
theorem TRN.at_ (R : TRN w s.heap D L es ep t) {i : Nat} {p : Mbr} (h : L[i]? = some p) : es[i]? = some (mHash w p, Value.ref p.1) := by
  have e := congrArg (fun l : List (Int × Value) => l[i]?) R.rows
  unfold mRows at e
  simp only [Array.getElem?_toList, List.getElem?_map, h, Option.map_some] at e
  exact e
theorem TRN.place (R : TRN w s.heap D L es ep t) : t.place.toList.length = L.length := by
  rw [Array.length_toList, R.tab.sz, List.length_map]
end
end DL
namespace DL
open PySem PySem.Spec PyProof.Rows L2
section
variable {P : Program} {w : World} {A : Around} {E : Value → Shared → Prop} {s : Shared} {D : Addr} {L : List Mbr} {es : Array (Int × Value)} {ep : Nat} {t : SetTable}
end
end DL
namespace DL
open PySem PySem.Spec PyProof.Rows L2
section
variable {P : Program} {w : World} {A : Around} {E : Value → Shared → Prop} {s : Shared}
theorem TRN.keep {h h' : Heap} {D : Addr} {L : List Mbr} {es : Array (Int × Value)} {ep : Nat} {t : SetTable} (R : TRN w h D L es ep t) (e : ∀ o, h.get? D = some o → h'.get? D = some o) (m : ∀ p ∈ L, IsN h' p.2 p.1) : TRN w h' D L es ep t := by
  obtain ⟨o, ho, r⟩ := R.ob
  exact ⟨⟨o, e o ho, r⟩, R.rows, R.tab, R.nd, m, R.led, R.room, R.few⟩
end
end DL
namespace DL
open PySem PySem.Spec PyProof.Rows L2
mutual
def nkD : PyData → Option NestedKey
  | .none => some .none
  | .int i => some (.num i)
  | .str x => some (.text x)
  | .tuple xs => match nksD xs with
    | some ks => some (.tup ks)
    | none => none
  | .bool _ => none
  | .list _ => none
  | .dict _ => none
def nksD : List PyData → Option (List NestedKey)
  | [] => some []
  | x :: xs => match nkD x, nksD xs with
    | some k, some ks => some (k :: ks)
    | _, _ => none
end
theorem nksD_cons {x : PyData} {xs : List PyData} {ks : List NestedKey} (h : nksD (x :: xs) = some ks) : ∃ k ks', ks = k :: ks' ∧ nkD x = some k ∧ nksD xs = some ks' := by
  unfold nksD at h
  cases q : nkD x with
  | none => rw [q] at h; cases h
  | some k =>
    cases q2 : nksD xs with
    | none => rw [q, q2] at h; cases h
    | some ks' =>
      rw [q, q2] at h
      cases h
      exact ⟨k, ks', rfl, rfl, rfl⟩
theorem nkD_tup {xs : List PyData} {k : NestedKey} (h : nkD (.tuple xs) = some k) : ∃ ks, k = .tup ks ∧ nksD xs = some ks := by
  unfold nkD at h
  cases q : nksD xs with
  | none => rw [q] at h; cases h
  | some ks =>
    rw [q] at h
    cases h
    exact ⟨ks, rfl, rfl⟩
section
variable {P : Program} {w : World} {K : PySem.W.Frag} {H : Hp} {h : Heap}
mutual
theorem nest_rp (ok : HOk P w H h) : ∀ (d : PyData) (k : NestedKey) (v : V) (u : Value), nkD d = some k → Rp K H v d → RelV v u → NestedIs h k u
  | .none, k, v, u, e, r, z => by
    cases e
    cases r
    cases (show u = Value.none from z)
    exact .none
  | .int i, k, v, u, e, r, z => by
    cases e
    cases r
    obtain ⟨t, rfl⟩ := z
    exact .int _ _
  | .str x, k, v, u, e, r, z => by
    cases e
    cases r
    obtain ⟨t, rfl⟩ := z
    exact .text _ _
  | .tuple xs, k, v, u, e, r, z => by
    obtain ⟨ks, rfl, q⟩ := nkD_tup e
    cases r with
    | tup h1 h2 =>
      cases (show u = Value.ref _ from z)
      obtain ⟨_, its, vv, tp⟩ := ok _ _ h1
      obtain ⟨o, ho, hc, n, hd⟩ := tp
      exact .tup ho hc hd (by simpa using nests_rp ok xs ks _ its q h2 vv)
  | .bool _, k, v, u, e, r, z => by cases e
  | .list _, k, v, u, e, r, z => by cases e
  | .dict _, k, v, u, e, r, z => by cases e
theorem nests_rp (ok : HOk P w H h) : ∀ (ds : List PyData) (ks : List NestedKey) (vs : List V) (us : List Value), nksD ds = some ks → RpA K H vs ds → Vals vs us → NestedAll h ks us
  | [], ks, vs, us, e, r, z => by
    cases e
    cases r
    cases z
    exact .nil
  | d :: ds, ks, vs, us, e, r, z => by
    obtain ⟨k, ks', rfl, q1, q2⟩ := nksD_cons e
    cases r with
    | cons r1 r2 =>
      cases z with
      | cons z1 z2 => exact .cons (nest_rp ok d k _ _ q1 r1 z1) (nests_rp ok ds ks' _ _ q2 r2 z2)
end
end
def SetN0 (w : World) (h : Heap) (a : Addr) (L : List Mbr) : Prop := ∃ es ep t, (∃ o, h.get? a = some o ∧ o.ExactSet ∧ o.data = .set es ep t) ∧ es.toList = mRows w L ∧ TabOk t (L.map (mHash w)) ∧ (L.map (·.2)).Nodup ∧
  (w.params.followText "set-order" = true ∨ t.led = true) ∧ L.length * 5 < t.mask * 3 ∧ L.length < 64
theorem TRN.n0 {w : World} {h : Heap} {D : Addr} {L : List Mbr} {es : Array (Int × Value)} {ep : Nat} {t : SetTable} (R : TRN w h D L es ep t) : SetN0 w h D L := ⟨es, ep, t, R.ob, R.rows, R.tab, R.nd, R.led, R.room, R.few⟩
/-- known members -/
def MbrOk (K : PySem.W.Frag) (H : Hp) (p : Mbr) : Prop := Rp K H (.ref p.1) p.2.data ∧ nkD p.2.data = some p.2 ∧ p.2.depth ≤ 8
theorem MbrOk.mono {K : PySem.W.Frag} {G H : Hp} {p : Mbr} (m : MbrOk K G p) (e : Ex G H) : MbrOk K H p := ⟨Rp.mono e _ _ m.1, m.2⟩
theorem MbrOk.is {P : Program} {w : World} {K : PySem.W.Frag} {H : Hp} {h : Heap} {p : Mbr} (ok : HOk P w H h) (m : MbrOk K H p) : IsN h p.2 p.1 := ⟨nest_rp ok _ _ _ _ m.2.1 m.1 rfl, m.2.2⟩
section
variable {X : Cx}
end
end DL
namespace DL
open PySem PySem.Spec PyProof.Rows L2
section
variable {X : Cx} {e : Expr} {we : DTE} {p p2 pos cpos : Pos}
end
end DL
namespace LO
open PySem PySem.Spec PyProof.Rows L2 DL SH
end LO
namespace SP
open PySem PySem.Spec PyProof.Rows L2 DL SH
abbrev Row := SH.Row
abbrev Hook := SH.Hook
structure PartOk (p : Pt) : Prop where
  hn : Names p.1
  n2 : 2 ≤ p.1.length
  n8 : p.1.length ≤ 8
  on : PureOn p.1 p.2
  fix : leastF p.2 = p.2
  len : p.2.length ≤ 900
theorem hook_in {ns : List Str} {g : Hook} (hn : Names ns) (h : HookOf ns g) : HookIn g := ⟨hn.1 _ h.1, hn.1 _ h.2.1, h.2.2.1, h.2.2.2⟩
theorem PartOk.inn {p : Pt} (h : PartOk p) : RowIn p.2 := h.on.1.inn h.hn
theorem PartOk.ne {p : Pt} (h : PartOk p) : p.2 ≠ [] := by
  have := h.on.least
  rwa [h.fix] at this
end SP
namespace WB
open PySem PySem.Spec PyProof.Rows L2 DL SH
section
variable {es0 : List (Key × PyData)} {p3 p4 p5 p6 p7 : Option R} {c1 : Cell} {P : R → Kap → Prop} {E : DEnds}
end
end WB
namespace WB
open PySem PySem.Spec PyProof.Rows L2 DL SH
section
variable {x : PyData} {p2 p3 p4 p5 p6 p7 p8 p9 p10 : Option R} {E : DEnds}
end
theorem ex_inc : ∀ ss : List Str, (∀ z ∈ ss, IsName z) → ∃ tt : List Str, Names tt ∧ ∀ r, r ∈ tt ↔ r ∈ ss
  | [], _ => ⟨[], ⟨(fun z hz => nomatch hz), List.Pairwise.nil⟩, fun r => Iff.rfl⟩
  | z :: ss, h => by
    obtain ⟨tt, ht, e⟩ := ex_inc ss fun y hy => h y (List.mem_cons_of_mem _ hy)
    by_cases c : z ∈ tt
    · refine ⟨tt, ht, fun r => ?_⟩
      rw [e, List.mem_cons]
      refine ⟨.inr, fun q => q.elim (fun q => ?_) id⟩
      rw [q]
      exact (e z).mp c
    · have nd : (z :: tt).Nodup := List.nodup_cons.mpr ⟨c, pw_nodup ht.2⟩
      obtain ⟨n, _⟩ := sorted_names (ns := z :: tt) (fun y hy => by
        rcases List.mem_cons.mp hy with rfl | hy
        · exact h _ (List.mem_cons_self ..)
        · exact ht.1 y hy) nd
      refine ⟨_, n, fun r => ?_⟩
      rw [(List.mergeSort_perm _ _).mem_iff, List.mem_cons, List.mem_cons, e]
theorem ssF_inc {ss : List Str} (h : ∀ z ∈ ss, IsName z) : Inc (ssF ss) ∧ ∀ z ∈ ssF ss, z ∈ ss := by
  obtain ⟨tt, ht, e⟩ := ex_inc ss h
  rw [ssF_eq ht.2 e]
  exact ⟨ht.2, fun z hz => (e z).mp hz⟩
theorem ssF_same {ss : List Str} (h : ∀ z ∈ ss, IsName z) : ss = ssF ss ↔ Inc ss := ⟨fun e => by rw [e]; exact (ssF_inc h).1, fun h => (ssF_eq h fun _ => Iff.rfl).symm⟩
theorem nm_of {L : Web} (ok : ∀ l ∈ L, LineOk l) : ∀ z ∈ L.map (·.1), IsName z := fun z hz => by
  obtain ⟨l, hl, rfl⟩ := List.mem_map.mp hz
  exact (ok l hl).nm
theorem rises_pw {L : Web} (ok : ∀ l ∈ L, LineOk l) : risesB L = true ↔ (L.map (·.1)).Pairwise fun a b => cs a < cs b := by
  unfold risesB
  rw [decide_eq_true_iff]
  exact ssF_same (nm_of ok)
end WB
namespace WB
open PySem PySem.Spec PyProof.Rows L2 DL SH
abbrev Row := SH.Row
/-- a web that was drawn -/
structure NetOk (ns : List Str) (m : Nat) (L : Web) : Prop where
  ok : ∀ l ∈ L, LineOk l
  pairs : pairsB L = true
  rise : (L.map (·.1)).Pairwise fun a b => cs a < cs b
  num : numF L = L
  len : (ents L).length ≤ m
  nm : ∀ l ∈ L, l.1 ∈ ns
theorem NetOk.web {ns : List Str} {m : Nat} {L : Web} (h : NetOk ns m L) : webB (webD L) = true := by
  rw [webB_of h.ok]
  unfold webOk
  rw [h.pairs, (rises_pw h.ok).mpr h.rise, decide_eq_true h.num]
  rfl
theorem NetOk.size {ns : List Str} {m : Nat} {L : Web} (h : NetOk ns m L) : L.length ≤ ns.length := by
  have := nd_len2 (pw_nodup h.rise) (m := ns) fun z hz => by
    obtain ⟨l, hl, rfl⟩ := List.mem_map.mp hz
    exact h.nm l hl
  rwa [List.length_map] at this
theorem name_len {z : Str} (h : IsName z) : z.cps.size ≤ 6 := by
  have := h.2.1
  exact this
end WB
namespace K03
open PySem PySem.Spec PyProof.Rows L2 DL SH GV
open WB (tv_orT)
open TX (mkS okN fitB fitW wordD noneB dot gap wordsT readT hkT rowT sgT splitL joinL lenS)
abbrev Row := SH.Row
theorem s_dash : ("-" : Str) = ⟨#[45]⟩ := by decide +kernel
theorem s_wave : ("~" : Str) = ⟨#[126]⟩ := by decide +kernel
theorem s_dot : ("." : Str) = dot := by decide +kernel
theorem s_gap : (" " : Str) = gap := by decide +kernel
theorem s_nil' : ("" : Str) = Str.empty := by decide +kernel
theorem str_ext {a b : Str} (h : cs a = cs b) : a = b := by
  have := congrArg mkS h
  exact (TX.mk_cs a).symm.trans (this.trans (TX.mk_cs b))
theorem str_len (z : Str) : z.length = (cs z).length := (TX.cs_len z).symm
theorem app_l (x y : Str) : (x ++ y).length = x.length + y.length := by rw [str_len, str_len, str_len, cs_app, List.length_append]
section
variable {ρ : Rho} {κ : Kap} {wa wb wc : DTE} {x y z u : PyData} {E : DEnds}
theorem asg3 {i j l : Nat} (h : Gv wa ρ κ (.tuple [x, y, z])) (k : E.nx (((ρ.set i (some (.d x))).set j (some (.d y))).set l (some (.d z))) κ) : wAsg wa (wTupG 3 (wgCons (wName i) (wgCons (wName j) (wgCons (wName l) wgNil)))) E ρ κ := by
  unfold wAsg
  refine h _ fun r hr => ?_
  rw [hr]
  exact ⟨rfl, k⟩
theorem gv_fmt3 {a b c : Str} (ha : Gv wa ρ κ (.str a)) (hb : Gv wb ρ κ (.str b)) (hc : Gv wc ρ κ (.str c)) (l : a.length + b.length + c.length ≤ 1000000) : Gv (wFmt [wa, wb, wc]) ρ κ (.str (Str.empty ++ a ++ b ++ c)) := fun Q k => by
  have e0 : (Str.empty ++ a).length = a.length := by rw [app_l]; show 0 + _ = _; omega
  unfold wFmt wJs
  refine ha _ fun r hr => ?_
  rw [st_str hr]
  refine ⟨⟨by omega, by omega⟩, ?_⟩
  unfold wJs
  refine hb _ fun r hr => ?_
  rw [st_str hr]
  refine ⟨⟨by omega, by rw [app_l]; omega⟩, ?_⟩
  unfold wJs
  refine hc _ fun r hr => ?_
  rw [st_str hr]
  refine ⟨⟨by omega, by rw [app_l, app_l]; omega⟩, ?_⟩
  unfold wJs
  exact k _ rfl
theorem gv_bm {f : PyData → List PyData → Option Out} {o : Out} {s : Str} (ha : Gv wa ρ κ (.str s)) (hb : Gv wb ρ κ y) (e : f (.str s) [y] = some o) (ez : o.r.st = .d u) : Gv (wBM "str" f wa (wCons wb wNil)) ρ κ u := fun Q k => by
  rw [s_bm]
  refine ha _ fun r hr => ?_
  rw [hr, val_d, Opt_some]
  refine ⟨rfl, ?_⟩
  rw [s_cons]
  refine hb _ fun q hq => ?_
  rw [s_nil, hq, val_d, Opt_some, vals_cons, val_d]
  rw [show vals κ [] = some [] from rfl]
  dsimp only
  rw [Opt_some, e, Opt_some]
  exact k _ ez
end
theorem shaped_of {z : Str} (h : ∀ c ∈ cs z, c < 0x110000) : SeqAt.shaped (.str z) = true := by
  have e : z.cps.all (fun c => decide (c < 0x110000)) = true := by
    rw [← Array.all_toList, List.all_eq_true]
    intro c hc
    exact decide_eq_true (h c hc)
  unfold SeqAt.shaped PyData.canLay0
  rw [Bool.and_eq_true]
  exact ⟨e, by simp [PyData.depth]⟩
def Ph_hook_text (rs : List R) (P : R → Prop) : Prop := ∃ h : Hook, rs = [.d (hookD h)] ∧ HookIn h ∧ P (.d (.str (hkT h)))
/-- hook_text -/
def w_hook_text : DTS := (wSeq (wAsg (wVar 0) (wTupG 3 (wgCons (wName 1) (wgCons (wName 2) (wgCons (wName 3) wgNil)))))
  (wRet (wFmt [(wVar 1), (wIf (wB (wBin (eqD false) (wVar 3) (wC (.int 1)))) (wC (.str "-")) (wC (.str "~"))), (wVar 2)])))
theorem hook_app (h : Hook) (s : Str) (e : cs s = [sgT h]) : Str.empty ++ h.1 ++ s ++ h.2.1 = hkT h := by
  refine str_ext ?_
  rw [cs_app, cs_app, cs_app, e]
  show [] ++ cs h.1 ++ [sgT h] ++ cs h.2.1 = cs h.1 ++ sgT h :: cs h.2.1
  simp
theorem name_len {z : Str} (h : IsName z) : z.length ≤ 6 := h.2.1
theorem gv_sgn {ρ : Rho} {κ : Kap} {wa : DTE} {h : Hook} (g : Gv wa ρ κ (.int h.2.2)) : Gv (wIf (wB (wBin (eqD false) wa (wC (.int 1)))) (wC (.str "-")) (wC (.str "~"))) ρ κ (.str ⟨#[sgT h]⟩) := by
  have t := gv_if (tv_B (gv_eqI g (gv_c (x := .int 1)))) (fun _ => gv_c (x := .str "-")) (fun _ => gv_c (x := .str "~"))
  rw [s_dash, s_wave] at t
  unfold sgT
  by_cases q : h.2.2 = 1
  · rw [decide_eq_true q, if_pos rfl] at t
    rw [if_pos q]
    exact t
  · rw [decide_eq_false q, if_neg (by decide)] at t
    rw [if_neg q]
    exact t
theorem r_hook_text (rs : List R) (Pd : R → Prop) (h : Ph_hook_text rs Pd) (hl : rs.length = 1) : w_hook_text { nx := fun _ _ => Pd (.d .none), rt := fun r κ => Opt (outR κ 0 r) Pd } (rs.map some ++ List.replicate 3 none) [] := by
  obtain ⟨h, rfl, hi, k⟩ := h
  clear hl
  simp only [List.map_cons, List.map_nil, List.replicate_succ, List.replicate_zero, List.cons_append, List.nil_append]
  unfold w_hook_text
  rw [s_seq]
  refine asg3 (x := .str h.1) (y := .str h.2.1) (z := .int h.2.2) (gv_var (i := 0) rfl) ?_
  dsimp only [List.set_cons_succ, List.set_cons_zero]
  rw [s_ret]
  refine gv_fmt3 (gv_var (i := 1) rfl) (gv_sgn (gv_var (i := 3) rfl)) (gv_var (i := 2) rfl) (by have := name_len hi.1; have := name_len hi.2.1; show _ + 1 + _ ≤ _; omega) _ fun r hr => ?_
  rw [hook_app h _ rfl] at hr
  rw [st_str hr]
  dsimp only
  rw [outR_d, Opt_some]
  exact k
def Ph_row_text (rs : List R) (P : R → Prop) : Prop := ∃ (row : Row) (D : PyData), RowD D row ∧ (∀ h ∈ row, HookIn h) ∧ row.length ≤ 1000 ∧ rs = [.d D] ∧ P (.d (.str (rowT row)))
/-- row_text -/
def w_row_text : DTS := (wRet (wIf (wB (wBin (ciD gtI) (wCB lenD (wCons (wVar 0) wNil)) (wC (.int 0)))) (wBM "str" joinC (wC (.str " ")) (wCons (wLc (wSq (wVar 0)) (wName 1) wYes (wCall Ph_hook_text (wCons (wVar 1) wNil)) [1]) wNil)) (wC (.str "."))))
theorem join_cs {ws : List Str} : Txt.join gap ws = mkS (joinL 32 (ws.map cs)) := str_ext (TX.cs_join 32 ws)
theorem sum_lens : ∀ ws : List Str, (ws.map (·.length)).sum = lenS (ws.map cs)
  | [] => rfl
  | w :: ws => by
    rw [List.map_cons, List.sum_cons, List.map_cons, sum_lens ws]
    show _ = (cs w).length + _
    rw [str_len]
theorem strL_map : ∀ ws : List Str, strL (ws.map .str) = some ws
  | [] => rfl
  | w :: ws => by
    show (strL (ws.map .str)).map (w :: ·) = _
    rw [strL_map ws]; rfl
theorem joinC_gap {ws : List Str} (h : lenS (ws.map cs) + ws.length ≤ 16777216) : joinC (.str gap) [.list (ws.map .str)] = some (.v (.str (mkS (joinL 32 (ws.map cs))))) := by
  rw [← join_cs]
  unfold joinC
  simp only [strL_map]
  rw [if_pos]
  rw [sum_lens]
  show _ + _ * 1 ≤ _
  omega
theorem r_row_text (rs : List R) (Pd : R → Prop) (h : Ph_row_text rs Pd) (hl : rs.length = 1) : w_row_text { nx := fun _ _ => Pd (.d .none), rt := fun r κ => Opt (outR κ 0 r) Pd } (rs.map some ++ List.replicate 1 none) [] := by
  obtain ⟨row, D, hD, hi, l, rfl, k⟩ := h
  clear hl
  simp only [List.map_cons, List.map_nil, List.replicate_succ, List.replicate_zero, List.cons_append, List.nil_append]
  unfold w_row_text
  rw [s_ret]
  have gl : Gv (wCB lenD (wCons (wVar 0) wNil)) [some (.d D), none] [] (.int (row.length : Int)) := by
    rcases hD with rfl | rfl
    · have := gv_len (wa := wVar 0) (gv_var (i := 0) (ρ := [some (.d (.list (row.map hookD))), none]) (κ := []) rfl)
      rw [List.length_map] at this
      exact this
    · have := gv_lenT (wa := wVar 0) (gv_var (i := 0) (ρ := [some (.d (.tuple (row.map hookD))), none]) (κ := []) rfl)
      rw [List.length_map] at this
      exact this
  have step : ∀ D, ∀ x ∈ row, ∀ C : R → Kap → Prop, C (.d (.str (hkT x))) [] → wName 1 (.d (hookD x)) (wipeR [some (R.d D), none] [1]) [] fun ρ1 κ1 => wCall Ph_hook_text (wCons (wVar 1) wNil) ρ1 κ1 C := fun D x hx C kc => by
    rw [s_name]
    exact gv_call1 (gv_var (i := 1) rfl) (fun P kk => ⟨x, rfl, hi x hx, kk (.d (.str (hkT x))) rfl⟩) C fun r hr => by rw [st_str hr]; exact kc
  have gm : Gv (wLc (wSq (wVar 0)) (wName 1) wYes (wCall Ph_hook_text (wCons (wVar 1) wNil)) [1]) [some (.d D), none] [] (.list ((row.map hkT).map .str)) := by
    rw [List.map_map]
    rcases hD with rfl | rfl
    · exact gv_lcm (gv_var (i := 0) rfl) (by omega) (step _)
    · exact gv_mapT (gv_var (i := 0) rfl) (by omega) (step _)
  have lj : lenS ((row.map hkT).map cs) + (row.map hkT).length ≤ 16777216 := by
    have h2 := TX.lenS_le (n := 13) (ws := (row.map hkT).map cs) fun w hw => by
      obtain ⟨y, hy, rfl⟩ := List.mem_map.mp hw
      obtain ⟨x, hx, rfl⟩ := List.mem_map.mp hy
      exact (TX.hkT_len (hi x hx)).2
    rw [List.length_map, List.length_map] at h2
    rw [List.length_map]
    omega
  have ej : (row.map hkT).map cs = row.map fun h => cs (hkT h) := by rw [List.map_map]; rfl
  have t : Gv (wIf (wB (wBin (ciD gtI) (wCB lenD (wCons (wVar 0) wNil)) (wC (.int 0)))) (wBM "str" joinC (wC (.str " ")) (wCons (wLc (wSq (wVar 0)) (wName 1) wYes (wCall Ph_hook_text (wCons (wVar 1) wNil)) [1]) wNil)) (wC (.str "."))) [some (.d D), none] [] (.str (rowT row)) := by
    have t := gv_if (tv_B (gv_bin gl (gv_c (x := .int 0)) (show ciD gtI (.int (row.length : Int)) (.int 0) = some (.v (.bool (gtI row.length 0))) from rfl) rfl)) (fun _ => gv_bm (gv_c (x := .str " ")) gm (by rw [s_gap]; exact joinC_gap lj) rfl) (fun _ => gv_c (x := .str "."))
    have e : (if gtI (row.length : Int) 0 = true then PyData.str (mkS (joinL 32 ((row.map hkT).map cs))) else .str ".") = .str (rowT row) := by
      unfold rowT
      rw [s_dot, ej]
      by_cases q : row = []
      · subst q
        rw [if_neg (by decide), if_pos rfl]
      · rw [if_pos (show gtI (row.length : Int) 0 = true from decide_eq_true (by have := List.length_pos_iff.mpr q; omega)), if_neg q]
    rw [e] at t
    exact t
  refine t _ fun r hr => ?_
  rw [st_str hr]
  dsimp only
  rw [outR_d, Opt_some]
  exact k
def Ph_hook_in (rs : List R) (P : R → Prop) : Prop := ∃ w : Str, rs = [.d (.str w)] ∧ w.length ≤ 1000000 ∧ P (.d (wordD w))
def wb_sense : DTS := (wSeq (wAsg (wBM "str" partD (wVar 0) (wCons (wVar 1) wNil)) (wTupG 3 (wgCons (wName 3) (wgCons (wName 4) (wgCons (wName 5) wgNil)))))
  (wIfS (wAnd (wB (wBin (eqD true) (wVar 4) (wC (.str "")))) (wTru (wCall Ph_is_hook (wCons (wTup (wCons (wVar 3) (wCons (wVar 5) (wCons (wVar 2) wNil)))) wNil)))) (wRet (wTup (wCons (wVar 3) (wCons (wVar 5) (wCons (wVar 2) wNil))))) wNext))
/-- hook_in -/
def w_hook_in : DTS := (wSeq (wForT [[.str "-", .int (1)], [.str "~", .int (-1)]] 2 (wgCons (wName 1) (wgCons (wName 2) wgNil)) wb_sense)
  (wRet (wC .none)))
theorem gv_neB {ρ : Rho} {κ : Kap} {wa : DTE} {a : Str} (g : Gv wa ρ κ (.str a)) : Gv (wBin (eqD true) wa (wC (.str ""))) ρ κ (.bool (!decide (a = Str.empty))) := by
  rw [s_nil']
  exact gv_bin g (gv_c (x := .str Str.empty)) (eqD_ss true a Str.empty) rfl
theorem sml_three {a b : Str} {i : Int} (ha : a.length ≤ 1000000) (hb : b.length ≤ 1000000) : sml 1 (.tuple [.str a, .str b, .int i]) = true := by
  simp [sml, ha, hb]
theorem sense_ok {w : Str} {c : Nat} {s : Int} {E : DEnds} {p3 p4 p5 : Option R} (lw : w.length ≤ 1000000)
    (k : ∀ q3 q4 q5, (c ∉ cs w ∨ ∃ u v, Txt.partition w ⟨#[c]⟩ = (mkS u, ⟨#[c]⟩, mkS v) ∧ cs w = u ++ c :: v ∧ hookB (.tuple [.str (mkS u), .str (mkS v), .int s]) = false) → E.nx [some (.d (.str w)), some (.d (.str ⟨#[c]⟩)), some (.d (.int s)), q3, q4, q5] [])
    (k2 : ∀ u v, cs w = u ++ c :: v → hookB (.tuple [.str (mkS u), .str (mkS v), .int s]) = true → Txt.partition w ⟨#[c]⟩ = (mkS u, ⟨#[c]⟩, mkS v) → E.rt (.d (.tuple [.str (mkS u), .str (mkS v), .int s])) []) :
    wb_sense E [some (.d (.str w)), some (.d (.str ⟨#[c]⟩)), some (.d (.int s)), p3, p4, p5] [] := by
  have hz := sizeLine_eq
  unfold wb_sense
  rw [s_seq]
  have pe : partD (.str w) [.str ⟨#[c]⟩] = some (.t [.str (Txt.partition w ⟨#[c]⟩).1, .str (Txt.partition w ⟨#[c]⟩).2.1, .str (Txt.partition w ⟨#[c]⟩).2.2]) := if_pos ⟨rfl, by omega⟩
  refine asg3 (gv_bm (gv_var (i := 0) rfl) (gv_var (i := 1) rfl) pe rfl) ?_
  dsimp only [List.set_cons_succ, List.set_cons_zero]
  rw [s_if]
  by_cases q : c ∈ cs w
  · obtain ⟨u, v, e, n⟩ := TX.cut_first q
    have ep := TX.part_yes e n
    rw [ep]
    have lu : (mkS u).length ≤ 1000000 ∧ (mkS v).length ≤ 1000000 := by
      have := congrArg List.length e
      rw [List.length_append, List.length_cons, ← str_len] at this
      rw [str_len, str_len]
      show u.length ≤ _ ∧ v.length ≤ _
      omega
    have gt : ∀ ρ : Rho, ρ[(3 : Nat)]? = some (some (.d (.str (mkS u)))) → ρ[(5 : Nat)]? = some (some (.d (.str (mkS v)))) → ρ[(2 : Nat)]? = some (some (.d (.int s))) → Gv (wTup (wCons (wVar 3) (wCons (wVar 5) (wCons (wVar 2) wNil)))) ρ [] (.tuple [.str (mkS u), .str (mkS v), .int s]) := fun ρ h3 h5 h2 => gv_tup3 (gv_var h3) (gv_var h5) (gv_var h2)
    have ne : (⟨#[c]⟩ : Str) ≠ Str.empty := fun h => by
      have := congrArg (fun z : Str => z.cps.size) h
      cases this
    have g1 : Tv (wB (wBin (eqD true) (wVar 4) (wC (.str "")))) [some (.d (.str w)), some (.d (.str ⟨#[c]⟩)), some (.d (.int s)), some (.d (.str (mkS u))), some (.d (.str ⟨#[c]⟩)), some (.d (.str (mkS v)))] [] true := by
      have g := tv_B (gv_neB (gv_var (ρ := [some (.d (.str w)), some (.d (.str ⟨#[c]⟩)), some (.d (.int s)), some (.d (.str (mkS u))), some (.d (.str ⟨#[c]⟩)), some (.d (.str (mkS v)))]) (κ := []) (i := 4) rfl))
      rw [decide_eq_false ne] at g
      exact g
    refine tv_and g1 (fun _ => tv_tru (gv_call1 (z := .bool (hookB (.tuple [.str (mkS u), .str (mkS v), .int s]))) (gt _ rfl rfl rfl) fun P kk => ⟨_, rfl, sml_three lu.1 lu.2, kk (.d (.bool (hookB (.tuple [.str (mkS u), .str (mkS v), .int s])))) rfl⟩)) _ ?_
    cases hb : hookB (.tuple [.str (mkS u), .str (mkS v), .int s]) with
    | true =>
      rw [if_pos (by rfl), s_ret]
      refine gt _ rfl rfl rfl _ fun r hr => ?_
      rw [st_tuple hr]
      exact k2 u v e hb ep
    | false =>
      rw [if_neg (by decide), s_next]
      exact k _ _ _ (.inr ⟨u, v, ep, e, hb⟩)
  · rw [TX.part_no q]
    have g1 : Tv (wB (wBin (eqD true) (wVar 4) (wC (.str "")))) [some (.d (.str w)), some (.d (.str ⟨#[c]⟩)), some (.d (.int s)), some (.d (.str w)), some (.d (.str Str.empty)), some (.d (.str Str.empty))] [] false := by
      have g := tv_B (gv_neB (gv_var (ρ := [some (.d (.str w)), some (.d (.str ⟨#[c]⟩)), some (.d (.int s)), some (.d (.str w)), some (.d (.str Str.empty)), some (.d (.str Str.empty))]) (κ := []) (i := 4) rfl))
      rw [decide_eq_true rfl] at g
      exact g
    refine tv_and (c := false) g1 (fun h => by cases h) _ ?_
    rw [if_neg (by decide), s_next]
    exact k _ _ _ (.inl q)
theorem forT_nil {gs : List PyData → Rho → Kap → (Rho → Kap → Prop) → Prop} {b : DTS} {E : DEnds} {ρ : Rho} {κ : Kap} : forTL gs b E [] ρ κ = E.nx ρ κ := rfl
theorem forT_cons {gs : List PyData → Rho → Kap → (Rho → Kap → Prop) → Prop} {b : DTS} {E : DEnds} {ρ : Rho} {κ : Kap} {x : List PyData} {xs : List (List PyData)} : forTL gs b E (x :: xs) ρ κ = gs x ρ κ fun ρ1 κ1 => b { nx := fun ρ2 κ2 => forTL gs b E xs ρ2 κ2, rt := E.rt, bk := E.nx, ct := fun ρ2 κ2 => forTL gs b E xs ρ2 κ2 } ρ1 κ1 := rfl
theorem gs_two {i j : Nat} {a b : PyData} {ρ : Rho} {κ : Kap} {P : Rho → Kap → Prop} : wgCons (wName i) (wgCons (wName j) wgNil) [a, b] ρ κ P = P ((ρ.set i (some (.d a))).set j (some (.d b))) κ := rfl
theorem part_eq {w : Str} {c : Nat} {u v u2 v2 : List Nat} (a : Txt.partition w ⟨#[c]⟩ = (mkS u, ⟨#[c]⟩, mkS v)) (b : Txt.partition w ⟨#[c]⟩ = (mkS u2, ⟨#[c]⟩, mkS v2)) : u = u2 ∧ v = v2 := by
  rw [a] at b
  exact ⟨congrArg cs (Prod.mk.inj b).1, congrArg cs (Prod.mk.inj (Prod.mk.inj b).2).2⟩
theorem fit_no {w : Str} {c : Nat} {s : Int} {u v : List Nat} (hs : s = 1 ∨ s = -1) (hc : c < 97 ∨ 122 < c) (q : c ∈ cs w) (ep1 : Txt.partition w ⟨#[c]⟩ = (mkS u, ⟨#[c]⟩, mkS v)) (hb : hookB (.tuple [.str (mkS u), .str (mkS v), .int s]) = false) : fitW s (splitL c (cs w)) = .none := by
  obtain ⟨u2, v2, ep, e2, ef⟩ := TX.hook_part hc hs q
  obtain ⟨rfl, rfl⟩ := part_eq ep1 ep
  rw [TX.hook_fit hs] at hb
  rw [ef, hb]
  rfl
theorem fit_yes {w : Str} {c : Nat} {s : Int} {u v : List Nat} (hs : s = 1 ∨ s = -1) (hc : c < 97 ∨ 122 < c) (q : c ∈ cs w) (ep1 : Txt.partition w ⟨#[c]⟩ = (mkS u, ⟨#[c]⟩, mkS v)) (hb : hookB (.tuple [.str (mkS u), .str (mkS v), .int s]) = true) : fitW s (splitL c (cs w)) = .tuple [.str (mkS u), .str (mkS v), .int s] := by
  obtain ⟨u2, v2, ep, e2, ef⟩ := TX.hook_part hc hs q
  obtain ⟨rfl, rfl⟩ := part_eq ep1 ep
  rw [TX.hook_fit hs] at hb
  rw [ef, hb]
  rfl
theorem loop_ok {w : Str} {E : DEnds} (lw : w.length ≤ 1000000) (kn : wordD w = .none → ∀ q1 q2 q3 q4 q5, E.nx [some (.d (.str w)), q1, q2, q3, q4, q5] []) (kr : E.rt (.d (wordD w)) []) :
    wForT [[.str ⟨#[45]⟩, .int 1], [.str ⟨#[126]⟩, .int (-1)]] 2 (wgCons (wName 1) (wgCons (wName 2) wgNil)) wb_sense E [some (.d (.str w)), none, none, none, none, none] [] := by
  rw [s_forT]
  refine ⟨by simp, ?_⟩
  rw [forT_cons, gs_two]
  dsimp only [List.set_cons_succ, List.set_cons_zero]
  refine sense_ok lw (fun q3 q4 q5 h1 => ?_) fun u v e hb ep => ?_
  · dsimp only
    rw [forT_cons, gs_two]
    dsimp only [List.set_cons_succ, List.set_cons_zero]
    refine sense_ok lw (fun q3 q4 q5 h2 => ?_) fun u v e hb ep => ?_
    · dsimp only
      rw [forT_nil]
      refine kn ?_ _ _ _ _ _
      unfold wordD
      by_cases q : 45 ∈ cs w
      · rw [if_pos q]
        rcases h1 with h1 | ⟨u, v, ep1, e, hb⟩
        · exact absurd q h1
        · exact fit_no (.inl rfl) (by omega) q ep1 hb
      · rw [if_neg q]
        rcases h2 with h2 | ⟨u, v, ep1, e, hb⟩
        · rw [TX.splitL_self h2]
          rfl
        · exact fit_no (.inr rfl) (by omega) (by rw [e]; simp) ep1 hb
    · dsimp only
      have e2 : wordD w = .tuple [.str (mkS u), .str (mkS v), .int (-1)] := by
        unfold wordD
        by_cases q : 45 ∈ cs w
        · rw [e] at q
          have := TX.other_no (by omega) (by decide) q
          rw [TX.hook_fit (.inr rfl), this] at hb
          cases hb
        · rw [if_neg q]
          exact fit_yes (.inr rfl) (by omega) (by rw [e]; simp) ep hb
      rw [← e2]
      exact kr
  · dsimp only
    have e2 : wordD w = .tuple [.str (mkS u), .str (mkS v), .int 1] := by
      unfold wordD
      rw [if_pos (show 45 ∈ cs w by rw [e]; simp)]
      exact fit_yes (.inl rfl) (by omega) (by rw [e]; simp) ep hb
    rw [← e2]
    exact kr
theorem r_hook_in (rs : List R) (Pd : R → Prop) (h : Ph_hook_in rs Pd) (hl : rs.length = 1) : w_hook_in { nx := fun _ _ => Pd (.d .none), rt := fun r κ => Opt (outR κ 0 r) Pd } (rs.map some ++ List.replicate 5 none) [] := by
  obtain ⟨w, rfl, lw, k⟩ := h
  clear hl
  simp only [List.map_cons, List.map_nil, List.replicate_succ, List.replicate_zero, List.cons_append, List.nil_append]
  unfold w_hook_in
  rw [s_dash, s_wave, s_seq]
  refine loop_ok lw (fun e q1 q2 q3 q4 q5 => ?_) ?_
  · dsimp only
    rw [s_ret, s_c]
    dsimp only
    rw [outR_d, Opt_some, ← e]
    exact k
  · dsimp only
    rw [outR_d, Opt_some]
    exact k
def Ph_row_in : PhX := fun rs P PX => ∃ z : Str, rs = [.d (.str z)] ∧ z.length ≤ 100000 ∧ (∀ l, readT z = some l → P (.f l)) ∧ (readT z = none → PX "BadText" [("text", .str z)])
/-- row_in -/
def w_row_in : DTSX := (wSeqX (wPlain (wIfS (wB (wBin (eqD false) (wVar 0) (wC (.str ".")))) (wRet (wLst wNil)) wNext))
  (wSeqX (wPlain (wSet true 1 (wLc (wSq (wBM "str" splitD (wVar 0) (wCons (wC (.str " ")) wNil))) (wName 2) wYes (wCall Ph_hook_in (wCons (wVar 2) wNil)) [2])))
  (wSeqX (wIfX (wB (wBin (inD false) (wC .none) (wVar 1))) (wRaise "BadText" "text" (wVar 0)) (wPlain wNext))
  (wPlain (wRet (wVar 1))))))
theorem words_sum (z : Str) : lenS ((wordsT z).map cs) + (wordsT z).length = z.length + 1 := by
  have h := TX.splitL_sum 32 (cs z)
  unfold wordsT
  rw [List.map_map, List.length_map, str_len]
  have e : (splitL 32 (cs z)).map (cs ∘ mkS) = splitL 32 (cs z) := by
    rw [show (cs ∘ mkS) = id from rfl, List.map_id]
  rw [e]
  exact h
theorem lenS_mem : ∀ {ws : List (List Nat)} {w : List Nat}, w ∈ ws → w.length ≤ lenS ws
  | x :: xs, w, h => by
    rcases List.mem_cons.mp h with rfl | h
    · show _ ≤ w.length + _
      omega
    · have := lenS_mem h
      show _ ≤ x.length + _
      omega
theorem word_len {z w : Str} (h : w ∈ wordsT z) : w.length ≤ z.length := by
  have h1 := words_sum z
  have h2 := lenS_mem (List.mem_map_of_mem (f := cs) h)
  have h3 : 0 < (wordsT z).length := List.length_pos_of_mem h
  rw [str_len w]
  omega
theorem split_w {z : Str} (l : z.length ≤ 1000000) : splitD (.str z) [.str gap] = some (.n ((wordsT z).map .str)) := by
  rw [← TX.split_gap]
  exact if_pos ⟨rfl, by omega⟩
theorem word_good (w : Str) : GoodN 4 (wordD w) := by
  rcases TX.wordD_is w with e | ⟨h, hi, e⟩
  · rw [e]; exact trivial
  · rw [e]
    refine ⟨by rw [sizeLine_eq]; show 3 ≤ 16777216; decide, fun x hx => ?_⟩
    simp only [List.mem_cons, List.not_mem_nil, or_false] at hx
    rcases hx with rfl | rfl | rfl
    · exact hi.1.shaped
    · exact hi.2.1.shaped
    · exact trivial
theorem noneB_eqv {w : Str} : PyData.eqv (wordD w) .none = noneB (wordD w) := by
  rcases TX.wordD_is w with e | ⟨h, hi, e⟩
  · rw [e]; rfl
  · rw [e]; rfl
theorem words_some (z : Str) : (wordsT z).length ≤ z.length + 1 := by have := words_sum z; omega
theorem in_none {z : Str} (l : z.length ≤ 100000) : inD false .none (.list ((wordsT z).map wordD)) = some (.v (.bool (((wordsT z).map wordD).any noneB))) := by
  have hg : GoodN 5 (.list ((wordsT z).map wordD)) := ⟨by have := words_some z; rw [List.length_map, sizeLine_eq]; omega, fun x hx => by
    obtain ⟨w, _, rfl⟩ := List.mem_map.mp hx
    exact word_good w⟩
  have s1 : SeqAt.shaped (.list ((wordsT z).map wordD)) = true := good_shaped hg (by omega)
  show (if SeqAt.shaped PyData.none = true ∧ _ then _ else _) = _
  rw [if_pos ⟨rfl, s1⟩, if_neg (by decide)]
  congr 3
  rw [List.any_map, List.any_map]
  congr 1
  funext w
  exact noneB_eqv
theorem eq_dot {ρ : Rho} {κ : Kap} {wa : DTE} {z : Str} (g : Gv wa ρ κ (.str z)) : Gv (wBin (eqD false) wa (wC (.str "."))) ρ κ (.bool (decide (z = dot))) := by
  rw [s_dot]
  exact gv_bin g (gv_c (x := .str dot)) (eqD_ss false z dot) rfl
theorem r_row_in (rs : List R) (Pd : R → Prop) (PX : DExc) (h : Ph_row_in rs Pd PX) (hl : rs.length = 1) : w_row_in PX { nx := fun _ _ => Pd (.d .none), rt := fun r κ => Opt (outR κ 0 r) Pd } (rs.map some ++ List.replicate 2 none) [] := by
  obtain ⟨z, rfl, l, k, kx⟩ := h
  clear hl
  have hz := sizeLine_eq
  simp only [List.map_cons, List.map_nil, List.replicate_succ, List.replicate_zero, List.cons_append, List.nil_append]
  unfold w_row_in
  rw [s_seqX, s_plain, s_if]
  refine tv_B (eq_dot (gv_var (i := 0) rfl)) _ ?_
  by_cases q : z = dot
  · rw [decide_eq_true q, if_pos rfl, s_ret, s_lst, s_nil, dats_nil, Opt_some]
    refine ⟨by simp, ?_⟩
    have : readT z = some [] := if_pos q
    exact k _ this
  · rw [decide_eq_false q, if_neg (by decide), s_next]
    dsimp only
    rw [s_seqX, s_plain, s_set, s_lc, s_sq, s_gap]
    refine gv_bm (gv_var (i := 0) rfl) (gv_c (x := .str gap)) (split_w (by omega)) rfl _ fun r hr => ?_
    rw [hr, val_d, Opt_some]
    dsimp only
    refine lc_map (PyData.str) wordD (by exact val_d ..) (wordsT z) [] (by have := words_some z; rw [List.length_nil, hz]; omega) (fun w hw C kc => ?_) ?_
    · rw [s_name]
      exact gv_call1 (gv_var (i := 2) rfl) (fun P kk => ⟨w, rfl, by have := word_len hw; omega, kk (.d (wordD w)) rfl⟩) C fun r hr => by
        have : r = .d (wordD w) := by
          rcases TX.wordD_is w with e | ⟨h, _, e⟩
          · rw [e] at hr ⊢
            cases r with
            | d y => exact hr
            | f xs => exact nomatch (show R.d (.list xs) = R.d .none from hr)
            | _ => cases hr
          · rw [e] at hr ⊢
            exact st_tuple hr
        rw [this]; exact kc
    · rw [List.nil_append, sto_t]
      dsimp only [List.set_cons_succ, List.set_cons_zero, List.length_nil, List.nil_append]
      rw [s_seqX, s_ifX]
      refine (show Tv (wB (wBin (inD false) (wC .none) (wVar 1))) [some (.d (.str z)), some (.c 0), none] [.l ((wordsT z).map wordD)] (((wordsT z).map wordD).any noneB) from fun Q kq => ?_) _ ?_
      · rw [s_B, s_bin, s_c, s_var]
        dsimp only [List.getElem?_cons_succ, List.getElem?_cons_zero]
        rw [show (R.d PyData.none).st = R.d .none from rfl, val_d, Opt_some, st_c, val_c (by rfl), Opt_some, in_none l, Opt_some]
        exact kq
      · cases hb : ((wordsT z).map wordD).any noneB with
        | true =>
          rw [if_pos rfl, s_raise, s_var]
          have e : readT z = none := by
            unfold readT
            rw [if_neg q, if_pos hb]
          exact kx e
        | false =>
          rw [if_neg (by decide), s_plain, s_next]
          dsimp only
          rw [s_plain, s_ret, s_var]
          have e : readT z = some ((wordsT z).map wordD) := by
            unfold readT
            rw [if_neg q, if_neg (by rw [hb]; decide)]
          exact k _ e
def Ph_law_text (rs : List R) (P : R → Prop) : Prop := ∃ row : Row, (∀ h ∈ row, HookIn h) ∧ row.length ≤ 1000 ∧ rs = [.d (rowD row)] ∧ P (.d (.str (rowT row)))
/-- _law_text -/
def w_law_text : DTS := (wSeq (wSet false 1 (wLc (wSq (wVar 0)) (wTupG 3 (wgCons (wName 2) (wgCons (wName 3) (wgCons (wName 4) wgNil)))) wYes (wBin addD (wBin addD (wVar 2) (wBin ixD (wLst (wCons (wC (.str "")) (wCons (wC (.str "-")) (wCons (wC (.str "~")) wNil)))) (wVar 4))) (wVar 3)) [2, 3, 4]))
  (wRet (wIf (wB (wBin (eqD true) (wVar 1) (wLst wNil))) (wBM "str" joinC (wC (.str " ")) (wCons (wVar 1) wNil)) (wC (.str ".")))))
theorem gv_addS {ρ : Rho} {κ : Kap} {wa wb : DTE} {a b : Str} (ha : Gv wa ρ κ (.str a)) (hb : Gv wb ρ κ (.str b)) (l : a.length + b.length ≤ 1000000) : Gv (wBin addD wa wb) ρ κ (.str (a ++ b)) := gv_bin ha hb (addD_str (by rw [sizeLine_eq]; omega)) rfl
theorem gv_sign3 {ρ : Rho} {κ : Kap} {wa : DTE} {h : Hook} (hs : h.2.2 = 1 ∨ h.2.2 = -1) (g : Gv wa ρ κ (.int h.2.2)) : Gv (wBin ixD (wLst (wCons (wC (.str "")) (wCons (wC (.str "-")) (wCons (wC (.str "~")) wNil)))) wa) ρ κ (.str ⟨#[sgT h]⟩) := by
  rw [s_dash, s_wave]
  refine gv_bin (gv_lst (ga_cons (gv_c (x := .str "")) (ga_cons (gv_c (x := .str ⟨#[45]⟩)) (ga_cons (gv_c (x := .str ⟨#[126]⟩)) ga_nil))) (by simp)) g (o := .v (.str ⟨#[sgT h]⟩)) ?_ rfl
  generalize ("" : Str) = e0
  unfold sgT
  rcases hs with e | e
  · rw [e]; rfl
  · rw [e]; rfl
theorem row_app (h : Hook) (s : Str) (e : cs s = [sgT h]) : h.1 ++ s ++ h.2.1 = hkT h := by
  refine str_ext ?_
  rw [cs_app, cs_app, e]
  show cs h.1 ++ [sgT h] ++ cs h.2.1 = cs h.1 ++ sgT h :: cs h.2.1
  simp
theorem r_law_text (rs : List R) (Pd : R → Prop) (h : Ph_law_text rs Pd) (hl : rs.length = 1) : w_law_text { nx := fun _ _ => Pd (.d .none), rt := fun r κ => Opt (outR κ 0 r) Pd } (rs.map some ++ List.replicate 4 none) [] := by
  obtain ⟨row, hi, l, rfl, k⟩ := h
  clear hl
  have hz := sizeLine_eq
  simp only [List.map_cons, List.map_nil, List.replicate_succ, List.replicate_zero, List.cons_append, List.nil_append]
  unfold w_law_text
  rw [s_seq]
  refine set_gv (x := .list ((row.map hkT).map .str)) ?_ ?_
  · rw [List.map_map]
    refine gv_lcm (f := hookD) (gv_var (i := 0) rfl) (by omega) fun x hx C kc => ?_
    refine (show (wTupG 3 (wgCons (wName 2) (wgCons (wName 3) (wgCons (wName 4) wgNil)))) (.d (hookD x)) _ _ _ from ⟨rfl, ?_⟩)
    have n1 := name_len (hi x hx).1
    have n2 := name_len (hi x hx).2.1
    have g : Gv (wBin addD (wBin addD (wVar 2) (wBin ixD (wLst (wCons (wC (.str "")) (wCons (wC (.str "-")) (wCons (wC (.str "~")) wNil)))) (wVar 4))) (wVar 3)) [some (.d (rowD row)), none, some (.d (.str x.1)), some (.d (.str x.2.1)), some (.d (.int x.2.2))] [] (.str (hkT x)) := by
      have g := gv_addS (a := x.1 ++ ⟨#[sgT x]⟩) (b := x.2.1) (gv_addS (gv_var (ρ := [some (.d (rowD row)), none, some (.d (.str x.1)), some (.d (.str x.2.1)), some (.d (.int x.2.2))]) (κ := []) (i := 2) rfl) (gv_sign3 (hi x hx).2.2.2 (gv_var (i := 4) rfl)) (by show _ + 1 ≤ _; omega)) (gv_var (i := 3) rfl) (by rw [app_l]; show _ + 1 + _ ≤ _; omega)
      rw [row_app x _ rfl] at g
      exact g
    exact g C fun r hr => by rw [st_str hr]; exact kc
  · dsimp only [List.set_cons_succ, List.set_cons_zero]
    have lj : lenS ((row.map hkT).map cs) + (row.map hkT).length ≤ 16777216 := by
      have h2 := TX.lenS_le (n := 13) (ws := (row.map hkT).map cs) fun w hw => by
        obtain ⟨y, hy, rfl⟩ := List.mem_map.mp hw
        obtain ⟨x, hx, rfl⟩ := List.mem_map.mp hy
        exact (TX.hkT_len (hi x hx)).2
      rw [List.length_map, List.length_map] at h2
      rw [List.length_map]
      omega
    have ej : (row.map hkT).map cs = row.map fun h => cs (hkT h) := by rw [List.map_map]; rfl
    rw [s_ret, s_ifx]
    have sh : GoodN 5 (.list ((row.map hkT).map .str)) := ⟨by rw [List.length_map, List.length_map, hz]; omega, fun x hx => by
      obtain ⟨y, hy, rfl⟩ := List.mem_map.mp hx
      obtain ⟨g, hg, rfl⟩ := List.mem_map.mp hy
      exact shaped_of fun c hc => by have := TX.hkT_ok (hi g hg) c hc; omega⟩
    have en : eqD true (.list ((row.map hkT).map .str)) (.list []) = some (.v (.bool (!decide (row = [])))) := by
      rw [eqD_of (good_shaped sh (by omega)) (good_shaped (n := 5) (x := .list []) ⟨by simp, fun x hx => nomatch hx⟩ (by omega))]
      cases row with
      | nil => rfl
      | cons x xs => rfl
    refine tv_B (gv_bin (z := .bool (!decide (row = []))) (gv_var (i := 1) rfl) gv_lst0 en rfl) _ ?_
    by_cases q : row = []
    · rw [decide_eq_true q, if_neg (by decide), s_c]
      dsimp only
      rw [outR_d, Opt_some, s_dot]
      have e : rowT row = dot := if_pos q
      rw [e] at k
      exact k
    · rw [decide_eq_false q, if_pos (by rfl)]
      refine gv_bm (gv_c (x := .str " ")) (gv_var (i := 1) rfl) (by rw [s_gap]; exact joinC_gap lj) rfl _ fun r hr => ?_
      rw [st_str hr]
      dsimp only
      rw [outR_d, Opt_some, ej]
      have e : rowT row = mkS (joinL 32 (row.map fun h => cs (hkT h))) := if_neg q
      rw [e] at k
      exact k
def Ph_law_is_name (rs : List R) (P : R → Prop) : Prop := ∃ z : Str, rs = [.d (.str z)] ∧ z.length ≤ 1000000 ∧ P (.d (.bool (okN (cs z))))
/-- _law_is_name -/
def w_law_is_name : DTS := (wRet (wAndV (wChain (ordD ltI ltS) (ordD ltI ltS) (wC (.int 0)) (wCB lenD (wCons (wVar 0) wNil)) (wC (.int 7))) (wBin (eqD false) (wBM "str" stripD (wVar 0) (wCons (wC (.str "abcdefghijklmnopqrstuvwxyz")) wNil)) (wC (.str "")))))
theorem r_law_is_name (rs : List R) (Pd : R → Prop) (h : Ph_law_is_name rs Pd) (hl : rs.length = 1) : w_law_is_name { nx := fun _ _ => Pd (.d .none), rt := fun r κ => Opt (outR κ 0 r) Pd } (rs.map some ++ List.replicate 0 none) [] := by
  obtain ⟨z, rfl, lz, k⟩ := h
  clear hl
  have hz := sizeLine_eq
  simp only [List.map_cons, List.map_nil, List.replicate_zero, List.append_nil]
  unfold w_law_is_name
  rw [s_ret]
  have le : lenD [.str z] = some (.v (.int z.length)) := by
    show (if z.length ≤ sizeLine then _ else _) = _
    rw [if_pos (by omega)]
  have sd : stripD (.str z) [.str "abcdefghijklmnopqrstuvwxyz"] = some (.v (.str (Txt.stripChars z "abcdefghijklmnopqrstuvwxyz"))) := if_pos (by omega)
  have eb : okN (cs z) = ((ltI 0 (z.length : Int) && ltI (z.length : Int) 7) && decide (Txt.stripChars z "abcdefghijklmnopqrstuvwxyz" = (⟨#[]⟩ : Str))) := by
    have e1 : decide (Txt.stripChars z "abcdefghijklmnopqrstuvwxyz" = (⟨#[]⟩ : Str)) = (cs z).all letterB := by
      rw [Bool.eq_iff_iff, decide_eq_true_iff, strip_bare]
      have : (fun c => ("abcdefghijklmnopqrstuvwxyz" : Str).cps.contains c) = letterB := funext letters_in
      rw [this]
    rw [e1]
    unfold okN
    congr 1
    rw [← str_len, Bool.eq_iff_iff, Bool.and_eq_true, Bool.and_eq_true]
    unfold ltI
    rw [decide_eq_true_iff, decide_eq_true_iff, decide_eq_true_iff, decide_eq_true_iff]
    omega
  generalize ("abcdefghijklmnopqrstuvwxyz" : Str) = ab at *
  rw [s_nil']
  refine (?_ : Gv _ _ _ (.bool (okN (cs z)))) _ fun r hr => ?_
  · rw [eb]
    refine gv_andV (gv_chain (gv_c (x := .int 0)) (gv_cb (gv_var (i := 0) rfl) le rfl) (gv_c (x := .int 7)) rfl fun _ => rfl) fun _ => gv_bin (gv_bm (gv_var (i := 0) rfl) (gv_c (x := .str ab)) sd rfl) (gv_c (x := .str Str.empty)) (eqD_ss false _ _) rfl
  · rw [st_bool hr]
    dsimp only
    rw [outR_d, Opt_some]
    exact k
def Ph_law_read (rs : List R) (P : R → Prop) : Prop := ∃ z : Str, rs = [.d (.str z)] ∧ z.length ≤ 100000 ∧ (∀ l, readT z = some l → P (.f l)) ∧ (readT z = none → P (.d .none))
def wt_bad : DTT := (wOr (wB (wBin (eqD true) (wCB lenD (wCons (wVar 4) wNil)) (wC (.int 2)))) (wOr (wNot (wTru (wCall Ph_law_is_name (wCons (wBin ixD (wVar 4) (wC (.int 0))) wNil)))) (wOr (wNot (wTru (wCall Ph_law_is_name (wCons (wBin ixD (wVar 4) (wC (.int 1))) wNil)))) (wB (wBin geSD (wBin ixD (wVar 4) (wC (.int 0))) (wBin ixD (wVar 4) (wC (.int 1))))))))
def wb_word : DTS := (wSeq (wSet false 3 (wIf (wB (wBin (inD false) (wC (.str "-")) (wVar 2))) (wC (.str "-")) (wC (.str "~"))))
  (wSeq (wSet false 4 (wBM "str" splitD (wVar 2) (wCons (wVar 3) wNil)))
  (wSeq (wIfS wt_bad (wRet (wC .none)) wNext)
  (wDrop (wAppend (wVar 1) (wTup (wCons (wBin ixD (wVar 4) (wC (.int 0))) (wCons (wBin ixD (wVar 4) (wC (.int 1))) (wCons (wIf (wB (wBin (eqD false) (wVar 3) (wC (.str "-")))) (wC (.int 1)) (wUn negD (wC (.int 1)))) wNil)))))))))
/-- _law_read -/
def w_law_read : DTS := (wSeq (wSet true 1 (wLst wNil))
  (wSeq (wFor (wSq (wIf (wB (wBin (eqD true) (wVar 0) (wC (.str ".")))) (wBM "str" splitD (wVar 0) (wCons (wC (.str " ")) wNil)) (wLst wNil))) (wName 2) wb_word)
  (wRet (wVar 1))))
def sigW (w : Str) : Nat := if 45 ∈ cs w then 45 else 126
def senW (w : Str) : Int := if 45 ∈ cs w then 1 else -1
theorem wordD_sig (w : Str) : wordD w = fitW (senW w) (splitL (sigW w) (cs w)) := by
  unfold wordD senW sigW
  by_cases q : 45 ∈ cs w
  · rw [if_pos q, if_pos q, if_pos q]
  · rw [if_neg q, if_neg q, if_neg q]
theorem gv_sig {ρ : Rho} {κ : Kap} {wa : DTE} {w : Str} (g : Gv wa ρ κ (.str w)) : Gv (wIf (wB (wBin (inD false) (wC (.str "-")) wa)) (wC (.str "-")) (wC (.str "~"))) ρ κ (.str ⟨#[sigW w]⟩) := by
  rw [s_dash, s_wave]
  have e : inD false (.str ⟨#[45]⟩) (.str w) = some (.v (.bool (decide (45 ∈ cs w)))) := by
    rw [← TX.has_one]
    rfl
  have t := gv_if (tv_B (gv_bin (gv_c (x := .str ⟨#[45]⟩)) g e rfl)) (fun _ => gv_c (x := .str ⟨#[45]⟩)) (fun _ => gv_c (x := .str ⟨#[126]⟩))
  unfold sigW
  by_cases q : 45 ∈ cs w
  · rw [decide_eq_true q, if_pos rfl] at t
    rw [if_pos q]
    exact t
  · rw [decide_eq_false q, if_neg (by decide)] at t
    rw [if_neg q]
    exact t
theorem gv_sen {ρ : Rho} {κ : Kap} {wa : DTE} {w : Str} (g : Gv wa ρ κ (.str ⟨#[sigW w]⟩)) : Gv (wIf (wB (wBin (eqD false) wa (wC (.str "-")))) (wC (.int 1)) (wUn negD (wC (.int 1)))) ρ κ (.int (senW w)) := by
  rw [s_dash]
  have t := gv_if (tv_B (gv_bin g (gv_c (x := .str ⟨#[45]⟩)) (eqD_ss false ⟨#[sigW w]⟩ ⟨#[45]⟩) rfl)) (fun _ => gv_c (x := .int 1)) (fun _ => gv_neg1)
  unfold sigW senW at *
  by_cases q : 45 ∈ cs w
  · rw [if_pos q] at t ⊢
    exact t
  · rw [if_neg q] at t ⊢
    exact t
theorem sig_small (w : Str) : sigW w < 256 := by
  unfold sigW
  split <;> decide
theorem split_s {w : Str} (l : w.length ≤ 1000000) : splitD (.str w) [.str ⟨#[sigW w]⟩] = some (.n ((splitL (sigW w) (cs w)).map fun p => .str (mkS p))) := by
  have e : Txt.split w ⟨#[sigW w]⟩ = (splitL (sigW w) (cs w)).map mkS := TX.split_eq w (sig_small w)
  show (if _ then some (Out.n ((Txt.split w ⟨#[sigW w]⟩).map .str)) else none) = _
  rw [if_pos ⟨rfl, by omega⟩, e, List.map_map]
  rfl
def badB : List (List Nat) → Bool
  | [u, v] => !fitB u v
  | _ => true
theorem fitW_bad (s : Int) (l : List (List Nat)) : (badB l = true ∧ fitW s l = .none) ∨ ∃ u v, l = [u, v] ∧ badB l = false ∧ fitW s l = .tuple [.str (mkS u), .str (mkS v), .int s] := by
  match l with
  | [] => exact .inl ⟨rfl, rfl⟩
  | [_] => exact .inl ⟨rfl, rfl⟩
  | [u, v] =>
    cases h : fitB u v with
    | true => exact .inr ⟨u, v, rfl, by show (!fitB u v) = false; rw [h]; rfl, by show (if fitB u v = true then _ else _) = _; rw [h]; rfl⟩
    | false => exact .inl ⟨by show (!fitB u v) = true; rw [h]; rfl, by show (if fitB u v = true then _ else _) = _; rw [h]; rfl⟩
  | _ :: _ :: _ :: _ => exact .inl ⟨rfl, rfl⟩
theorem tv_bad {ρ : Rho} {κ : Kap} {l : List (List Nat)} (h4 : ρ[(4 : Nat)]? = some (some (.d (.list (l.map fun p => .str (mkS p)))))) (hl : ∀ p ∈ l, p.length ≤ 1000000) (ll : l.length ≤ 1000000) : Tv wt_bad ρ κ (badB l) := by
  unfold wt_bad
  have gn := gv_neI (gv_len (gv_var (κ := κ) h4)) (gv_c (x := .int 2))
  rw [List.length_map] at gn
  by_cases q : l.length = 2
  · match l, q with
    | [u, v], _ =>
      have lu := hl u (by simp)
      have lv := hl v (by simp)
      have g0 : Gv (wBin ixD (wVar 4) (wC (.int 0))) ρ κ (.str (mkS u)) := gv_at (i := 0) (gv_var h4) (gv_c (x := .int ((0 : Nat) : Int))) rfl
      have g1 : Gv (wBin ixD (wVar 4) (wC (.int 1))) ρ κ (.str (mkS v)) := gv_at (i := 1) (gv_var h4) (gv_c (x := .int ((1 : Nat) : Int))) rfl
      have n0 : Gv (wCall Ph_law_is_name (wCons (wBin ixD (wVar 4) (wC (.int 0))) wNil)) ρ κ (.bool (okN u)) := gv_call1 g0 fun P kk => ⟨mkS u, rfl, lu, kk (.d (.bool (okN u))) rfl⟩
      have n1 : Gv (wCall Ph_law_is_name (wCons (wBin ixD (wVar 4) (wC (.int 1))) wNil)) ρ κ (.bool (okN v)) := gv_call1 g1 fun P kk => ⟨mkS v, rfl, lv, kk (.d (.bool (okN v))) rfl⟩
      have gg : Gv (wBin geSD (wBin ixD (wVar 4) (wC (.int 0))) (wBin ixD (wVar 4) (wC (.int 1)))) ρ κ (.bool (!decide (u < v))) := gv_bin g0 g1 (o := .v (.bool (!decide (u < v)))) rfl rfl
      have t := tv_or (tv_B gn) fun _ => tv_or (tv_not (tv_tru n0)) fun _ => tv_or (tv_not (tv_tru n1)) fun _ => tv_B gg
      have e : ((!decide (((2 : Nat) : Int) = 2)) || ((!okN u) || ((!okN v) || (!decide (u < v))))) = badB [u, v] := by
        show _ = !fitB u v
        unfold fitB
        cases okN u <;> cases okN v <;> cases decide (u < v) <;> rfl
      rw [← e]
      exact t
  · have e : badB l = true := by
      match l, q with
      | [], _ => rfl
      | [_], _ => rfl
      | [_, _], q => exact absurd rfl q
      | _ :: _ :: _ :: _, _ => rfl
    rw [e]
    rw [decide_eq_false (by omega)] at gn
    exact tv_orT (tv_B gn)
theorem read_loop {z : Str} {E : DEnds} {ok : Kap → Prop} (hok : ∀ κ, ok κ) : ∀ (ws : List Str) (acc : List PyData) (p2 p3 p4 : Option R), (∀ w ∈ ws, w.length ≤ 100000) → acc.length + ws.length ≤ 1000000 →
    ((ws.map wordD).any noneB = true → ∀ κ, E.rt (.d .none) κ) → ((ws.map wordD).any noneB = false → ∀ p2 p3 p4, E.nx [some (.d (.str z)), some (.c 0), p2, p3, p4] [.l (acc ++ ws.map wordD)]) →
    forL ok (wName 2) wb_word E (ws.map .str) [some (.d (.str z)), some (.c 0), p2, p3, p4] [.l acc]
  | [], acc, p2, p3, p4, _, _, _, k => by
    rw [List.map_nil, forL_nil]
    have := k rfl p2 p3 p4
    rw [List.map_nil, List.append_nil] at this
    exact this
  | w :: ws, acc, p2, p3, p4, hw, hl, kn, k => by
    have lw := hw w (List.mem_cons_self ..)
    rw [List.length_cons] at hl
    rw [List.map_cons, forL_cons, s_name]
    dsimp only [List.set_cons_succ, List.set_cons_zero]
    unfold wb_word
    rw [s_seq]
    refine set_gv (gv_sig (w := w) (gv_var (i := 2) rfl)) ?_
    dsimp only [List.set_cons_succ, List.set_cons_zero]
    rw [s_seq]
    refine set_gv (gv_bm (gv_var (i := 2) rfl) (gv_var (i := 3) rfl) (split_s (by omega)) rfl) ?_
    dsimp only [List.set_cons_succ, List.set_cons_zero]
    have hsum := TX.splitL_sum (sigW w) (cs w)
    rw [← str_len] at hsum
    have hp : ∀ p ∈ splitL (sigW w) (cs w), p.length ≤ 1000000 := fun p hp => by
      have := lenS_mem hp
      have : 0 < (splitL (sigW w) (cs w)).length := List.length_pos_of_mem hp
      omega
    rw [s_seq, s_if]
    refine tv_bad (l := splitL (sigW w) (cs w)) rfl hp (by omega) _ ?_
    rw [List.map_cons, List.any_cons] at kn k
    rcases fitW_bad (senW w) (splitL (sigW w) (cs w)) with ⟨e1, e2⟩ | ⟨u, v, e0, e1, e2⟩
    · rw [e1, if_pos rfl, s_ret, s_c]
      have : noneB (wordD w) = true := by rw [wordD_sig, e2]; rfl
      rw [this, Bool.true_or] at kn
      exact kn rfl _
    · rw [e1, if_neg (by decide), s_next]
      dsimp only
      have ew : wordD w = .tuple [.str (mkS u), .str (mkS v), .int (senW w)] := by rw [wordD_sig, e2]
      have en : noneB (wordD w) = false := by rw [ew]; rfl
      rw [en, Bool.false_or] at kn k
      have h4 : [some (R.d (.str z)), some (R.c 0), some (R.d (.str w)), some (R.d (.str ⟨#[sigW w]⟩)), some (R.d (.list ((splitL (sigW w) (cs w)).map fun p => .str (mkS p))))][(4 : Nat)]? = some (some (.d (.list [.str (mkS u), .str (mkS v)]))) := by rw [e0]; rfl
      refine gv_app (x := wordD w) (j := 0) (i := 1) rfl rfl ?_ (by omega) ?_
      · rw [ew]
        exact gv_tup3 (gv_at (i := 0) (gv_var h4) (gv_c (x := .int ((0 : Nat) : Int))) rfl) (gv_at (i := 1) (gv_var h4) (gv_c (x := .int ((1 : Nat) : Int))) rfl) (gv_sen (gv_var (i := 3) rfl))
      · refine ⟨hok _, ?_⟩
        dsimp only [List.set_cons_zero]
        refine read_loop hok ws (acc ++ [wordD w]) _ _ _ (fun x hx => hw x (List.mem_cons_of_mem _ hx)) (by rw [List.length_append]; show _ + 1 + _ ≤ _; omega) kn fun h q2 q3 q4 => ?_
        have := k h q2 q3 q4
        rw [List.append_assoc]
        exact this
theorem r_law_read (rs : List R) (Pd : R → Prop) (h : Ph_law_read rs Pd) (hl : rs.length = 1) : w_law_read { nx := fun _ _ => Pd (.d .none), rt := fun r κ => Opt (outR κ 0 r) Pd } (rs.map some ++ List.replicate 4 none) [] := by
  obtain ⟨z, rfl, l, k, kn⟩ := h
  clear hl
  have hz := sizeLine_eq
  simp only [List.map_cons, List.map_nil, List.replicate_succ, List.replicate_zero, List.cons_append, List.nil_append]
  unfold w_law_read
  rw [s_seq, s_set, s_lst, s_nil, dats_nil, Opt_some]
  refine ⟨by simp, ?_⟩
  rw [sto_t]
  dsimp only [List.set_cons_succ, List.set_cons_zero, List.length_nil, List.nil_append]
  rw [s_seq]
  by_cases q : z = dot
  · have gs : Gv (wIf (wB (wBin (eqD true) (wVar 0) (wC (.str ".")))) (wBM "str" splitD (wVar 0) (wCons (wC (.str " ")) wNil)) (wLst wNil)) [some (.d (.str z)), some (.c 0), none, none, none] [.l []] (.list []) := by
      have t := gv_if (b := false) (wt := wB (wBin (eqD true) (wVar 0) (wC (.str ".")))) (wa := wBM "str" splitD (wVar 0) (wCons (wC (.str " ")) wNil)) (x := .none) (ρ := [some (.d (.str z)), some (.c 0), none, none, none]) (κ := [.l []]) (by
        rw [s_dot]
        have g := tv_B (gv_bin (gv_var (ρ := [some (.d (.str z)), some (.c 0), none, none, none]) (κ := [.l []]) (i := 0) rfl) (gv_c (x := .str dot)) (eqD_ss true z dot) rfl)
        rw [decide_eq_true q] at g
        exact g) (fun h => nomatch h) (fun _ => gv_lst0)
      exact t
    refine for_sq gs fun ok hok => ?_
    rw [forL_nil]
    dsimp only
    rw [s_ret, s_var]
    exact k [] (if_pos q)
  · have gs : Gv (wIf (wB (wBin (eqD true) (wVar 0) (wC (.str ".")))) (wBM "str" splitD (wVar 0) (wCons (wC (.str " ")) wNil)) (wLst wNil)) [some (.d (.str z)), some (.c 0), none, none, none] [.l []] (.list ((wordsT z).map .str)) := by
      have t := gv_if (b := true) (wt := wB (wBin (eqD true) (wVar 0) (wC (.str ".")))) (wb := wLst wNil) (y := .none) (ρ := [some (.d (.str z)), some (.c 0), none, none, none]) (κ := [.l []]) (by
        rw [s_dot]
        have g := tv_B (gv_bin (gv_var (ρ := [some (.d (.str z)), some (.c 0), none, none, none]) (κ := [.l []]) (i := 0) rfl) (gv_c (x := .str dot)) (eqD_ss true z dot) rfl)
        rw [decide_eq_false q] at g
        exact g) (fun _ => gv_bm (gv_var (i := 0) rfl) (gv_c (x := .str " ")) (by rw [s_gap]; exact split_w (z := z) (by omega)) rfl) (fun h => nomatch h)
      exact t
    refine for_sq gs fun ok hok => ?_
    have ws := words_some z
    refine read_loop hok (wordsT z) [] _ _ _ (fun w hw => by have := word_len hw; omega) (by show 0 + _ ≤ _; omega) (fun hb κ => ?_) fun hb p2 p3 p4 => ?_
    · dsimp only
      rw [outR_d, Opt_some]
      refine kn ?_
      unfold readT
      rw [if_neg q, if_pos hb]
    · dsimp only
      rw [s_ret, s_var, List.nil_append]
      refine k _ ?_
      unfold readT
      rw [if_neg q, if_neg (by rw [hb]; decide)]
def Ph_law_told (rs : List R) (P : R → Prop) : Prop := ∃ z : Str, rs = [.d (.str z)] ∧ z.length ≤ 100000 ∧ (∀ l, readT z = some l → P (.f l)) ∧ (readT z = none → P (.d (.tuple [.str z])))
/-- _law_told -/
def w_law_told : DTS := (wSeq (wPar 1 2 (wConsM true (wC .none) (wConsM false (wC .none) wNil)))
  (wSeq (wTryX Ph_row_in true 1 2 3 ["BadText"] (wCons (wVar 0) wNil))
  (wSeq (wIfS (wIsNX (wVar 2)) (wRet (wVar 1)) wNext)
  (wRet (wIf (wAnd (wTru (wIsX [("BadText", true)] (wVar 2))) (wTru (wIsX [("BadText", true)] (wVar 2)))) (wTup (wCons (wFldX "text" ["BadText"] (wVar 2)) wNil)) (wC (.str "other")))))))
theorem gv_isX {ρ : Rho} {κ : Kap} {i : Nat} {cn : Str} {fs : List (Str × PyData)} {l : List (Str × Bool)} {b : Bool} (h : ρ[i]? = some (some (.xe cn fs))) (e : l.lookup cn = some b) : Gv (wIsX l (wVar i)) ρ κ (.bool b) := fun Q k => by
  rw [s_isX, s_var, h]
  dsimp only
  rw [e, Opt_some]
  exact k _ rfl
theorem gv_fldX {ρ : Rho} {κ : Kap} {i : Nat} {cn fld : Str} {fs : List (Str × PyData)} {cns : List Str} {x : PyData} (h : ρ[i]? = some (some (.xe cn fs))) (hc : cn ∈ cns) (e : fs.lookup fld = some x) : Gv (wFldX fld cns (wVar i)) ρ κ x := fun Q k => by
  rw [s_fldX, s_var, h]
  dsimp only
  rw [e, Opt_some]
  exact ⟨hc, k _ rfl⟩
theorem look_one {α : Type} {k : Str} {b : α} : ([(k, b)] : List (Str × α)).lookup k = some b := by simp [List.lookup]
theorem r_law_told (rs : List R) (Pd : R → Prop) (h : Ph_law_told rs Pd) (hl : rs.length = 1) : w_law_told { nx := fun _ _ => Pd (.d .none), rt := fun r κ => Opt (outR κ 0 r) Pd } (rs.map some ++ List.replicate 3 none) [] := by
  obtain ⟨z, rfl, l, k1, k2⟩ := h
  clear hl
  have hz := sizeLine_eq
  simp only [List.map_cons, List.map_nil, List.replicate_succ, List.replicate_zero, List.cons_append, List.nil_append]
  unfold w_law_told
  rw [s_seq, s_par, s_consM, s_c, s_consM, s_c, s_nil]
  rw [sto_d, sto_d]
  dsimp only [List.set_cons_succ, List.set_cons_zero]
  rw [s_seq, s_tryX, s_cons, s_var]
  dsimp only [List.getElem?_cons_succ, List.getElem?_cons_zero]
  rw [s_nil, st_d, args_d, DL.args_nil]
  dsimp only
  rw [Opt_some]
  refine ⟨z, rfl, l, fun y hy => ?_, fun hc => ?_⟩
  · dsimp only
    rw [sto_t]
    dsimp only [List.set_cons_succ, List.set_cons_zero]
    rw [s_seq, s_if, s_isNX, s_var]
    dsimp only [List.getElem?_cons_succ, List.getElem?_cons_zero]
    rw [if_pos rfl, s_ret, s_var]
    exact k1 _ hy
  · refine ⟨by simp, by simp, ?_⟩
    dsimp only [List.set_cons_succ, List.set_cons_zero]
    rw [s_seq, s_if, s_isNX, s_var]
    dsimp only [List.getElem?_cons_succ, List.getElem?_cons_zero]
    rw [if_neg (by decide), s_next]
    dsimp only
    generalize ("other" : Str) = ot
    refine ret_gv (gv_if (b := true) (x := .tuple [.str z]) (y := .str ot) (tv_and (b := true) (c := true) (tv_tru (gv_isX (i := 2) rfl look_one)) fun _ => tv_tru (gv_isX (i := 2) rfl look_one)) (fun _ => gv_tup (ga_cons (gv_fldX (i := 2) rfl (by simp) look_one) ga_nil) (by simp)) fun _ => gv_c) fun r hr => ?_
    have hr : r.st = .d (.tuple [.str z]) := hr
    rw [st_tuple hr]
    dsimp only
    rw [outR_d, Opt_some]
    exact k2 hc
def Ph_law_pick (bs : List PyData) (rs : List R) (P : R → List PyData → Prop) : Prop := ∃ (N : Int) (z : Str), Box N bs ∧ N ≤ 2 ^ 39 ∧ rs = [.d (.str z)] ∧ 0 < z.length ∧ z.length ≤ 1000000 ∧ ∀ (c : Nat) (bs' : List PyData), c ∈ cs z → Box (N + 1) bs' → P (.d (.str ⟨#[c]⟩)) bs'
/-- _law_pick -/
def w_law_pick : DTS := (wRet (wBin ixD (wVar 1) (wCallL Ph_law_take (wCons (wVar 0) (wCons (wCB lenD (wCons (wVar 1) wNil)) wNil)))))
theorem len_str {z : Str} (l : z.length ≤ 1000000) : lenD [.str z] = some (.v (.int z.length)) := by
  show (if z.length ≤ sizeLine then _ else _) = _
  rw [if_pos (by rw [sizeLine_eq]; omega)]
theorem r_law_pick (bs : List PyData) (rs : List R) (Pd : R → List PyData → Prop) (h : Ph_law_pick bs rs Pd) (hl : rs.length = 1) : w_law_pick { nx := fun _ κ => endL κ (.d .none) Pd, rt := fun r κ => endL κ r Pd } (some (.c 0) :: (rs.map some ++ List.replicate 0 none)) [.l bs] := by
  obtain ⟨N, z, hb, hN, rfl, l0, l1, k⟩ := h
  clear hl
  simp only [List.map_cons, List.map_nil, List.replicate_zero, List.append_nil]
  unfold w_law_pick
  rw [s_ret, s_bin, s_var]
  dsimp only [List.getElem?_cons_succ, List.getElem?_cons_zero]
  refine box_take rfl rfl hb (by omega) (gv_cb (gv_var (i := 1) rfl) (len_str l1) rfl) (by omega) (by omega) fun x bs' x0 x1 hb' => ?_
  obtain ⟨j, rfl⟩ := Int.eq_ofNat_of_zero_le x0
  have hj : j < (cs z).length := by rw [← str_len]; omega
  rw [st_d, val_d, Opt_some, st_d, val_d, Opt_some]
  have e : ixD (.str z) (.int (j : Int)) = some (.v (.str ⟨#[(cs z)[j]]⟩)) := by
    show (if z.length ≤ sizeLine then (atI (cs z) (j : Int)).map _ else none) = _
    rw [if_pos (by rw [sizeLine_eq]; omega), atI_nat (List.getElem?_eq_getElem hj)]
    rfl
  rw [e, Opt_some]
  show endL (Cell.l bs' :: []) (.d _) Pd
  rw [endL_d]
  exact k _ _ (List.getElem_mem hj) hb'
def Tx (L : Nat) (z : Str) : Prop := z.length ≤ L ∧ ∀ c ∈ cs z, c < 0x110000
theorem Tx.mono {L M : Nat} {z : Str} (h : Tx L z) (l : L ≤ M) : Tx M z := ⟨by have := h.1; omega, h.2⟩
theorem tx_app {L M : Nat} {a b : Str} (h : Tx L a) (g : Tx M b) : Tx (L + M) (a ++ b) := ⟨by have := h.1; have := g.1; rw [app_l]; omega, fun c hc => by
  rw [cs_app] at hc
  rcases List.mem_append.mp hc with hc | hc
  · exact h.2 c hc
  · exact g.2 c hc⟩
theorem cut_in {z : Str} {lo hi : Option Int} : ∀ c ∈ cs (cutS z lo hi), c ∈ cs z := by
  intro c hc
  have e : cutS z lo hi = ⟨((z.cps.toList.drop (HT.sIx z.length 0 lo)).take (HT.sIx z.length z.length hi - HT.sIx z.length 0 lo)).toArray⟩ := rfl
  rw [e] at hc
  have hc : c ∈ (z.cps.toList.drop (HT.sIx z.length 0 lo)).take (HT.sIx z.length z.length hi - HT.sIx z.length 0 lo) := hc
  exact List.mem_of_mem_drop (List.mem_of_mem_take hc)
theorem tx_cut {L : Nat} {z : Str} (lo hi : Option Int) (h : Tx L z) : Tx L (cutS z lo hi) := ⟨Nat.le_trans (cutS_length z lo hi) h.1, fun c hc => h.2 c (cut_in c hc)⟩
theorem tx_rev {L : Nat} {z : Str} (h : Tx L z) : Tx L (revZ z) := ⟨Nat.le_trans (revZ_len z) h.1, fun c hc => by
  refine h.2 c ?_
  have hc : c ∈ List.filterMap (fun i => z.cps[i]?) (slicePicked z none none (some (-1, 0))) := hc
  obtain ⟨i, _, hi⟩ := List.mem_filterMap.mp hc
  have : (cs z)[i]? = some c := by rw [← hi]; simp [cs]
  exact List.mem_of_getElem? this⟩
theorem tx_sign {c : Nat} (h : c < 0x110000) : Tx 1 ⟨#[c]⟩ := ⟨Nat.le_refl _, fun d hd => by
  have : d = c := by simpa [cs] using hd
  rw [this]; exact h⟩
/-- room for words put together -/
def lw (W : List Str) : Nat := lenS (W.map cs) + W.length
theorem lw_app : ∀ A B : List Str, lw (A ++ B) = lw A + lw B
  | [], B => by simp [lw, lenS]
  | x :: A, B => by
    have := lw_app A B
    simp only [lw, List.cons_append, List.map_cons, lenS, List.length_cons] at this ⊢
    omega
theorem lw_rev : ∀ A : List Str, lw A.reverse = lw A
  | [] => rfl
  | x :: A => by
    rw [List.reverse_cons, lw_app, lw_rev A]
    simp only [lw, List.map_cons, List.map_nil, lenS, List.length_cons, List.length_nil]
    omega
theorem lw_split (n : Nat) (A : List Str) : lw (A.take n) + lw (A.drop n) = lw A := by rw [← lw_app, List.take_append_drop]
def Good (W : List Str) : Prop := ∀ w ∈ W, ∀ c ∈ cs w, c < 0x110000
theorem tx_join {L : Nat} {W : List Str} (h : Good W) (l : lw W ≤ L) : Tx L (mkS (joinL 32 (W.map cs))) := by
  refine ⟨?_, fun c hc => ?_⟩
  · rw [str_len]
    have := TX.joinL_len (W.map cs)
    rw [List.length_map] at this
    exact Nat.le_trans this l
  · have hc : c ∈ joinL 32 (W.map cs) := hc
    rcases TX.joinL_in hc with rfl | ⟨w, hw, hc⟩
    · decide
    · obtain ⟨x, hx, rfl⟩ := List.mem_map.mp hw
      exact h x hx c hc
theorem good_words {L : Nat} {z : Str} (h : Tx L z) : Good (wordsT z) := fun w hw c hc => by
  obtain ⟨p, hp, rfl⟩ := List.mem_map.mp hw
  exact h.2 c (TX.splitL_in hp hc)
def Ph_law_bent (bs : List PyData) (rs : List R) (P : R → List PyData → Prop) : Prop := ∃ (N : Int) (L : Nat) (z : Str), Box N bs ∧ N ≤ 2 ^ 38 ∧ rs = [.d (.str z)] ∧ Tx L z ∧ L ≤ 20000 ∧ ∀ (y : Str) (bs' : List PyData), Tx (3 * L + 3) y → Box (N + 5) bs' → P (.d (.str y)) bs'
def we_p1 : DTS := (wPar 2 3 (wConsM false (wC (.str "abcdefghijklmnopqrstuvwxyz-~. AZ09,;:_=!")) (wConsM false (wCallL Ph_law_take (wCons (wVar 0) (wCons (wC (.int 9)) wNil))) wNil)))
def we_p2 : DTS := (wPar 4 5 (wConsM false (wCallL Ph_law_take (wCons (wVar 0) (wCons (wBin addD (wCB lenD (wCons (wVar 1) wNil)) (wC (.int 1))) wNil))) (wConsM false (wCallL Ph_law_pick (wCons (wVar 0) (wCons (wVar 2) wNil))) wNil)))
def we_p3 : DTS := (wSet false 4 (wIf (wB (wBin (eqD false) (wCallL Ph_law_take (wCons (wVar 0) (wCons (wC (.int 6)) wNil))) (wC (.int 0)))) (wCB lenD (wCons (wVar 1) wNil)) (wVar 4)))
def we_p4 : DTS := (wPar3 6 7 8 (wConsM false (wSl (wVar 1) wNoP (wP (wVar 4))) (wConsM false (wSl (wVar 1) (wP (wVar 4)) wNoP) (wConsM true (wBM "str" splitD (wVar 1) (wCons (wC (.str " ")) wNil)) wNil))))
def we_p5 : DTS := (wSet false 9 (wCallL Ph_law_take (wCons (wVar 0) (wCons (wCB lenD (wCons (wVar 8) wNil)) wNil))))
def we_l1 : DTE := (wLst (wCons (wBin addD (wBin addD (wVar 6) (wVar 5)) (wVar 7)) (wCons (wBin addD (wVar 6) (wSl (wVar 7) (wP (wC (.int 1))) wNoP)) (wCons (wBin addD (wBin addD (wVar 6) (wVar 5)) (wSl (wVar 7) (wP (wC (.int 1))) wNoP)) (wCons (wBin addD (wBin addD (wVar 6) (wSl (wVar 7) wNoP (wP (wC (.int 1))))) (wVar 7)) wNil)))))
def we_l2 : DTE := (wLst (wCons (wBin addD (wBin addD (wVar 6) (wRevZ (wSl (wVar 7) wNoP (wP (wC (.int 2)))))) (wSl (wVar 7) (wP (wC (.int 2))) wNoP)) (wCons (wBM "str" joinC (wC (.str " ")) (wCons (wBin addD (wSl (wVar 8) wNoP (wP (wVar 9))) (wSl (wVar 8) (wP (wBin addD (wVar 9) (wC (.int 1)))) wNoP)) wNil)) wNil)))
def we_l3 : DTE := (wLst (wCons (wBM "str" joinC (wC (.str " ")) (wCons (wBin addD (wSl (wVar 8) wNoP (wP (wBin addD (wVar 9) (wC (.int 1))))) (wSl (wVar 8) (wP (wVar 9)) wNoP)) wNil)) (wCons (wBin addD (wBin addD (wVar 6) (wC (.str "~"))) (wSl (wVar 7) (wP (wC (.int 1))) wNoP)) wNil)))
def we_sw : DTS := (wAsg (wRevS (wSl (wVar 8) (wP (wVar 9)) (wP (wBin addD (wVar 9) (wC (.int 2)))))) (wSubSl (wVar 8) (wP (wVar 9)) (wP (wBin addD (wVar 9) (wC (.int 2))))))
def we_ret : DTS := (wRet (wBin ixD (wBin addD (wVar 10) (wLst (wCons (wBM "str" joinC (wC (.str " ")) (wCons (wVar 8) wNil)) wNil))) (wVar 3)))
/-- _law_bent -/
def w_law_bent : DTS := (wSeq we_p1 (wSeq we_p2 (wSeq we_p3 (wSeq we_p4 (wSeq we_p5
  (wSeq (wSet false 10 we_l1) (wSeq (wSet false 10 (wBin addD (wVar 10) we_l2)) (wSeq (wSet false 10 (wBin addD (wVar 10) we_l3)) (wSeq we_sw we_ret)))))))))
section
variable {ρ : Rho} {κ : Kap} {wa wb : DTE} {E : DEnds}
theorem gv_cutS {a : Str} {lo hi : Option Int} {wl wh : DTO} (g : Gv wa ρ κ (.str a)) (l : a.length ≤ 1000000) (h1 : ∀ P : Option Int → Kap → Prop, P lo κ → wl ρ κ P) (h2 : ∀ P : Option Int → Kap → Prop, P hi κ → wh ρ κ P) : Gv (wSl wa wl wh) ρ κ (.str (cutS a lo hi)) := gv_sl g h1 h2 (slD_str lo hi (by rw [sizeLine_eq]; omega)) rfl
theorem gv_revZ {a : Str} (g : Gv wa ρ κ (.str a)) (l : a.length ≤ 1000000) : Gv (wRevZ wa) ρ κ (.str (revZ a)) := fun Q k => by
  rw [s_revZ]
  refine g _ fun r hr => ?_
  rw [st_str hr]
  exact ⟨by omega, k _ rfl⟩
theorem gv_addLs {A B : List Str} (ha : Gv wa ρ κ (.list (A.map .str))) (hb : Gv wb ρ κ (.list (B.map .str))) (l : A.length + B.length ≤ 1000000) : Gv (wBin addD wa wb) ρ κ (.list ((A ++ B).map .str)) := by
  rw [List.map_append]
  exact gv_bin ha hb (addD_list (by rw [List.length_map, List.length_map, sizeLine_eq]; omega)) rfl
theorem gv_join {W : List Str} (g : Gv wa ρ κ (.list (W.map .str))) (l : lw W ≤ 1000000) : Gv (wBM "str" joinC (wC (.str " ")) (wCons wa wNil)) ρ κ (.str (mkS (joinL 32 (W.map cs)))) := gv_bm (gv_c (x := .str " ")) g (by rw [s_gap]; exact joinC_gap (by unfold lw at l; omega)) rfl
theorem gv_cell {i j : Nat} {xs : List PyData} (hi : ρ[i]? = some (some (.c j))) (hj : κ[j]? = some (.l xs)) {lo hi' : Option Int} {wl wh : DTO} (h1 : ∀ P : Option Int → Kap → Prop, P lo κ → wl ρ κ P) (h2 : ∀ P : Option Int → Kap → Prop, P hi' κ → wh ρ κ P) : Gv (wSl (wVar i) wl wh) ρ κ (.list (cut xs lo hi')) := fun Q k => by
  rw [s_sl, s_var, hi]
  refine h1 _ (h2 _ ?_)
  rw [st_c, val_c hj, Opt_some, slD_list, Opt_some]
  exact k _ rfl
theorem bm_f {f : PyData → List PyData → Option Out} {z : Str} {y : PyData} {xs : List PyData} {Q : R → Kap → Prop} (ha : Gv wa ρ κ (.str z)) (hb : Gv wb ρ κ y) (e : f (.str z) [y] = some (.n xs)) (k : Q (.f xs) κ) : wBM "str" f wa (wCons wb wNil) ρ κ Q := by
  rw [s_bm]
  refine ha _ fun r hr => ?_
  rw [hr, val_d, Opt_some]
  refine ⟨rfl, ?_⟩
  rw [s_cons]
  refine hb _ fun q hq => ?_
  rw [s_nil, hq, val_d, Opt_some, vals_cons, val_d]
  rw [show vals κ [] = some [] from rfl]
  dsimp only
  rw [Opt_some, e, Opt_some]
  exact k
theorem gv_joinC {W : List Str} {i j : Nat} (hi : ρ[i]? = some (some (.c j))) (hj : κ[j]? = some (.l (W.map .str))) (l : lw W ≤ 1000000) : Gv (wBM "str" joinC (wC (.str " ")) (wCons (wVar i) wNil)) ρ κ (.str (mkS (joinL 32 (W.map cs)))) := fun Q k => by
  rw [s_bm, s_c, s_gap, st_d, val_d, Opt_some]
  refine ⟨rfl, ?_⟩
  rw [s_cons, s_var, hi]
  dsimp only
  rw [s_nil, val_d, Opt_some, vals_cons, st_c, val_c hj]
  rw [show vals κ [] = some [] from rfl]
  dsimp only
  rw [Opt_some, joinC_gap (by unfold lw at l; omega), Opt_some]
  exact k _ rfl
theorem gv_lenC {xs : List PyData} {i j : Nat} (hi : ρ[i]? = some (some (.c j))) (hj : κ[j]? = some (.l xs)) : Gv (wCB lenD (wCons (wVar i) wNil)) ρ κ (.int (xs.length : Int)) := fun Q k => by
  rw [s_cb, s_cons, s_var, hi]
  dsimp only
  rw [s_nil, vals_cons, st_c, val_c hj]
  rw [show vals κ [] = some [] from rfl]
  dsimp only
  rw [Opt_some, lenD_list, Opt_some]
  exact k _ rfl
end
abbrev rhoB (z signs : Str) (way : Int) (pat : PyData) (s a b : Str) (n : Nat) (p10 : Option R) : Rho := [some (.c 0), some (.d (.str z)), some (.d (.str signs)), some (.d (.int way)), some (.d pat), some (.d (.str s)), some (.d (.str a)), some (.d (.str b)), some (.c 1), some (.d (.int (n : Int))), p10]
def jn (W : List Str) : Str := mkS (joinL 32 (W.map cs))
def its1 (s a b : Str) : List Str := [a ++ s ++ b, a ++ cutS b (some 1) none, a ++ s ++ cutS b (some 1) none, a ++ cutS b none (some 1) ++ b]
def its2 (a b : Str) (W : List Str) (n : Nat) : List Str := [a ++ revZ (cutS b none (some 2)) ++ cutS b (some 2) none, jn (W.take n ++ W.drop (n + 1))]
def its3 (a b : Str) (W : List Str) (n : Nat) : List Str := [jn (W.take (n + 1) ++ W.drop n), a ++ ⟨#[126]⟩ ++ cutS b (some 1) none]
section
variable {z signs s a b : Str} {way : Int} {pat : PyData} {n L : Nat} {W : List Str} {bs : List PyData} {p10 : Option R} {E : DEnds}
theorem l1_ok (hs : Tx 1 s) (ha : Tx L a) (hb : Tx L b) (lL : L ≤ 20000) : Gv we_l1 (rhoB z signs way pat s a b n p10) [.l bs, .l (W.map .str)] (.list ((its1 s a b).map .str)) := by
  have h1 := hs.1; have h2 := ha.1; have h3 := hb.1
  have c1 := (tx_cut (some 1) none hb).1; have c2 := (tx_cut none (some 1) hb).1
  have ga : Gv (wVar 6) (rhoB z signs way pat s a b n p10) [.l bs, .l (W.map .str)] (.str a) := gv_var rfl
  have gb : Gv (wVar 7) (rhoB z signs way pat s a b n p10) [.l bs, .l (W.map .str)] (.str b) := gv_var rfl
  have gs : Gv (wVar 5) (rhoB z signs way pat s a b n p10) [.l bs, .l (W.map .str)] (.str s) := gv_var rfl
  have g1 : Gv (wSl (wVar 7) (wP (wC (.int 1))) wNoP) (rhoB z signs way pat s a b n p10) [.l bs, .l (W.map .str)] (.str (cutS b (some 1) none)) := gv_cutS gb (by omega) (go_at gv_c) (fun _ => go_no)
  have g2 : Gv (wSl (wVar 7) wNoP (wP (wC (.int 1)))) (rhoB z signs way pat s a b n p10) [.l bs, .l (W.map .str)] (.str (cutS b none (some 1))) := gv_cutS gb (by omega) (fun _ => go_no) (go_at gv_c)
  have gas := gv_addS ga gs (by omega)
  unfold we_l1
  exact gv_lst (ga_cons (gv_addS gas gb (by rw [app_l]; omega)) (ga_cons (gv_addS ga g1 (by omega)) (ga_cons (gv_addS gas g1 (by rw [app_l]; omega)) (ga_cons (gv_addS (gv_addS ga g2 (by omega)) gb (by rw [app_l]; omega)) ga_nil)))) (by show 4 ≤ 1000000; decide)
theorem cell_take {i j : Nat} {ρ : Rho} {κ : Kap} {wh : DTO} (m : Nat) (hi : ρ[i]? = some (some (.c j))) (hj : κ[j]? = some (.l (W.map .str))) (h2 : ∀ P : Option Int → Kap → Prop, P (some (m : Int)) κ → wh ρ κ P) : Gv (wSl (wVar i) wNoP wh) ρ κ (.list ((W.take m).map .str)) := by
  have g := gv_cell hi hj (fun _ => go_no) h2
  rw [cut_take] at g
  rw [List.map_take]
  exact g
theorem cell_drop {i j : Nat} {ρ : Rho} {κ : Kap} {wl : DTO} (m : Nat) (hi : ρ[i]? = some (some (.c j))) (hj : κ[j]? = some (.l (W.map .str))) (h1 : ∀ P : Option Int → Kap → Prop, P (some (m : Int)) κ → wl ρ κ P) : Gv (wSl (wVar i) wl wNoP) ρ κ (.list ((W.drop m).map .str)) := by
  have g := gv_cell hi hj h1 (fun _ => go_no)
  rw [cut_drop] at g
  rw [List.map_drop]
  exact g
theorem lw_len (W : List Str) : W.length ≤ lw W := by unfold lw; omega
theorem lw_two (W : List Str) (n m : Nat) : lw (W.take n ++ W.drop m) ≤ 2 * lw W := by
  have h1 := lw_split n W
  have h2 := lw_split m W
  rw [lw_app]
  omega
theorem l2_ok (ha : Tx L a) (hb : Tx L b) (lL : L ≤ 20000) (hW : lw W ≤ L + 1) : Gv we_l2 (rhoB z signs way pat s a b n p10) [.l bs, .l (W.map .str)] (.list ((its2 a b W n).map .str)) := by
  have h2 := ha.1; have h3 := hb.1
  have c1 := (tx_cut (some 2) none hb).1; have c2 := (tx_cut none (some 2) hb).1
  have c3 := revZ_len (cutS b none (some 2))
  have hl := lw_two W n (n + 1)
  have hl2 := lw_len (W.take n ++ W.drop (n + 1))
  rw [List.length_append] at hl2
  have ga : Gv (wVar 6) (rhoB z signs way pat s a b n p10) [.l bs, .l (W.map .str)] (.str a) := gv_var rfl
  have gb : Gv (wVar 7) (rhoB z signs way pat s a b n p10) [.l bs, .l (W.map .str)] (.str b) := gv_var rfl
  have g1 : Gv (wSl (wVar 7) (wP (wC (.int 2))) wNoP) (rhoB z signs way pat s a b n p10) [.l bs, .l (W.map .str)] (.str (cutS b (some 2) none)) := gv_cutS gb (by omega) (go_at gv_c) (fun _ => go_no)
  have g2 : Gv (wSl (wVar 7) wNoP (wP (wC (.int 2)))) (rhoB z signs way pat s a b n p10) [.l bs, .l (W.map .str)] (.str (cutS b none (some 2))) := gv_cutS gb (by omega) (fun _ => go_no) (go_at gv_c)
  have gn1 : Gv (wBin addD (wVar 9) (wC (.int 1))) (rhoB z signs way pat s a b n p10) [.l bs, .l (W.map .str)] (.int ((n : Int) + 1)) := gv_addI (gv_var rfl) gv_c
  have gt : Gv (wSl (wVar 8) wNoP (wP (wVar 9))) (rhoB z signs way pat s a b n p10) [.l bs, .l (W.map .str)] (.list ((W.take n).map .str)) := cell_take n rfl rfl (go_at (gv_var rfl))
  have gd : Gv (wSl (wVar 8) (wP (wBin addD (wVar 9) (wC (.int 1)))) wNoP) (rhoB z signs way pat s a b n p10) [.l bs, .l (W.map .str)] (.list ((W.drop (n + 1)).map .str)) := cell_drop (n + 1) rfl rfl (go_at gn1)
  unfold we_l2
  exact gv_lst (ga_cons (gv_addS (gv_addS ga (gv_revZ g2 (by omega)) (by omega)) g1 (by rw [app_l]; omega)) (ga_cons (gv_join (gv_addLs gt gd (by omega)) (by omega)) ga_nil)) (by show 2 ≤ 1000000; decide)
theorem l3_ok (ha : Tx L a) (hb : Tx L b) (lL : L ≤ 20000) (hW : lw W ≤ L + 1) : Gv we_l3 (rhoB z signs way pat s a b n p10) [.l bs, .l (W.map .str)] (.list ((its3 a b W n).map .str)) := by
  have h2 := ha.1; have h3 := hb.1
  have c1 := (tx_cut (some 1) none hb).1
  have hl := lw_two W (n + 1) n
  have hl2 := lw_len (W.take (n + 1) ++ W.drop n)
  rw [List.length_append] at hl2
  have ga : Gv (wVar 6) (rhoB z signs way pat s a b n p10) [.l bs, .l (W.map .str)] (.str a) := gv_var rfl
  have gb : Gv (wVar 7) (rhoB z signs way pat s a b n p10) [.l bs, .l (W.map .str)] (.str b) := gv_var rfl
  have g1 : Gv (wSl (wVar 7) (wP (wC (.int 1))) wNoP) (rhoB z signs way pat s a b n p10) [.l bs, .l (W.map .str)] (.str (cutS b (some 1) none)) := gv_cutS gb (by omega) (go_at gv_c) (fun _ => go_no)
  have gn1 : Gv (wBin addD (wVar 9) (wC (.int 1))) (rhoB z signs way pat s a b n p10) [.l bs, .l (W.map .str)] (.int ((n : Int) + 1)) := gv_addI (gv_var rfl) gv_c
  have gt : Gv (wSl (wVar 8) wNoP (wP (wBin addD (wVar 9) (wC (.int 1))))) (rhoB z signs way pat s a b n p10) [.l bs, .l (W.map .str)] (.list ((W.take (n + 1)).map .str)) := cell_take (n + 1) rfl rfl (go_at gn1)
  have gd : Gv (wSl (wVar 8) (wP (wVar 9)) wNoP) (rhoB z signs way pat s a b n p10) [.l bs, .l (W.map .str)] (.list ((W.drop n).map .str)) := cell_drop n rfl rfl (go_at (gv_var rfl))
  unfold we_l3
  rw [s_wave]
  exact gv_lst (ga_cons (gv_join (gv_addLs gt gd (by omega)) (by omega)) (ga_cons (gv_addS (gv_addS ga (gv_c (x := .str ⟨#[126]⟩)) (by show _ + 1 ≤ _; omega)) g1 (by rw [app_l]; show _ + 1 + _ ≤ _; omega)) ga_nil)) (by show 2 ≤ 1000000; decide)
theorem sw_ok (hn : n ≤ W.length) (hW : W.length ≤ 100000) (k : ∀ W', lw W' = lw W → (Good W → Good W') → E.nx (rhoB z signs way pat s a b n p10) [.l bs, .l (W'.map .str)]) : we_sw E (rhoB z signs way pat s a b n p10) [.l bs, .l (W.map .str)] := by
  unfold we_sw
  rw [s_asg, s_revS]
  refine gv_cell (lo := some (n : Int)) (hi' := some ((n : Int) + 2)) rfl rfl (go_at (gv_var rfl)) (go_at (gv_addI (gv_var rfl) gv_c)) _ fun r hr => ?_
  rw [hr, val_d, Opt_some]
  dsimp only
  have ec : cut (W.map PyData.str) (some (n : Int)) (some ((n : Int) + 2)) = (((W.drop n).take 2).map .str) := by
    have := cut_mid (W.map PyData.str) n 2
    rw [List.map_take, List.map_drop]
    exact this
  rw [ec, st_f, s_subSl, dat_d, Opt_some]
  dsimp only
  rw [s_var]
  dsimp only [List.getElem?_cons_succ, List.getElem?_cons_zero]
  refine go_at (gv_var rfl) _ ?_
  refine go_at (gv_addI (gv_var rfl) gv_c) _ ?_
  show n ≤ min (n + 2) (W.map PyData.str).length ∧ (W.map PyData.str).length + (((W.drop n).take 2).map PyData.str).reverse.length ≤ 1000000 ∧ _
  have l2 : ((W.drop n).take 2).length ≤ 2 := List.length_take_le _ _
  refine ⟨by rw [List.length_map]; omega, by rw [List.length_reverse, List.length_map, List.length_map]; omega, ?_⟩
  have e4 : (W.map PyData.str).drop (min (n + 2) (W.map PyData.str).length) = ((W.drop n).drop 2).map .str := by
    rw [List.drop_drop, List.map_drop]
    by_cases q : n + 2 ≤ (W.map PyData.str).length
    · rw [Nat.min_eq_left q]
    · rw [Nat.min_eq_right (by omega), List.drop_of_length_le (Nat.le_refl _), List.drop_of_length_le (by omega)]
  have e5 : (W.map PyData.str).take n ++ (((W.drop n).take 2).map PyData.str).reverse ++ (W.map PyData.str).drop (min (n + 2) (W.map PyData.str).length) = (W.take n ++ ((W.drop n).take 2).reverse ++ (W.drop n).drop 2).map .str := by
    rw [e4, List.map_append, List.map_append, List.map_reverse, List.map_take]
    rw [show List.map PyData.str (List.take n W) = List.take n (List.map PyData.str W) from List.map_take]
  rw [e5]
  refine k (W.take n ++ ((W.drop n).take 2).reverse ++ (W.drop n).drop 2) ?_ fun hg w hw => hg w ?_
  · rw [lw_app, lw_app, lw_rev]
    have h1 := lw_split n W
    have h2 := lw_split 2 (W.drop n)
    omega
  · rcases List.mem_append.mp hw with h | h
    · rcases List.mem_append.mp h with h | h
      · exact List.mem_of_mem_take h
      · exact List.mem_of_mem_drop (List.mem_of_mem_take (List.mem_reverse.mp h))
    · exact List.mem_of_mem_drop (List.mem_of_mem_drop h)
end
theorem words_ne (z : Str) : 0 < (wordsT z).length := by
  unfold wordsT
  rw [List.length_map]
  exact List.length_pos_iff.mpr (TX.splitL_ne 32 (cs z))
theorem all_items {L n : Nat} {s a b : Str} {W W' : List Str} (hs : Tx 1 s) (ha : Tx L a) (hb : Tx L b) (hg : Good W) (hW : lw W ≤ L + 1) (hg' : Good W') (hW' : lw W' = lw W) : ∀ y ∈ its1 s a b ++ its2 a b W n ++ its3 a b W n ++ [jn W'], Tx (3 * L + 3) y := by
  have gt : ∀ i j, Good (W.take i ++ W.drop j) := fun i j w hw => by
    rcases List.mem_append.mp hw with h | h
    · exact hg w (List.mem_of_mem_take h)
    · exact hg w (List.mem_of_mem_drop h)
  have l1 := lw_two W n (n + 1)
  have l2 := lw_two W (n + 1) n
  have t126 : Tx 1 ⟨#[126]⟩ := tx_sign (by decide)
  intro y hy
  simp only [its1, its2, its3, List.cons_append, List.nil_append, List.mem_cons, List.not_mem_nil, or_false] at hy
  rcases hy with rfl | rfl | rfl | rfl | rfl | rfl | rfl | rfl | rfl
  · exact (tx_app (tx_app ha hs) hb).mono (by omega)
  · exact (tx_app ha (tx_cut _ _ hb)).mono (by omega)
  · exact (tx_app (tx_app ha hs) (tx_cut _ _ hb)).mono (by omega)
  · exact (tx_app (tx_app ha (tx_cut _ _ hb)) hb).mono (by omega)
  · exact (tx_app (tx_app ha (tx_rev (tx_cut _ _ hb))) (tx_cut _ _ hb)).mono (by omega)
  · exact (tx_join (L := 2 * (L + 1)) (gt n (n + 1)) (by omega)).mono (by omega)
  · exact (tx_join (L := 2 * (L + 1)) (gt (n + 1) n) (by omega)).mono (by omega)
  · exact (tx_app (tx_app ha t126) (tx_cut _ _ hb)).mono (by omega)
  · exact (tx_join (L := L + 1) hg' (by omega)).mono (by omega)
theorem r_law_bent (bs : List PyData) (rs : List R) (Pd : R → List PyData → Prop) (h : Ph_law_bent bs rs Pd) (hl : rs.length = 1) : w_law_bent { nx := fun _ κ => endL κ (.d .none) Pd, rt := fun r κ => endL κ r Pd } (some (.c 0) :: (rs.map some ++ List.replicate 9 none)) [.l bs] := by
  obtain ⟨N, L, z, hb, hN, rfl, tz, lL, k⟩ := h
  clear hl
  have hz := sizeLine_eq
  have lz := tz.1
  simp only [List.map_cons, List.map_nil, List.replicate_succ, List.replicate_zero, List.cons_append, List.nil_append]
  unfold w_law_bent
  have hsg : ∀ c ∈ cs ("abcdefghijklmnopqrstuvwxyz-~. AZ09,;:_=!" : Str), c < 0x110000 := by decide +kernel
  have lsg : 0 < ("abcdefghijklmnopqrstuvwxyz-~. AZ09,;:_=!" : Str).length ∧ ("abcdefghijklmnopqrstuvwxyz-~. AZ09,;:_=!" : Str).length ≤ 1000000 := by decide +kernel
  unfold we_p1
  generalize ("abcdefghijklmnopqrstuvwxyz-~. AZ09,;:_=!" : Str) = sg at *
  rw [s_seq, s_par, s_consM, s_c, sto_d, s_consM]
  refine box_take rfl rfl hb (by omega) (gv_c (x := .int 9)) (by decide) (by decide) fun way bs1 w0 w1 hb1 => ?_
  rw [sto_d, s_nil]
  dsimp only [List.set_cons_succ, List.set_cons_zero]
  unfold we_p2
  rw [s_seq, s_par, s_consM]
  refine box_take rfl rfl hb1 (by omega) (gv_addI (gv_cb (gv_var (i := 1) rfl) (len_str (by omega)) rfl) (gv_c (x := .int 1))) (by omega) (by omega) fun at0 bs2 a0 a1 hb2 => ?_
  dsimp only [List.set_cons_succ, List.set_cons_zero]
  rw [sto_d, s_consM]
  refine box_call (ys := [.str sg]) rfl rfl (gc_cons (gv_var (i := 2) rfl) gc_nil) ⟨N + 1 + 1, sg, hb2, by omega, rfl, lsg.1, lsg.2, fun c bs3 hc hb3 => ?_⟩
  dsimp only [List.set_cons_succ, List.set_cons_zero]
  rw [DL.lab_d, sto_d, s_nil]
  dsimp only [List.set_cons_succ, List.set_cons_zero]
  have ts : Tx 1 ⟨#[c]⟩ := tx_sign (hsg c hc)
  unfold we_p3
  rw [s_seq, s_set, s_ifx, s_B, s_bin]
  refine box_take rfl rfl hb3 (by omega) (gv_c (x := .int 6)) (by decide) (by decide) fun x6 bs4 x0 x1 hb4 => ?_
  dsimp only [List.set_cons_succ, List.set_cons_zero]
  rw [s_c, st_d, val_d, Opt_some, st_d, val_d, Opt_some, eqD_intn, Opt_some]
  suffices rest : ∀ at1 : Nat, we_p4 { nx := (wSeq we_p5 (wSeq (wSet false 10 we_l1) (wSeq (wSet false 10 (wBin addD (wVar 10) we_l2)) (wSeq (wSet false 10 (wBin addD (wVar 10) we_l3)) (wSeq we_sw we_ret))))) { nx := fun _ κ => endL κ (.d .none) Pd, rt := fun r κ => endL κ r Pd }, rt := fun r κ => endL κ r Pd } [some (.c 0), some (.d (.str z)), some (.d (.str sg)), some (.d (.int way)), some (.d (.int (at1 : Int))), some (.d (.str ⟨#[c]⟩)), none, none, none, none, none] [.l bs4] by
    dsimp only [Out.r]
    have e6 : (if (false = true) then !decide (x6 = 0) else decide (x6 = 0)) = decide (x6 = 0) := if_neg (by decide)
    rw [e6]
    obtain ⟨at2, rfl⟩ := Int.eq_ofNat_of_zero_le a0
    by_cases q : x6 = 0
    · rw [decide_eq_true q, if_pos rfl]
      refine gv_cb (gv_var (i := 1) rfl) (len_str (by omega)) rfl _ fun r hr => ?_
      rw [st_int hr, sto_d, s_seq]
      exact rest _
    · rw [decide_eq_false q, if_neg (by decide), s_var]
      dsimp only [List.getElem?_cons_succ, List.getElem?_cons_zero]
      rw [sto_d, s_seq]
      exact rest _
  intro at1
  unfold we_p4
  rw [s_par3, s_consM]
  refine gv_cutS (gv_var (i := 1) rfl) (by omega) (fun _ => go_no) (go_at (gv_var (i := 4) rfl)) _ fun r1 h1 => ?_
  rw [st_str h1, sto_d, s_consM]
  refine gv_cutS (gv_var (i := 1) rfl) (by omega) (go_at (gv_var (i := 4) rfl)) (fun _ => go_no) _ fun r2 h2 => ?_
  rw [st_str h2, sto_d, s_consM]
  refine bm_f (gv_var (i := 1) rfl) (gv_c (x := .str " ")) (by rw [s_gap]; exact split_w (by omega)) ?_
  rw [sto_t, s_nil]
  dsimp only [List.set_cons_succ, List.set_cons_zero, List.length_cons, List.length_nil, List.cons_append, List.nil_append]
  have ta := tx_cut none (some (at1 : Int)) tz
  have tb := tx_cut (some (at1 : Int)) none tz
  have hW : lw (wordsT z) ≤ L + 1 := by
    have := words_sum z
    unfold lw
    omega
  have hWl := lw_len (wordsT z)
  have gW := good_words tz
  have nW := words_ne z
  generalize cutS z none (some (at1 : Int)) = a at *
  generalize cutS z (some (at1 : Int)) none = b at *
  generalize wordsT z = W at *
  unfold we_p5
  rw [s_seq, s_set]
  refine box_take rfl rfl hb4 (by omega) (gv_lenC (xs := W.map .str) (i := 8) (j := 1) rfl rfl) (by rw [List.length_map]; omega) (by rw [List.length_map]; omega) fun n0 bs5 n1 n2 hb5 => ?_
  obtain ⟨n, rfl⟩ := Int.eq_ofNat_of_zero_le n1
  rw [List.length_map] at n2
  rw [sto_d]
  dsimp only [List.set_cons_succ, List.set_cons_zero]
  rw [s_seq]
  refine set_gv (l1_ok (pat := .int (at1 : Int)) ts ta tb lL) ?_
  dsimp only [List.set_cons_succ, List.set_cons_zero]
  rw [s_seq]
  refine set_gv (gv_addLs (gv_var rfl) (l2_ok (pat := .int (at1 : Int)) (p10 := some (.d (.list ((its1 ⟨#[c]⟩ a b).map .str)))) ta tb lL hW) (by show 4 + 2 ≤ _; omega)) ?_
  dsimp only [List.set_cons_succ, List.set_cons_zero]
  rw [s_seq]
  refine set_gv (gv_addLs (gv_var rfl) (l3_ok (pat := .int (at1 : Int)) (p10 := some (.d (.list ((its1 ⟨#[c]⟩ a b ++ its2 a b W n).map .str)))) ta tb lL hW) (by show 6 + 2 ≤ _; omega)) ?_
  dsimp only [List.set_cons_succ, List.set_cons_zero]
  rw [s_seq]
  refine sw_ok (z := z) (signs := sg) (pat := .int (at1 : Int)) (by omega) (by omega) fun W' e1 e2 => ?_
  dsimp only
  unfold we_ret
  rw [s_ret]
  have all := all_items (n := n) ts ta tb gW hW (e2 gW) e1
  obtain ⟨m, rfl⟩ := Int.eq_ofNat_of_zero_le w0
  have hm : m < (its1 ⟨#[c]⟩ a b ++ its2 a b W n ++ its3 a b W n ++ [jn W']).length := by show m < 9; omega
  have em : ((its1 ⟨#[c]⟩ a b ++ its2 a b W n ++ its3 a b W n ++ [jn W']).map PyData.str)[m]? = some (.str ((its1 ⟨#[c]⟩ a b ++ its2 a b W n ++ its3 a b W n ++ [jn W'])[m])) := by
    rw [List.getElem?_map, List.getElem?_eq_getElem hm]
    rfl
  have am := all _ (List.getElem_mem hm)
  have gl := gv_addLs (A := its1 ⟨#[c]⟩ a b ++ its2 a b W n ++ its3 a b W n) (B := [jn W']) (gv_var (i := 10) (ρ := rhoB z sg (m : Int) (.int (at1 : Int)) ⟨#[c]⟩ a b n (some (.d (.list ((its1 ⟨#[c]⟩ a b ++ its2 a b W n ++ its3 a b W n).map .str))))) (κ := [.l bs5, .l (W'.map .str)]) rfl) (gv_lst1 (gv_joinC (i := 8) (j := 1) rfl rfl (by omega))) (by show 8 + 1 ≤ _; omega)
  refine gv_at gl (gv_var (i := 3) rfl) em _ fun r hr => ?_
  rw [st_str hr]
  show endL (Cell.l bs5 :: [Cell.l (W'.map .str)]) (.d _) Pd
  rw [endL_d]
  exact k _ _ am (hb5.mono (by omega))
def dueV (y : Str) : PyData := match readT y with
  | some l => .list l
  | none => .none
def toldV (y : Str) : PyData := match readT y with
  | some l => .list l
  | none => .tuple [.str y]
section
variable {ρ : Rho} {κ : Kap} {wa wb : DTE} {E : DEnds}
theorem gv_read {y : Str} (g : Gv wa ρ κ (.str y)) (l : y.length ≤ 100000) : Gv (wCall Ph_law_read (wCons wa wNil)) ρ κ (dueV y) := gv_call1 g fun P kk => ⟨y, rfl, l, fun l h => kk (.f l) (by unfold dueV; rw [h]; rfl), fun h => kk (.d .none) (by unfold dueV; rw [h]; rfl)⟩
theorem gv_told {y : Str} (g : Gv wa ρ κ (.str y)) (l : y.length ≤ 100000) : Gv (wCall Ph_law_told (wCons wa wNil)) ρ κ (toldV y) := gv_call1 g fun P kk => ⟨y, rfl, l, fun l h => kk (.f l) (by unfold toldV; rw [h]; rfl), fun h => kk (.d (.tuple [.str y])) (by unfold toldV; rw [h]; rfl)⟩
theorem gv_due {y : Str} {wc : DTE} (g : Gv wa ρ κ (.str y)) (g2 : Gv wc ρ κ (dueV y)) : Gv (wIf (wB (wBin (isND false) wc (wC .none))) (wTup (wCons wa wNil)) wc) ρ κ (toldV y) := by
  unfold toldV
  unfold dueV at g2
  cases h : readT y with
  | none =>
    rw [h] at g2
    exact gv_if (b := true) (y := .none) (tv_B (gv_bin g2 gv_c (o := .v (.bool true)) rfl rfl)) (fun _ => gv_tup (ga_cons g ga_nil) (by show 1 ≤ 1000000; decide)) (fun h => nomatch h)
  | some l =>
    rw [h] at g2
    exact gv_if (b := false) (x := .none) (tv_B (gv_bin g2 gv_c (o := .v (.bool false)) rfl rfl)) (fun h => nomatch h) (fun _ => g2)
end
theorem good_hook {h : Hook} (a : HookIn h) {n : Nat} : GoodN (n + 2) (hookD h) := ⟨by rw [sizeLine_eq]; show 3 ≤ 16777216; decide, fun x hx => by
  simp only [List.mem_cons, List.not_mem_nil, or_false] at hx
  rcases hx with rfl | rfl | rfl
  · exact a.1.shaped
  · exact a.2.1.shaped
  · exact trivial⟩
theorem readT_len {y : Str} {l : List PyData} (h : readT y = some l) : l.length ≤ y.length + 1 := by
  unfold readT at h
  split at h
  · cases h
    exact Nat.zero_le _
  · split at h
    · cases h
    · cases h
      rw [List.length_map]
      exact words_some y
theorem good_told {y : Str} {n : Nat} (t : Tx 100000 y) : GoodN (n + 3) (toldV y) := by
  unfold toldV
  cases h : readT y with
  | none =>
    refine ⟨by rw [sizeLine_eq]; show 1 ≤ 16777216; decide, fun x hx => ?_⟩
    rw [List.mem_singleton.mp hx]
    exact shaped_of t.2
  | some l =>
    refine ⟨by have := readT_len h; have := t.1; rw [sizeLine_eq]; omega, fun x hx => ?_⟩
    obtain ⟨g, hg, rfl⟩ := TX.readT_hooks h x hx
    exact good_hook hg
theorem row_hooks {ns : List Str} {row : Row} (hn : Names ns) (hr : RowOf ns row) : ∀ h ∈ row, HookIn h := fun h hh => ⟨hn.1 _ (hr h hh).1, hn.1 _ (hr h hh).2.1, (hr h hh).2.2.1, (hr h hh).2.2.2⟩
def Ph_law_right (bs : List PyData) (rs : List R) (P : R → List PyData → Prop) : Prop := ∃ N : Int, Box N bs ∧ N ≤ 2 ^ 30 ∧ rs = [] ∧ ∀ bs', Box (N + 30000) bs' → P (.d (.bool true)) bs'
def wr_line : DTS := (wSet false 1 (wCallL Ph_law_row (wCons (wVar 0) (wCons (wCallL Ph_law_names (wCons (wVar 0) (wCons (wBin addD (wC (.int 2)) (wCallL Ph_law_take (wCons (wVar 0) (wCons (wC (.int 7)) wNil)))) wNil))) (wCons (wC (.int 24)) wNil)))))
def wi_first : DTS := (wIfS (wNot (wTru (wCall Ph_law_same (wCons (wLst (wCons (wCall Ph_row_text (wCons (wVar 1) wNil)) (wCons (wCallK Ph_row_text [0] wNil (wCons (wCB tupC (wCons (wVar 1) wNil)) wNil)) (wCons (wCallK (calmP Ph_row_in) [0] wNil (wCons (wVar 2) wNil)) wNil)))) (wCons (wLst (wCons (wVar 2) (wCons (wVar 2) (wCons (wVar 1) wNil)))) wNil))))) (wRet (wC (.bool false))) wNext)
def wb_bend : DTS := (wSet false 4 (wCallL Ph_law_bent (wCons (wVar 0) (wCons (wVar 4) wNil))))
def wi_told : DTS := (wIfS (wNot (wTru (wCall Ph_law_same (wCons (wLst (wCons (wCall Ph_law_told (wCons (wVar 4) wNil)) (wCons (wCall Ph_law_told (wCons (wVar 4) wNil)) wNil))) (wCons (wBin mulD (wLst (wCons (wIf (wB (wBin (isND false) (wVar 6) (wC .none))) (wTup (wCons (wVar 4) wNil)) (wVar 6)) wNil)) (wC (.int 2))) wNil))))) (wRet (wC (.bool false))) wNext)
def wb_turn : DTS := (wSeq (wSet false 4 (wVar 2))
  (wSeq (wFor (wRng1 (wCons (wBin addD (wC (.int 1)) (wCallL Ph_law_take (wCons (wVar 0) (wCons (wC (.int 3)) wNil)))) wNil)) (wName 5) wb_bend)
  (wSeq (wSet false 6 (wCall Ph_law_read (wCons (wVar 4) wNil)))
  wi_told)))
def we_odd : DTE := (wLst (wCons (wC (.str "")) (wCons (wC (.str " ")) (wCons (wC (.str "a")) (wCons (wC (.str "a-b ")) (wCons (wC (.str " a-b")) (wCons (wC (.str "a-b  a-b")) (wCons (wC (.str "b-a")) (wCons (wC (.str "a-a")) (wCons (wC (.str "a-~b")) (wCons (wC (.str ". .")) (wCons (wC (.str "a-b\n")) (wCons (wC (.str "\n")) (wCons (wC (.str "a-b\na-b")) wNil))))))))))))))
def wi_bare : DTS := (wIfS (wNot (wTru (wCall Ph_law_same (wCons (wLst (wCons (wCall Ph_row_text (wCons (wLst wNil) wNil)) (wCons (wCall Ph_row_text (wCons (wTup wNil) wNil)) (wCons (wCall (calmP Ph_row_in) (wCons (wC (.str ".")) wNil)) wNil)))) (wCons (wLst (wCons (wC (.str ".")) (wCons (wC (.str ".")) (wCons (wLst wNil) wNil)))) wNil))))) (wRet (wC (.bool false))) wNext)
def wr_odd : DTS := (wRet (wCB (allC fun bs => bs.all id) (wCons (wLc (wSq (wVar 7)) (wName 8) wYes (wBin (eqD false) (wCall Ph_law_told (wCons (wVar 8) wNil)) (wTup (wCons (wVar 8) wNil))) [8]) wNil)))
/-- _law_right -/
def w_law_right : DTS := (wSeq wr_line
  (wSeq (wSet false 2 (wCall Ph_law_text (wCons (wVar 1) wNil)))
  (wSeq wi_first
  (wSeq (wFor (wRng1 (wCons (wC (.int 16)) wNil)) (wName 3) wb_turn)
  (wSeq (wSet false 7 we_odd)
  (wSeq wi_bare
  wr_odd))))))
def odds : List Str := ["", " ", "a", "a-b ", " a-b", "a-b  a-b", "b-a", "a-a", "a-~b", ". .", "a-b\n", "\n", "a-b\na-b"]
theorem odds_none : odds.all (fun z => (readT z).isNone) = true := by decide +kernel
theorem odds_ok : odds.all (fun z => decide (z.length ≤ 100) && (cs z).all fun c => decide (c < 128)) = true := by decide +kernel
abbrev rhoR (row : Row) (T : Str) (p3 p4 p5 p6 p7 p8 : Option R) : Rho := [some (.c 0), some (.d (rowD row)), some (.d (.str T)), p3, p4, p5, p6, p7, p8]
section
variable {row : Row} {T : Str} {p3 p4 p5 p6 p7 p8 : Option R} {N : Int} {bs : List PyData} {E : DEnds}
theorem bends_ok {ok : Kap → Prop} (hok : ∀ κ, ok κ) : ∀ (xs : List PyData) (N : Int) (bs : List PyData) (L : Nat) (y : Str) (p5 : Option R), Box N bs → N + 5 * (xs.length : Int) ≤ 2 ^ 37 → Tx L y → (L + 2) * 3 ^ xs.length ≤ 20000 →
    (∀ bs' y' p5, Box (N + 5 * (xs.length : Int)) bs' → Tx 20000 y' → E.nx (rhoR row T p3 (some (.d (.str y'))) p5 p6 p7 p8) [.l bs']) →
    forL ok (wName 5) wb_bend E xs (rhoR row T p3 (some (.d (.str y))) p5 p6 p7 p8) [.l bs]
  | [], N, bs, L, y, p5, hb, _, ty, hL, k => by
    rw [forL_nil]
    refine k bs y p5 (by simpa using hb) (ty.mono ?_)
    simp at hL
    omega
  | x :: xs, N, bs, L, y, p5, hb, hN, ty, hL, k => by
    rw [List.length_cons] at hN k hL
    rw [Nat.pow_succ] at hL
    have p1 : 0 < 3 ^ xs.length := Nat.pow_pos (by decide)
    have hL1 : (L + 2) * 3 ^ xs.length * 3 ≤ 20000 := by rw [Nat.mul_assoc]; exact hL
    have hL2 : L + 2 ≤ (L + 2) * 3 ^ xs.length := Nat.le_mul_of_pos_right _ p1
    have hL3 : (3 * L + 3 + 2) * 3 ^ xs.length ≤ (L + 2) * 3 ^ xs.length * 3 := by
      rw [Nat.mul_assoc, Nat.mul_comm (3 ^ xs.length) 3, ← Nat.mul_assoc]
      exact Nat.mul_le_mul_right _ (by omega)
    rw [forL_cons, s_name]
    dsimp only [List.set_cons_succ, List.set_cons_zero]
    unfold wb_bend
    rw [s_set]
    refine box_call (ys := [.str y]) rfl rfl (gc_cons (gv_var (i := 4) rfl) gc_nil) ⟨N, L, y, hb, by omega, rfl, ty, by omega, fun y2 bs2 t2 hb2 => ?_⟩
    dsimp only [List.set_cons_zero]
    rw [DL.lab_d, sto_d]
    dsimp only [List.set_cons_succ, List.set_cons_zero]
    refine ⟨hok _, ?_⟩
    refine bends_ok hok xs (N + 5) bs2 (3 * L + 3) y2 _ hb2 (by omega) t2 (by omega) fun bs' y' q5 hb' ty' => k bs' y' q5 (hb'.mono (by omega)) ty'
theorem turn_ok (hb : Box N bs) (hN : N ≤ 2 ^ 36) (tT : Tx 337 T) (k : ∀ bs' q4 q5 q6, Box (N + 16) bs' → E.nx (rhoR row T p3 q4 q5 q6 p7 p8) [.l bs']) : wb_turn E (rhoR row T p3 p4 p5 p6 p7 p8) [.l bs] := by
  unfold wb_turn
  rw [s_seq]
  refine set_gv (gv_var (i := 2) rfl) ?_
  dsimp only [List.set_cons_succ, List.set_cons_zero]
  rw [s_seq, s_for, s_rng1, s_cons, s_bin, s_c]
  refine box_take rfl rfl hb (by omega) (gv_c (x := .int 3)) (by decide) (by decide) fun m bs1 m0 m1 hb1 => ?_
  obtain ⟨j, rfl⟩ := Int.eq_ofNat_of_zero_le m0
  rw [st_d, val_d, Opt_some, st_d, val_d, Opt_some, addD_int, Opt_some, s_nil]
  dsimp only [Out.r, List.set_cons_zero]
  refine ⟨by omega, by omega, ?_⟩
  have hj : j ≤ 2 := by omega
  have lx : ((List.range (1 + (j : Int)).toNat).map fun (i : Nat) => PyData.int (0 + (i : Int))).length = 1 + j := by rw [List.length_map, List.length_range]; omega
  have h3 : (337 + 2) * 3 ^ (1 + j) ≤ 20000 := by
    have : 3 ^ (1 + j) ≤ 3 ^ 3 := Nat.pow_le_pow_right (by decide) (by omega)
    have e : (3 : Nat) ^ 3 = 27 := by decide
    rw [e] at this
    omega
  refine bends_ok (fun _ => trivial) _ (N + 1) bs1 337 T _ hb1 (by rw [lx]; omega) tT (by rw [lx]; exact h3) fun bs2 y q5 hb2 ty => ?_
  rw [lx] at hb2
  dsimp only
  rw [s_seq]
  refine set_gv (gv_read (y := y) (gv_var (i := 4) rfl) (by have := ty.1; omega)) ?_
  dsimp only [List.set_cons_succ, List.set_cons_zero]
  have t1 := fun κ => gv_told (ρ := rhoR row T p3 (some (.d (.str y))) q5 (some (.d (dueV y))) p7 p8) (κ := κ) (y := y) (gv_var (i := 4) rfl) (by have := ty.1; omega)
  have gt : GoodN 7 (toldV y) := good_told (n := 4) (ty.mono (by decide))
  unfold wi_told
  refine pass_gv (tv_same (x := .list [toldV y, toldV y]) (gv_lst2 (t1 _) (t1 _)) (gv_twice (gv_lst1 (gv_due (gv_var (i := 4) rfl) (gv_var (i := 6) rfl)))) (gn_list (by show 2 ≤ 1000000; decide) (gn_cons gt (gn_cons gt gn_nil)))) ?_
  exact k bs2 _ _ _ (hb2.mono (by omega))
theorem turns_ok {ok : Kap → Prop} (hok : ∀ κ, ok κ) (tT : Tx 337 T) : ∀ (xs : List PyData) (N : Int) (bs : List PyData) (p3 p4 p5 p6 : Option R), Box N bs → N + 16 * (xs.length : Int) ≤ 2 ^ 36 →
    (∀ bs' p3 p4 p5 p6, Box (N + 16 * (xs.length : Int)) bs' → E.nx (rhoR row T p3 p4 p5 p6 p7 p8) [.l bs']) →
    forL ok (wName 3) wb_turn E xs (rhoR row T p3 p4 p5 p6 p7 p8) [.l bs]
  | [], N, bs, p3, p4, p5, p6, hb, _, k => by
    rw [forL_nil]
    exact k bs _ _ _ _ (by simpa using hb)
  | x :: xs, N, bs, p3, p4, p5, p6, hb, hN, k => by
    rw [List.length_cons] at hN k
    rw [forL_cons, s_name]
    dsimp only [List.set_cons_succ, List.set_cons_zero]
    refine turn_ok hb (by omega) tT fun bs2 q4 q5 q6 hb2 => ⟨hok _, ?_⟩
    exact turns_ok hok tT xs (N + 16) bs2 _ _ _ _ hb2 (by omega) fun bs' a3 a4 a5 a6 hb' => k bs' a3 a4 a5 a6 (hb'.mono (by omega))
end
theorem gv_odd {ρ : Rho} {κ : Kap} : Gv we_odd ρ κ (.list (odds.map .str)) :=
  gv_lst (xs := odds.map .str) (ga_cons gv_c (ga_cons gv_c (ga_cons gv_c (ga_cons gv_c (ga_cons gv_c (ga_cons gv_c (ga_cons gv_c (ga_cons gv_c (ga_cons gv_c (ga_cons gv_c (ga_cons gv_c (ga_cons gv_c (ga_cons gv_c ga_nil))))))))))))) (by show 13 ≤ 1000000; decide)
theorem odd_len : odds.length = 13 := rfl
theorem odd_z {z : Str} (h : z ∈ odds) : readT z = none ∧ Tx 100 z := by
  have h1 := List.all_eq_true.mp odds_none z h
  have h2 := List.all_eq_true.mp odds_ok z h
  rw [Bool.and_eq_true, decide_eq_true_iff, List.all_eq_true] at h2
  refine ⟨by simpa using h1, h2.1, fun c hc => ?_⟩
  have := of_decide_eq_true (h2.2 c hc)
  omega
theorem r_law_right (bs : List PyData) (rs : List R) (Pd : R → List PyData → Prop) (h : Ph_law_right bs rs Pd) (hl : rs.length = 0) : w_law_right { nx := fun _ κ => endL κ (.d .none) Pd, rt := fun r κ => endL κ r Pd } (some (.c 0) :: (rs.map some ++ List.replicate 8 none)) [.l bs] := by
  obtain ⟨N, hb, hN, rfl, k⟩ := h
  clear hl
  have hz := sizeLine_eq
  unfold w_law_right
  simp only [List.map_nil, List.replicate_succ, List.replicate_zero, List.cons_append, List.nil_append]
  unfold wr_line
  rw [s_seq, s_set, s_callL, s_cons, s_var]
  simp only [List.getElem?_cons_zero]
  rw [s_cons]
  refine s_names (a := 2) (b := 7) rfl hb (by omega) (by decide) (by decide) fun ns bs1 n2 n9 hn hb1 => ?_
  simp only [s_callL, s_call, s_cons, s_consM, s_nil, s_c, s_var, s_bin, s_un, s_lst, s_tup, s_cb, s_B, s_tru, s_not, s_repr, List.getElem?_cons_succ, List.getElem?_cons_zero, List.set_cons_succ, List.set_cons_zero, st_d, st_f, st_c, val_d, val_f, dats_d, dats_nil, vals_cons, vals_nil, lend_c, args_d, DL.args_nil, Opt_some, out_v, out_n, out_t, lab_d, lab_f, sto_f, sto_d, List.length_cons, List.length_nil, lenD_list, lenD_tuple, listC_list, listC_tuple, tupC_list, tupC_tuple, istt, istf, Bool.not_true, Bool.not_false, Bool.false_eq_true, if_false, if_true]
  refine ⟨N + 201, ns, 24, hb1, by omega, rfl, n2, by omega, hn, by decide, fun row bs2 hr lr hb2 => ?_⟩
  simp only [s_callL, s_call, s_cons, s_consM, s_nil, s_c, s_var, s_bin, s_un, s_lst, s_tup, s_cb, s_B, s_tru, s_not, s_repr, List.getElem?_cons_succ, List.getElem?_cons_zero, List.set_cons_succ, List.set_cons_zero, st_d, st_f, st_c, val_d, val_f, dats_d, dats_nil, vals_cons, vals_nil, lend_c, args_d, DL.args_nil, Opt_some, out_v, out_n, out_t, lab_d, lab_f, sto_f, sto_d, List.length_cons, List.length_nil, lenD_list, lenD_tuple, listC_list, listC_tuple, tupC_list, tupC_tuple, istt, istf, Bool.not_true, Bool.not_false, Bool.false_eq_true, if_false, if_true]
  have hh := row_hooks hn hr
  have hT := TX.rowT_read hh
  have lT := TX.rowT_len hh
  have tT : Tx 337 (rowT row) := ⟨by omega, fun c hc => by have := TX.rowT_ok hh c hc; omega⟩
  rw [s_seq]
  refine set_gv (gv_call1 (z := .str (rowT row)) (gv_var (i := 1) rfl) fun P kk => ⟨row, hh, by omega, rfl, kk _ rfl⟩) ?_
  dsimp only [List.set_cons_succ, List.set_cons_zero]
  generalize eT : rowT row = T at *
  rw [s_seq]
  unfold wi_first
  have gr : GoodN 6 (rowD row) := gn_list (by rw [List.length_map]; omega) (gn_map fun x hx => good_hook (hh x hx))
  have gT : GoodN 7 (.str T) := shaped_of tT.2
  have g1 : Gv (wCall Ph_row_text (wCons (wVar 1) wNil)) (rhoR row T none none none none none none) [.l bs2] (.str T) := gv_call1 (gv_var (i := 1) rfl) fun P kk => ⟨row, _, .inl rfl, hh, by omega, rfl, kk _ (by rw [eT]; rfl)⟩
  have g2 : Gv (wCallK Ph_row_text [0] wNil (wCons (wCB tupC (wCons (wVar 1) wNil)) wNil)) (rhoR row T none none none none none none) [.l bs2] (.str T) := gv_callK (xs := [.tuple (row.map hookD)]) (ys := [.tuple (row.map hookD)]) (gc_cons (gv_tupC (gv_var (i := 1) rfl)) gc_nil) rfl fun P kk => ⟨row, _, .inr rfl, hh, by omega, rfl, kk _ (by rw [eT]; rfl)⟩
  have g3 : Gv (wCallK (calmP Ph_row_in) [0] wNil (wCons (wVar 2) wNil)) (rhoR row T none none none none none none) [.l bs2] (rowD row) := gv_callK (xs := [.str T]) (ys := [.str T]) (gc_cons (gv_var (i := 2) rfl) gc_nil) rfl fun P kk => ⟨T, rfl, by have := tT.1; omega, fun l h => by
    rw [hT] at h
    cases h
    exact kk _ rfl, fun h => by rw [hT] at h; cases h⟩
  refine pass_gv (tv_same (x := .list [.str T, .str T, rowD row]) (gv_lst (ga_cons g1 (ga_cons g2 (ga_cons g3 ga_nil))) (by show 3 ≤ 1000000; decide)) (gv_lst (ga_cons (gv_var (i := 2) rfl) (ga_cons (gv_var (i := 2) rfl) (ga_cons (gv_var (i := 1) rfl) ga_nil))) (by show 3 ≤ 1000000; decide)) (gn_list (by show 3 ≤ 1000000; decide) (gn_cons gT (gn_cons gT (gn_cons (gn_list (n := 6) (by rw [List.length_map]; omega) (gn_map fun x hx => good_hook (hh x hx))) gn_nil))))) ?_
  dsimp only
  rw [s_seq, s_for, s_rng1, s_cons, s_c, s_nil]
  refine ⟨by decide, by decide, ?_⟩
  have lx : ((List.range (16 : Int).toNat).map fun (i : Nat) => PyData.int (0 + (i : Int))).length = 16 := by rw [List.length_map, List.length_range]; rfl
  refine turns_ok (row := row) (fun _ => trivial) tT _ (N + 201 + 20000) bs2 none none none none hb2 (by rw [lx]; omega) fun bs3 p3 p4 p5 p6 hb3 => ?_
  rw [lx] at hb3
  dsimp only
  rw [s_seq]
  refine set_gv gv_odd ?_
  dsimp only [List.set_cons_succ, List.set_cons_zero]
  rw [s_seq]
  unfold wi_bare
  have td : readT dot = some [] := if_pos rfl
  have rd : rowT [] = dot := if_pos rfl
  have gd : GoodN 7 (.str dot) := shaped_of fun c hc => by
    have : c = 46 := by simpa [dot, cs] using hc
    omega
  refine pass_gv (tv_same (x := .list [.str dot, .str dot, .list []]) (gv_lst (ga_cons (gv_call1 (z := .str dot) gv_lst0 fun P kk => ⟨[], .list [], .inl rfl, (fun _ h => nomatch h), by decide, rfl, kk _ (by rw [rd]; rfl)⟩) (ga_cons (gv_call1 (z := .str dot) (gv_tup ga_nil (by show 0 ≤ 1000000; decide)) fun P kk => ⟨[], .tuple [], .inr rfl, (fun _ h => nomatch h), by decide, rfl, kk _ (by rw [rd]; rfl)⟩) (ga_cons (gv_call1 (z := .list []) (by rw [s_dot]; exact gv_c (x := .str dot)) fun P kk => ⟨dot, rfl, by decide, fun l h => by
    rw [td] at h
    cases h
    exact kk _ rfl, fun h => by rw [td] at h; cases h⟩) ga_nil))) (by show 3 ≤ 1000000; decide)) (by rw [s_dot]; exact gv_lst (ga_cons gv_c (ga_cons gv_c (ga_cons gv_lst0 ga_nil))) (by show 3 ≤ 1000000; decide)) (gn_list (by show 3 ≤ 1000000; decide) (gn_cons gd (gn_cons gd (gn_cons (gn_list (n := 6) (by show 0 ≤ 1000000; decide) gn_nil) gn_nil))))) ?_
  dsimp only
  unfold wr_odd
  rw [s_ret]
  have gm : Gv (wLc (wSq (wVar 7)) (wName 8) wYes (wBin (eqD false) (wCall Ph_law_told (wCons (wVar 8) wNil)) (wTup (wCons (wVar 8) wNil))) [8]) (rhoR row T p3 p4 p5 p6 (some (.d (.list (odds.map .str)))) none) [.l bs3] (.list (odds.map fun _ => .bool true)) := by
    refine gv_lcm (gv_var (i := 7) rfl) (by rw [odd_len]; decide) fun z hz C kc => ?_
    obtain ⟨hn, tz⟩ := odd_z hz
    have g := gv_told (ρ := rhoR row T p3 p4 p5 p6 (some (.d (.list (odds.map .str)))) (some (.d (.str z)))) (κ := [.l bs3]) (y := z) (gv_var (i := 8) rfl) (by have := tz.1; omega)
    have et : toldV z = .tuple [.str z] := by unfold toldV; rw [hn]
    rw [et] at g
    have gz : GoodN 8 (.tuple [.str z]) := gn_tup (by show 1 ≤ 1000000; decide) (gn_cons (show GoodN 7 (.str z) from shaped_of tz.2) gn_nil)
    have gg := gv_seD false g (gv_tup (ga_cons (gv_var (i := 8) rfl) ga_nil) (by show 1 ≤ 1000000; decide)) gz
    refine gg C fun r hr => ?_
    rw [st_bool hr]
    exact kc
  refine gv_all (f := fun _ => true) gm _ fun r hr => ?_
  rw [st_bool hr]
  have ea : odds.all (fun _ => true) = true := rfl
  rw [ea]
  show endL (Cell.l bs3 :: []) (.d _) Pd
  rw [endL_d]
  exact k bs3 (hb3.mono (by omega))
abbrev Ph_law := SH.Ph_law
/-- law -/
def w_law : DTS := (wSeq (wFor (wRng1 (wCons (wBin addD (wC (.int 1)) (wCB min2D (wCons (wC (.int 4)) (wCons (wLenS (wVar 0)) wNil)))) wNil)) (wName 1) (wSeq (wSet true 2 (wCall Ph_law_box (wCons (wVar 0) (wCons (wVar 1) wNil))))
  (wIfS (wNot (wTru (wCB (allC fun bs => bs.all id) (wCons (wLc (wRng1 (wCons (wC (.int 1)) wNil)) (wName 3) wYes (wCallL Ph_law_right (wCons (wVar 2) wNil)) [3]) wNil)))) (wRet (wC (.bool false))) wNext)))
  (wRet (wC (.bool true))))
theorem r_law (rs : List R) (Pd : R → Prop) (h : Ph_law rs Pd) (hl : rs.length = 1) : w_law { nx := fun _ _ => Pd (.d .none), rt := fun r κ => Opt (outR κ 0 r) Pd } (rs.map some ++ List.replicate 3 none) [] :=
  r_lawA (M := 4) (m := 1) (c := 30000) ⟨by decide, by decide, fun N bs Q hb h0 hN hQ => ⟨N, hb, hN, rfl, hQ⟩⟩ (by decide) (by decide) rs Pd h hl
end K03
namespace DL
open PySem PySem.Spec PyProof.Rows L2
/-- what is tracked of the script: nothing, or the script as it stands -/
theorem script_heap {P : Program} {w : World} {K : PySem.W.Frag} {s : Shared} {a : Addr} {vs : List Value} {ns : List Int} (KX : K.In s.heap) (ha : s.heap.get? a = some { cls := .type "list", data := .seq vs.toArray }) (hi : IntsAre vs ns) (hl : ns.length ≤ sizeLine) :
    ∃ H : Hp, Only H ∧ SqL K H a (ns.map V.int) ∧ HOk P w H s.heap ∧ ∀ b, H b ≠ none → b = a ∧ K.lookup b = none := by
  have rv := vals_ints hi
  cases q : K.lookup a with
  | none =>
    let o : Obj := { cls := .type "list", data := .seq vs.toArray }
    have at_a : upd (fun _ => none) a (HO.frz o (.lst (ns.map V.int))) a = some (.frz o (.lst (ns.map V.int))) := upd_same
    have off : ∀ b, b ≠ a → upd (fun _ => none) a (HO.frz o (.lst (ns.map V.int))) b = none := fun b h => by rw [upd_ne h]
    refine ⟨upd (fun _ => none) a (.frz o (.lst (ns.map V.int))), fun b => ?_, .inl (.inr ⟨o, at_a⟩), fun b u z => ?_, fun b z => ?_⟩
    · by_cases h : b = a
      · rw [h]; exact .inr ⟨o, _, at_a⟩
      · exact .inl (off b h)
    · by_cases h : b = a
      · subst h
        rw [at_a] at z
        cases z
        exact ⟨ha, by rw [List.length_map]; exact hl, vs, _, rv, ha⟩
      · rw [off b h] at z
        cases z
    · by_cases h : b = a
      · exact ⟨h, by rw [h]; exact q⟩
      · exact absurd (off b h) z
  | some o =>
    have e := KX a o q
    rw [ha] at e
    cases e
    refine ⟨fun _ => none, fun _ => .inl rfl, .inr ⟨_, vs.toArray, _, q, rfl, rfl, rfl, ?_, ?_⟩, (fun b u z => by
      have z' : (none : Option HO) = some u := z
      cases z'), fun b z => absurd rfl z⟩
    · rw [List.size_toArray, hi.length]; exact hl
    · simpa using rv
theorem law_goG {P : Program} {w : World} {K : PySem.W.Frag} {mg mb : Str → Option Value} {k : Nat} {fa a : Addr} {fd : FuncData} {x : Str} {sp : Sp} {s : Shared} {vs : List Value} {ns : List Int} (KX : K.In s.heap) (hns : s.heap.Ns mainGlobals mg) (hb : s.heap.Ns builtinsNs mb) (hbb : ∀ x : Str, x ≠ "__name__" → mb x = bootBuiltins x) (hlim : s.heap.NoLimit) (hg : s.gens = #[])
    (ha : s.heap.get? a = some { cls := .type "list", data := .seq vs.toArray }) (hi : IntsAre vs ns) (hl : ns.length ≤ sizeLine) (hr : RoomG k callerA) (F : ∀ base : Heap, K.In base → base.Ns mainGlobals mg → FnG P w K mg base CX0 k fa fd [x] sp) (bnd : ∀ (s : Shared) (u : Value), BindsTo s fd ⟨[u], []⟩ [(x, u)])
    (hsp : ∀ H : Hp, Only H → SqL K H a (ns.map V.int) → sp [.ref a] H (fun v _ => v = .bl true) fun _ _ _ => False) :
    codeAny (model P w) callerA (.call (.ref fa) ⟨[.ref a], []⟩) (fun r s' => r = .ok (.ret (.bool true)) ∧ OldK s.heap s'.heap ∧ s'.os = s.os ∧ AllBare s'.gens) s := by
  obtain ⟨H, only, sq, hok, few⟩ := script_heap (P := P) (w := w) KX ha hi hl
  have free : ∀ b, (b ≠ a ∨ K.lookup b ≠ none) → H b = none := fun b h => by
    cases q : H b with
    | none => rfl
    | some u =>
      obtain ⟨e1, e2⟩ := few b (by rw [q]; exact fun z => nomatch z)
      rcases h with h | h
      · exact absurd e1 h
      · exact absurd e2 h
  have inB : K.In (hidT s.heap H) := fun b o e => hidT_get (KX b o e) (free b (.inr (by rw [e]; exact fun z => nomatch z)))
  have dictB : ∀ {b : Addr} {o : Obj} {es : Array DictEntry} {ep : Nat}, s.heap.get? b = some o → o.data = .dict es ep → (hidT s.heap H).get? b = some o := fun {b o es ep} e d => hidT_get e (free b (.inl fun z => by
    subst z
    rw [ha] at e
    cases e
    cases d))
  have nsB : ∀ {b : Addr} {m : Str → Option Value}, s.heap.Ns b m → (hidT s.heap H).Ns b m := fun {b m} n => by
    obtain ⟨o, es, ep, e, d, r⟩ := n
    exact ⟨o, es, ep, dictB e d, d, r⟩
  obtain ⟨mc, l1, l2⟩ := hlim
  have e0 : Env0 P w K mg (hidT s.heap H) callerA [] s H := ⟨rfl, ⟨inB, nsB hns, ⟨mb, nsB hb, hbb⟩, ⟨mc, nsB l1, l2⟩⟩, fun b o e => of_hidT e, Nat.le_of_eq (hidT_size _ _), trivial, fun b z => absurd (show b ∈ ([] : List Addr) from z) (List.not_mem_nil), hok, .of_eq hg⟩
  apply codeAny_mono ((F _ inB (nsB hns)).go callerA [] s H ⟨[.ref a], []⟩ [.ref a] [.ref a] _ _ hr e0 (bnd s (.ref a)) (.cons rfl .nil) (hsp H only sq))
  intro r s' z
  cases r with
  | error e => exact z.elim
  | ok fl =>
    cases fl with
    | ret u =>
      obtain ⟨v, H', os, bare, un, hok', rv, rfl⟩ := z
      have eu : u = Value.bool true := rv
      subst eu
      refine ⟨rfl, OldK.of_keep fun b o e => ?_, os, bare⟩
      rcases only b with n | ⟨ob, xs, n⟩
      · exact un.keep b o e n (fun z => absurd (show b ∈ ([] : List Addr) from z) List.not_mem_nil) (by simp)
      · have q1 := (hok b _ n).1
        have q2 := (hok' b _ (un.frzs b ob _ n)).1
        rw [e] at q1
        cases q1
        exact q2
    | _ => exact z.elim
theorem walkG {l : PySem.W.OpenLaw} {n k : Nat} {q : Program} {loose : List Str} {XP : (Str → Option Value) → Heap → Prop} {YP : World → Heap → Prop} {d : DefRec} {K : Params → PySem.W.Frag} {x : Str} {Φ : List R → (R → Prop) → Prop}
    (hn : l.most = some n) (hn2 : n ≤ sizeLine) (hdf : d.params.defaults = []) (hr : Room k callerA) (hT : ∀ w : World, tabsOf (K w.params) = []) (hY : ∀ (w : World) (h : Heap), YP w h → (K w.params).In h)
    (F : ∀ (w : World) (mg : Str → Option Value) (fa : Addr) (h : Heap), (K w.params).In h → h.Ns mainGlobals mg → mg d.name = some (.ref fa) →
      ∃ fd : FuncData, (∀ (s : Shared) (u : Value), BindsTo s fd ⟨[u], []⟩ [(x, u)]) ∧ ∀ base : Heap, (K w.params).In base → base.Ns mainGlobals mg → FnG l.prog w (K w.params) mg base CX0 k fa fd [x] (spD (K w.params) 1 Φ))
    (hΦ : ∀ ns : List Int, ns.length ≤ n → Φ [.s ns] fun r => r = .d (.bool true)) :
    PySem.W.WalkO q loose XP YP l.row.toRowW d [] (fun f vs => PySem.call f vs) := by
  refine Att.attach_call hn hdf fun w s₀ s₁ mg mb fa o pm cd doc a vs ns G Y ho hd hcd hmg hobj hints hlen hg => ?_
  obtain ⟨fd, bnd, FF⟩ := F w mg fa _ (hY w _ Y) G.T.g hmg
  refine law_goG (hY w _ Y) G.T.g G.T.b G.T.builtins G.T.nolimit hg hobj hints (Nat.le_trans hlen hn2) (room_callerG hr) FF bnd fun H only hS => ?_
  refine ⟨rfl, H, [.s ns], fun r => r = .d (.bool true), ⟨Ex.refl H, fun P hP => by rw [hT w] at hP; cases hP⟩, .cons ⟨a, rfl, hS⟩ .nil, hΦ ns hlen, fun v r G' H' e _ _ rv => ?_⟩
  subst e
  have rv : Rp (K w.params) G' v (.bool true) := rv
  cases rv
  rfl
end DL
namespace DL
open PySem PySem.Spec PyProof.Rows L2
def wAugS (wo wi : DTE) (f : Int → Int → Int) (we : DTE) : DTS := fun E ρ κ => wo ρ κ fun ro κ1 => match ro with
  | .c k => wi ρ κ1 fun ri κ2 => match ri, κ2[k]? with
    | .d (.int i), some (.l xs) => 0 ≤ i ∧ match xs[i.toNat]? with
      | some (.int a) => we ρ κ2 fun rb κ3 => match rb, κ3[k]? with
        | .d (.int b), some (.l ys) => i.toNat < ys.length ∧ E.nx ρ (κ3.set k (.l (ys.set i.toNat (.int (f a b)))))
        | _, _ => False
      | _ => False
    | _, _ => False
  | _ => False
@[simp] theorem s_augS (wo wi : DTE) (f : Int → Int → Int) (we : DTE) (E : DEnds) (ρ : Rho) (κ : Kap) : wAugS wo wi f we E ρ κ = wo ρ κ fun ro κ1 => match ro with
  | .c k => wi ρ κ1 fun ri κ2 => match ri, κ2[k]? with
    | .d (.int i), some (.l xs) => 0 ≤ i ∧ match xs[i.toNat]? with
      | some (.int a) => we ρ κ2 fun rb κ3 => match rb, κ3[k]? with
        | .d (.int b), some (.l ys) => i.toNat < ys.length ∧ E.nx ρ (κ3.set k (.l (ys.set i.toNat (.int (f a b)))))
        | _, _ => False
      | _ => False
    | _, _ => False
  | _ => False := rfl
end DL
namespace DL
open PySem PySem.Spec PyProof.Rows L2
/-- nothing has changed but the table, and a new code object is known -/
def GrownT (H H' : Hp) (P : Addr) : Prop := H' = H ∨ ∃ ps ps' c, H P = some (.tbl ps) ∧ H c = none ∧ H' = upd (upd H P (.tbl ps')) c (LamX.CodeO c lamQ)
theorem GrownT.at_ {H H' : Hp} {P : Addr} (g : GrownT H H' P) {b : Addr} {o : HO} (nt : NT o) (h : H b = some o) : H' b = some o := by
  rcases g with rfl | ⟨ps, ps', c, hP, hc, rfl⟩
  · exact h
  · have n1 : b ≠ c := ne_of_none h hc
    have n2 : b ≠ P := fun e => nt ps (by rw [e, hP] at h; exact (Option.some.inj h).symm)
    rw [upd_ne n1, upd_ne n2]
    exact h
theorem GrownT.off {H H' : Hp} {P : Addr} (g : GrownT H H' P) {b : Addr} (h : H' b = none) : H b = none := by
  rcases g with rfl | ⟨ps, ps', c, hP, hc, rfl⟩
  · exact h
  · by_cases n1 : b = c
    · rw [n1]; exact hc
    · rw [upd_ne n1] at h
      by_cases n2 : b = P
      · rw [n2, upd_same] at h; cases h
      · rwa [upd_ne n2] at h
section
variable {K : PySem.W.Frag} {G H H' : Hp} {As : List Addr} {κ : Kap} {P : Addr}
end
section
variable {X : Cx} {pins : List (Addr × Obj)} {σ : L2.St} {H : Hp} {s : Shared}
/-- what stands behind the making: the function object, its code object -/
def LamAt (h : Heap) (params : Arguments) (body : Expr) (scope : Scope) (f : Addr) : Prop := ∃ (cl : List (Str × Addr)) (c : Addr) (pm ctv : Value), h.get? f = some (PySem.W.kla_obj "<lambda>" lamQ params body scope cl pm c ctv) ∧ h.CodeRec (.ref c) lamQ
theorem LamAt.keeps {h h' : Heap} {params : Arguments} {body : Expr} {scope : Scope} {f : Addr} (k : ∀ b o, h.get? b = some o → h'.get? b = some o) (x : LamAt h params body scope f) : LamAt h' params body scope f := by
  obtain ⟨cl, c, pm, ctv, h1, ⟨c2, oc, vs, t, e, h2, h3⟩⟩ := x
  exact ⟨cl, c, pm, ctv, k _ _ h1, ⟨c2, oc, vs, t, e, k _ _ h2, h3⟩⟩
end
section
variable {P : Program} {w : World} {B : Around} {E : Value → Shared → Prop} {s : Shared}
end
section
variable {X : Cx} {x : Str} {p pos lpos kpos : Pos} {e : Expr} {t : TA} {params : Arguments} {body : Expr} {scope : Scope} {c P : Addr} {k : Nat} {y : Str}
end
section
variable {X : Cx} {e : Expr} {we : DTE} {p pos lpos kpos : Pos} {params : Arguments} {body : Expr} {scope : Scope} {c P : Addr} {k : Nat} {y : Str}
end
section
variable {P : Program} {w : World} {K : PySem.W.Frag} {mg : Str → Option Value} {base : Heap} {x qual : Str} {st : Stmt} {f : Addr} {fd : FuncData} {N ps : List Str} {k : Nat} {sp : Sp}
end
end DL
namespace DL
open PySem PySem.Spec PyProof.Rows L2
end DL
namespace DL
open PySem PySem.Spec PyProof.Rows L2
section
variable {P : Program} {w : World} {A : Around} {E : Value → Shared → Prop}
/-- where a tuple's items lie -/
def TupsAt (h : Heap) (us : List Value) (ls : List (List Value)) : Prop := PySem.W.EachIs (fun (u : Value) (its : List Value) => ∃ b : Addr, u = .ref b ∧ IsTup h b its.toArray) us ls
theorem tup_keeps {h h' : Heap} (k : ∀ b o, h.get? b = some o → h'.get? b = some o) {b : Addr} {its : Array Value} (q : IsTup h b its) : IsTup h' b its := by
  obtain ⟨o, e, r⟩ := q
  exact ⟨o, k b o e, r⟩
theorem TupsAt.keeps {h h' : Heap} (k : ∀ b o, h.get? b = some o → h'.get? b = some o) : ∀ {us : List Value} {ls : List (List Value)}, TupsAt h us ls → TupsAt h' us ls
  | _, _, .nil => .nil
  | _, _, .cons r t => by
    obtain ⟨b, e, q⟩ := r
    exact .cons ⟨b, e, tup_keeps k q⟩ (TupsAt.keeps k t)
theorem TupsAt.get {h : Heap} : ∀ {us : List Value} {ls : List (List Value)} {i : Nat} {u : Value}, TupsAt h us ls → us[i]? = some u → ∃ its b, ls[i]? = some its ∧ u = .ref b ∧ IsTup h b its.toArray
  | _, _, _, _, .nil, e => by simp at e
  | _, _, 0, u, .cons r _, e => by
    obtain ⟨b, e1, q⟩ := r
    exact ⟨_, b, rfl, (Option.some.inj e).symm.trans e1, q⟩
  | _, _, i + 1, u, .cons _ t, e => TupsAt.get (i := i) t (by simpa using e)
end
section
variable {X : Cx} {pins : List (Addr × Obj)} {σ : L2.St} {H : Hp} {s : Shared}
end
section
variable {X : Cx} {e : Expr} {we : DTE} {p p2 pos cpos : Pos}
end
end DL
namespace DL
open PySem PySem.Spec PyProof.Rows L2
section
variable {X : Cx} {e : Expr} {we : DTE} {p p2 pos pos2 : Pos}
end
end DL
namespace DL
open PySem PySem.Spec PyProof.Rows L2
section
variable {K : PySem.W.Frag} {G H G' H' G1 H1 H0 : Hp} {As As' L L' : List Addr} {σ : L2.St} {ρ : Rho} {κ κ' : Kap} {v : V} {r : R}
/-- a cell that is not lent stays -/
theorem CellOk.frame {b : Addr} {x : Cell} {bs : List Addr} (s : Step G H L G' H' L') (ni : b ∉ L) (w : CellOk K G H As b x) : CellOk K G' H' (As ++ bs) b x := by
  cases x with
  | l ds' =>
    obtain ⟨w1, ws, w2, w3⟩ := w
    refine ⟨?_, ws, s.fr b _ ni (wo_lst ws).1 w2, RpA.mono s.ex _ _ w3⟩
    rcases s.gn b w1 with z | z | z | ⟨ys, z⟩
    · exact z
    · rw [w2] at z; cases z
    · exact absurd z ni
    · have q := s.fr b _ ni (wo_lst ws).1 w2
      rw [z] at q
      cases q
  | m es' =>
    obtain ⟨w1, ws, w2, w3⟩ := w
    refine ⟨?_, ws, s.fr b _ ni (wo_dK ws).1 w2, w3.mono s.ex ⟨bs, rfl⟩⟩
    rcases s.gn b w1 with z | z | z | ⟨ys, z⟩
    · exact z
    · rw [w2] at z; cases z
    · exact absurd z ni
    · have q := s.fr b _ ni (wo_dK ws).1 w2
      rw [z] at q
      cases q
  | z x => exact Rp.mono s.ex _ _ w
  | k es => exact ItH.mono s.ex w
  | n nw es' =>
    obtain ⟨w1, ws, w2, w3⟩ := w
    refine ⟨?_, ws, s.fr b _ ni wo_HN.1 w2, w3.mono s.ex ⟨bs, rfl⟩⟩
    rcases s.gn b w1 with z | z | z | ⟨ys, z⟩
    · exact z
    · rw [w2] at z; cases z
    · exact absurd z ni
    · have q := s.fr b _ ni wo_HN.1 w2
      rw [z] at q
      cases q
  | e ks =>
    obtain ⟨w1, ws, w2, w3⟩ := w
    refine ⟨?_, ws, s.fr b _ ni (wo_lst ws).1 w2, w3.mono s.ex ⟨bs, rfl⟩⟩
    rcases s.gn b w1 with z | z | z | ⟨ys, z⟩
    · exact z
    · rw [w2] at z; cases z
    · exact absurd z ni
    · have q := s.fr b _ ni (wo_lst ws).1 w2
      rw [z] at q
      cases q
  | x u =>
    obtain ⟨w1, w2, w3⟩ := w
    refine ⟨?_, s.fr b _ ni w3.1 w2, w3⟩
    rcases s.gn b w1 with z | z | z | ⟨ys, z⟩
    · exact z
    · rw [w2] at z; cases z
    · exact absurd z ni
    · have q := s.fr b _ ni w3.1 w2
      rw [z] at q
      exact (w3.2.2 ys (Option.some.inj q).symm).elim
end
section
variable {X : Cx} {k n : Nat} {ps : List Str} {x : Str} {p pos : Pos} {e : Expr} {es : List Expr} {wr : DTA}
end
section
variable {P : Program} {w : World} {K : PySem.W.Frag} {mg : Str → Option Value} {base : Heap} {x qual : Str} {st : Stmt} {f : Addr} {fd : FuncData} {N ps : List Str} {k : Nat}
end
end DL
namespace DL
open PySem PySem.Spec PyProof.Rows L2
section
variable {K : PySem.W.Frag} {G H G2 H2 : Hp} {d : Addr}
end
end DL
namespace DL
open PySem PySem.Spec PyProof.Rows L2
section
variable {K : PySem.W.Frag} {G H G' H' : Hp} {As As' : List Addr} {κ : Kap} {v : V} {r : R}
end
section
variable {X : Cx} {a b : Expr} {wr : DTA} {pos p : Pos}
end
end DL
namespace DL
open PySem PySem.Spec PyProof.Rows L2
structure CalV (P : Program) (w : World) (K : PySem.W.Frag) (mg : Str → Option Value) (base : Heap) (x : Str) (k : Nat) (ps : List Str) (dvs : List PyData) (sp : Sp) : Prop where
  ex : ∃ (f : Addr) (fd : FuncData) (ws : List V) (ds : List Value), FnG P w K mg base CX0 k f fd ps sp ∧ mg x = some (.ref f) ∧ PySem.W.keepIn K (.ref f) = true ∧ Vals ws ds ∧ (∀ G, RpA K G ws dvs) ∧ Binds K fd ps ds
theorem CalV.mono {P : Program} {w : World} {K : PySem.W.Frag} {mg : Str → Option Value} {base : Heap} {x : Str} {k j : Nat} {ps : List Str} {dvs : List PyData} {sp : Sp} (C : CalV P w K mg base x j ps dvs sp) (h : j ≤ k) : CalV P w K mg base x k ps dvs sp := by
  obtain ⟨f, fd, ws, ds, F, a, b, c, d, e⟩ := C.ex
  exact ⟨f, fd, ws, ds, F.mono h, a, b, c, d, e⟩
section
variable {X : Cx} {k n : Nat} {ps : List Str} {x : Str} {p pos : Pos} {e : Expr} {es : List Expr} {wr : DTA}
end
end DL
namespace DL
open PySem PySem.Spec PyProof.Rows L2
section
variable {X : Cx}
end
end DL
namespace DL
open PySem PySem.Spec PyProof.Rows L2
section
variable {X : Cx} {es : List Expr} {wr : DTA} {pos : Pos}
end
section
variable {X : Cx} {a b : Expr} {wa wb : DTE} {pos : Pos}
end
section
variable {X : Cx} {k n : Nat} {ps : List Str} {x : Str} {p pos : Pos} {e : Expr} {es : List Expr} {wr : DTA}
end
section
variable {P : Program} {w : World} {K : PySem.W.Frag} {mg : Str → Option Value} {base : Heap} {x qual : Str} {st : Stmt} {f : Addr} {fd : FuncData} {N ps : List Str} {k : Nat}
end
section
variable {X : Cx} {k n : Nat} {ps : List Str} {x : Str} {p pos : Pos} {e : Expr} {es : List Expr} {wr : DTA}
end
end DL
namespace DL
open PySem PySem.Spec PyProof.Rows L2
section
variable {X : Cx} {elt tg iter : Expr} {ifs : List Expr} {scope : Scope} {own : List (Str × Nat)} {pos : Pos} {g : DTG} {wt : DTT} {we : DTE} {js : List Nat}
end
section
variable {X : Cx} {k n : Nat} {ps : List Str} {x : Str} {p pos : Pos} {e : Expr} {es : List Expr} {wr : DTA}
end
section
variable {P : Program} {w : World} {K : PySem.W.Frag} {mg : Str → Option Value} {base : Heap} {x qual : Str} {st : Stmt} {f : Addr} {fd : FuncData} {N ps : List Str} {k : Nat}
end
section
variable {X : Cx} {e : Expr} {we : DTE} {hi : Option Expr} {wh : DTO} {p2 pos : Pos}
end
section
variable {X : Cx} {o a : Expr} {wo wa : DTE} {apos cpos : Pos}
end
end DL
namespace K03
open PySem PySem.Spec PyProof.Rows L2 DL SH
open WB (tv_orT)
def topS (i : Nat) : Stmt := PySem.Challenge.rw_drawnropes_k03_texts_of_rows_spoilt.prog.main.body.getD i (.Pass ⟨0, 0, 0, 0⟩)
structure XT (K : PySem.W.Frag) (mg : Str → Option Value) (c_BadRow c_BadText : Addr) : Prop where
  m_BadRow : mg "BadRow" = some (.ref c_BadRow)
  m_BadText : mg "BadText" = some (.ref c_BadText)
  tab1 : ExcTab K mg ["BadRow", "BadText"] [c_BadRow, c_BadText] ["BadText"]
  kf2 : KitF K (.ref c_BadText) [("BadText", true)]
  kb3 : KitF K (.type "ValueError") [("BadText", true)]
  fl4 : ∀ cn ∈ (["BadText"] : List Str), FldC K cn "text"
abbrev i_BadText : Stmt := clsS (topS 1) 0
theorem sc_init_BadText : FnScope ["self", "text"] ["self", "text"] (defScope i_BadText) := ⟨rfl, rfl, rfl, by decide +kernel, rfl, by decide +kernel, by decide +kernel⟩
theorem ok_init_BadText {P : Program} {w : World} {K : PySem.W.Frag} {mg : Str → Option Value} {base : Heap} {f : Addr} {fd : FuncData} (F : Fun K "__init__" "BadText.__init__" i_BadText f fd) (hv : mg "ValueError" = none) (vV : PySem.W.findCls K (.type "ValueError") (.type "type") "__init__" = some (.val (.builtin "ValueError.__init__"))) : FnOk P w K mg base CX0 1 f fd ["self", "text"] (spInit K "text") :=
  F.ok sc_init_BadText spInit_len fun cdv A outer s H vs Q E hr h => ⟨_, pss_cons (ps_expr (pe_veinit (by rfl) hv vV (pa_cons (pv 0) (pa_cons pe_str pa_nil)))) (pss_one (ps_ost (pv 0) (pv 1))), init_reads h⟩
structure Bn (mg : Str → Option Value) : Prop where
  isinstance_ : mg "isinstance" = none
  str_ : mg "str" = none
  len_ : mg "len" = none
  all_ : mg "all" = none
  int_ : mg "int" = none
  bool_ : mg "bool" = none
  tuple_ : mg "tuple" = none
  abs_ : mg "abs" = none
  list_ : mg "list" = none
  zip_ : mg "zip" = none
  range_ : mg "range" = none
  sorted_ : mg "sorted" = none
  max_ : mg "max" = none
  min_ : mg "min" = none
  ValueError_ : mg "ValueError" = none
section
variable {P : Program} {w : World} {K : PySem.W.Frag} {mg : Str → Option Value} {base : Heap}
abbrev s_is_rope : Stmt := topS 7
theorem sc_is_rope : FnScope ["thing", "sign"] ["thing"] (defScope s_is_rope) := ⟨rfl, rfl, rfl, by decide +kernel, rfl, by decide +kernel, by decide +kernel⟩
theorem d_is_rope {f : Addr} {cdv : Value} {A : Around} {outer : List Env} {s : Shared} {H : Hp} {E : XK} {k : Nat} (hr : RoomG k (A.deeper (envOfC "is_rope" (defScope s_is_rope) s.heap.objs.size f cdv))) (B : Bn mg) {t_MOST_LETTERS : Tok} (K_MOST_LETTERS : mg "MOST_LETTERS" = some (.int (6) t_MOST_LETTERS)) {t_SMALL_LETTERS : Tok} (K_SMALL_LETTERS : mg "SMALL_LETTERS" = some (.str "abcdefghijklmnopqrstuvwxyz" t_SMALL_LETTERS)) :
    DSs (cxOf CX0 P w K mg base ["thing", "sign"] "is_rope" (defScope s_is_rope) f cdv A outer s H E).nox (defBody s_is_rope) w_is_rope := by
  have nd : (["thing", "sign"] : List Str).Nodup := sc_is_rope.nd
  exact (dss_cons (ds_if (dw_pt (dw_or (dt_not (dt_tru (de_isi .str B.isinstance_ B.str_ (de_var 0)))) (dw_or1 (dt_not (dt_chain op_leI ci_ok op_leI ci_ok de_int (de_callB call_len len_ok B.len_ (da_cons (de_var 0) da_nil)) (de_globI K_MOST_LETTERS)))))) (dss_one (ds_ret de_bl)) dss_nil)
      (dss_one (ds_ret (de_callB (cr_all rfl) allC_ok B.all_ (da_cons (de_lc (own := [("sign", 1)]) rfl nd (di_seq (de_var 0)) (blkOk_by (by kernel_rfl)) (fun _ => (dg_name 1 nd)) (fun _ => dts_nil) (fun _ => (de_cmp (op_inA (room65 hr)) in_ok (de_var 1) (de_globS K_SMALL_LETTERS) (by rfl)))) da_nil)))))
abbrev s_is_number : Stmt := topS 8
theorem sc_is_number : FnScope ["thing"] ["thing"] (defScope s_is_number) := ⟨rfl, rfl, rfl, by decide +kernel, rfl, by decide +kernel, by decide +kernel⟩
theorem d_is_number {f : Addr} {cdv : Value} {A : Around} {outer : List Env} {s : Shared} {H : Hp} {E : XK} {k : Nat} (hr : RoomG k (A.deeper (envOfC "is_number" (defScope s_is_number) s.heap.objs.size f cdv))) (B : Bn mg) :
    DSs (cxOf CX0 P w K mg base ["thing"] "is_number" (defScope s_is_number) f cdv A outer s H E).nox (defBody s_is_number) w_is_number := by
  have nd : (["thing"] : List Str).Nodup := sc_is_number.nd
  exact (dss_one (ds_ret (de_and (de_isi .int B.isinstance_ B.int_ (de_var 0)) (de_one (de_not (de_isi .bool B.isinstance_ B.bool_ (de_var 0)))))))
abbrev s_is_sense : Stmt := topS 9
theorem sc_is_sense : FnScope ["thing"] ["thing"] (defScope s_is_sense) := ⟨rfl, rfl, rfl, by decide +kernel, rfl, by decide +kernel, by decide +kernel⟩
theorem d_is_sense {f : Addr} {cdv : Value} {A : Around} {outer : List Env} {s : Shared} {H : Hp} {E : XK} {k : Nat} (hr : RoomG k (A.deeper (envOfC "is_sense" (defScope s_is_sense) s.heap.objs.size f cdv))) (B : Bn mg) (C_is_number : Cal P w K mg base "is_number" k ["thing"] (spD K 1 Ph_is_number)) :
    DSs (cxOf CX0 P w K mg base ["thing"] "is_sense" (defScope s_is_sense) f cdv A outer s H E).nox (defBody s_is_sense) w_is_sense := by
  have nd : (["thing"] : List Str).Nodup := sc_is_sense.nd
  exact (dss_one (ds_ret (de_and (de_callC C_is_number hr rfl (da_cons (de_var 0) da_nil)) (de_one (de_cmp (op_inA (room65 hr)) in_ok (de_var 0) (de_tup (da_cons de_int (da_cons (de_un un_neg neg_ok de_int) da_nil))) (by rfl))))))
abbrev s_is_hook : Stmt := topS 10
theorem sc_is_hook : FnScope ["thing"] ["thing"] (defScope s_is_hook) := ⟨rfl, rfl, rfl, by decide +kernel, rfl, by decide +kernel, by decide +kernel⟩
theorem d_is_hook {f : Addr} {cdv : Value} {A : Around} {outer : List Env} {s : Shared} {H : Hp} {E : XK} {k : Nat} (hr : RoomG k (A.deeper (envOfC "is_hook" (defScope s_is_hook) s.heap.objs.size f cdv))) (B : Bn mg) {t_HOOK_PARTS : Tok} (K_HOOK_PARTS : mg "HOOK_PARTS" = some (.int (3) t_HOOK_PARTS)) (C_is_sense : Cal P w K mg base "is_sense" k ["thing"] (spD K 1 Ph_is_sense)) (C_is_rope : Cal P w K mg base "is_rope" k ["thing"] (spD K 1 Ph_is_rope)) :
    DSs (cxOf CX0 P w K mg base ["thing"] "is_hook" (defScope s_is_hook) f cdv A outer s H E).nox (defBody s_is_hook) w_is_hook := by
  have nd : (["thing"] : List Str).Nodup := sc_is_hook.nd
  exact (dss_cons (ds_if (dw_pt (dw_or (dt_not (dt_tru (de_isi .tuple B.isinstance_ B.tuple_ (de_var 0)))) (dw_or (dt_cmp (op_neS hr.toRoom.units) ne_ok (de_callB call_len len_ok B.len_ (da_cons (de_var 0) da_nil)) (de_globI K_HOOK_PARTS) (nomark _)) (dw_or1 (dt_not (dt_tru (de_callC C_is_sense hr rfl (da_cons (de_ix ix_seq ix_ok (de_var 0) de_int (fun _ _ => rfl)) da_nil)))))))) (dss_one (ds_ret de_bl)) dss_nil)
      (dss_one (ds_ret (de_and (de_callC C_is_rope hr rfl (da_cons (de_ix ix_seq ix_ok (de_var 0) de_int (fun _ _ => rfl)) da_nil)) (de_and (de_callC C_is_rope hr rfl (da_cons (de_ix ix_seq ix_ok (de_var 0) de_int (fun _ _ => rfl)) da_nil)) (de_one (de_cmp op_ltD ord_ok (de_ix ix_seq ix_ok (de_var 0) de_int (fun _ _ => rfl)) (de_ix ix_seq ix_ok (de_var 0) de_int (fun _ _ => rfl)) (nomark _))))))))
abbrev s_hook_text : Stmt := topS 16
theorem sc_hook_text : FnScope ["hook", "one", "other", "sense"] ["hook"] (defScope s_hook_text) := ⟨rfl, rfl, rfl, by decide +kernel, rfl, by decide +kernel, by decide +kernel⟩
theorem d_hook_text {f : Addr} {cdv : Value} {A : Around} {outer : List Env} {s : Shared} {H : Hp} {E : XK} {k : Nat} (hr : RoomG k (A.deeper (envOfC "hook_text" (defScope s_hook_text) s.heap.objs.size f cdv))) (B : Bn mg) {t_RIGHT_SIGN : Tok} (K_RIGHT_SIGN : mg "RIGHT_SIGN" = some (.str "-" t_RIGHT_SIGN)) {t_LEFT_SIGN : Tok} (K_LEFT_SIGN : mg "LEFT_SIGN" = some (.str "~" t_LEFT_SIGN)) :
    DSs (cxOf CX0 P w K mg base ["hook", "one", "other", "sense"] "hook_text" (defScope s_hook_text) f cdv A outer s H E).nox (defBody s_hook_text) w_hook_text := by
  have nd : (["hook", "one", "other", "sense"] : List Str).Nodup := sc_hook_text.nd
  exact (dss_cons (ds_asg (de_var 0) (dg_tup rfl (dgs_cons (dg_name 1 nd) (dgs_cons (dg_name 2 nd) (dgs_cons (dg_name 3 nd) dgs_nil)))))
      (dss_one (ds_ret (de_fmt (DJ.cons (de_var 1) (DJ.cons (de_ifx (dt_cmp (op_eqS hr.toRoom.units) eq_ok (de_var 3) de_int (nomark _)) (de_globS K_RIGHT_SIGN) (de_globS K_LEFT_SIGN)) (DJ.cons (de_var 2) DJ.nil)))))))
abbrev s_row_text : Stmt := topS 17
theorem sc_row_text : FnScope ["row", "hook"] ["row"] (defScope s_row_text) := ⟨rfl, rfl, rfl, by decide +kernel, rfl, by decide +kernel, by decide +kernel⟩
theorem d_row_text {f : Addr} {cdv : Value} {A : Around} {outer : List Env} {s : Shared} {H : Hp} {E : XK} {k : Nat} (hr : RoomG k (A.deeper (envOfC "row_text" (defScope s_row_text) s.heap.objs.size f cdv))) (B : Bn mg) {t_BARE_TEXT : Tok} (K_BARE_TEXT : mg "BARE_TEXT" = some (.str "." t_BARE_TEXT)) (C_hook_text : Cal P w K mg base "hook_text" k ["hook"] (spD K 1 Ph_hook_text)) :
    DSs (cxOf CX0 P w K mg base ["row", "hook"] "row_text" (defScope s_row_text) f cdv A outer s H E).nox (defBody s_row_text) w_row_text := by
  have nd : (["row", "hook"] : List Str).Nodup := sc_row_text.nd
  exact (dss_one (ds_ret (de_ifx (dt_cmp op_gtI ci_ok (de_callB call_len len_ok B.len_ (da_cons (de_var 0) da_nil)) de_int (nomark _)) (de_bm PySem.F.plainAttrs_str PySem.F.slot_str_join PySem.F.type_str_join mt_join joinC_ok de_str (da_cons (de_lc (own := [("hook", 1)]) rfl nd (di_seq (de_var 0)) (blkOk_by (by kernel_rfl)) (fun _ => (dg_name 1 nd)) (fun _ => dts_nil) (fun _ => (de_callC C_hook_text hr rfl (da_cons (de_var 1) da_nil)))) da_nil)) (de_globS K_BARE_TEXT))))
abbrev s_hook_in : Stmt := topS 18
theorem sc_hook_in : FnScope ["word", "sign", "sense", "one", "found", "other"] ["word"] (defScope s_hook_in) := ⟨rfl, rfl, rfl, by decide +kernel, rfl, by decide +kernel, by decide +kernel⟩
theorem d_hook_in {f : Addr} {cdv : Value} {A : Around} {outer : List Env} {s : Shared} {H : Hp} {E : XK} {k : Nat} (hr : RoomG k (A.deeper (envOfC "hook_in" (defScope s_hook_in) s.heap.objs.size f cdv))) (B : Bn mg) (K_SENSES : Tab K mg "SENSES" [[.str "-", .int (1)], [.str "~", .int (-1)]]) (C_is_hook : Cal P w K mg base "is_hook" k ["thing"] (spD K 1 Ph_is_hook)) :
    DSs (cxOf CX0 P w K mg base ["word", "sign", "sense", "one", "found", "other"] "hook_in" (defScope s_hook_in) f cdv A outer s H E).nox (defBody s_hook_in) w_hook_in := by
  have nd : (["word", "sign", "sense", "one", "found", "other"] : List Str).Nodup := sc_hook_in.nd
  exact (dss_cons (ds_forT PassesOwn.never rfl K_SENSES (dgs_cons (dg_name 1 nd) (dgs_cons (dg_name 2 nd) dgs_nil)) (dss_cons (ds_asg (de_bm PySem.F.plainAttrs_str PySem.F.slot_str_partition PySem.F.type_str_partition mt_partition part_ok (de_var 0) (da_cons (de_var 1) da_nil)) (dg_tup rfl (dgs_cons (dg_name 3 nd) (dgs_cons (dg_name 4 nd) (dgs_cons (dg_name 5 nd) dgs_nil)))))
      (dss_one (ds_if (dw_pt (dw_and (dt_cmp (op_neS hr.toRoom.units) ne_ok (de_var 4) de_str (nomark _)) (dw_and1 (dt_tru (de_callC C_is_hook hr rfl (da_cons (de_tup (da_cons (de_var 3) (da_cons (de_var 5) (da_cons (de_var 2) da_nil)))) da_nil)))))) (dss_one (ds_ret (de_tup (da_cons (de_var 3) (da_cons (de_var 5) (da_cons (de_var 2) da_nil)))))) dss_nil))))
      (dss_one (ds_ret de_non)))
abbrev s_row_in : Stmt := topS 19
theorem sc_row_in : FnScope ["text", "found", "word"] ["text"] (defScope s_row_in) := ⟨rfl, rfl, rfl, by decide +kernel, rfl, by decide +kernel, by decide +kernel⟩
theorem d_row_in {f : Addr} {cdv : Value} {A : Around} {outer : List Env} {s : Shared} {H : Hp} {E : XK} {k : Nat} (hq : RoomG (k + 1) (A.deeper (envOfC "row_in" (defScope s_row_in) s.heap.objs.size f cdv))) (B : Bn mg) {t_BARE_TEXT : Tok} (K_BARE_TEXT : mg "BARE_TEXT" = some (.str "." t_BARE_TEXT)) (C_hook_in : Cal P w K mg base "hook_in" k ["word"] (spD K 1 Ph_hook_in)) (Z_BadText : RaiseC P w K mg base "BadText" "text" k) :
    DSXs (cxOf (L2.CX P w) P w K mg base ["text", "found", "word"] "row_in" (defScope s_row_in) f cdv A outer s H E) (fun cls d _ H => E cls d H) (defBody s_row_in) w_row_in := by
  have nd : (["text", "found", "word"] : List Str).Nodup := sc_row_in.nd
  have hr := hq.monoG (Nat.le_succ _)
  exact (dsxs_cons (dsx_of (ds_if (dt_cmp (op_eqS hr.toRoom.units) eq_ok (de_var 0) (de_globS K_BARE_TEXT) (nomark _)) (dss_one (ds_ret (de_lst da_nil))) dss_nil))
      (dsxs_cons (dsx_of (ds_setLc (own := [("word", 2)]) true 1 rfl nd (sw_true rfl rfl rfl (by decide +kernel)) (di_seq (de_bm PySem.F.plainAttrs_str PySem.F.slot_str_split PySem.F.type_str_split mt_split split_ok (de_var 0) (da_cons de_str da_nil))) (blkOk_by (by kernel_rfl)) (fun _ => (dg_name 2 nd)) (fun _ => dts_nil) (fun _ => (de_callC C_hook_in hr rfl (da_cons (de_var 2) da_nil)))))
      (dsxs_cons (dsx_if (dt_cmp (op_inA (room65 hr)) in_ok de_non (de_var 1) (by rfl)) (dsxs_one (dsx_raise rfl (takes_of rfl rfl rfl rfl) Z_BadText hq.toRoom (de_var 0))) (dsxs_of dss_nil))
      (dsxs_of (dss_one (ds_ret (de_var 1)))))))
abbrev s_law_box : Stmt := topS 21
theorem sc_law_box : FnScope ["_law_script", "_law_k", "_law_cell"] ["_law_script", "_law_k"] (defScope s_law_box) := ⟨rfl, rfl, rfl, by decide +kernel, rfl, by decide +kernel, by decide +kernel⟩
theorem d_law_box {f : Addr} {cdv : Value} {A : Around} {outer : List Env} {s : Shared} {H : Hp} {E : XK} {k : Nat} (hr : RoomG k (A.deeper (envOfC "_law_box" (defScope s_law_box) s.heap.objs.size f cdv))) (B : Bn mg) :
    DSs (cxOf CX0 P w K mg base ["_law_script", "_law_k", "_law_cell"] "_law_box" (defScope s_law_box) f cdv A outer s H E).nox (defBody s_law_box) w_law_box := by
  have nd : (["_law_script", "_law_k", "_law_cell"] : List Str).Nodup := sc_law_box.nd
  exact (dss_cons (ds_set false 2 nd de_int)
      (dss_cons (ds_if (dt_cmp op_ltD ord_ok (de_var 1) (de_lenS B.len_ (de_var 0)) (nomark _)) (dss_one (ds_set false 2 nd (de_scr (de_var 0) (de_var 1) (fun _ _ => rfl)))) dss_nil)
      (dss_one (ds_ret (de_lst (da_cons (de_op op_mulD mul_ok (de_callB call_abs abs_ok B.abs_ (da_cons (de_var 2) da_nil)) (de_callTy call_int1 intC_ok B.int_ (da_cons (de_cmp op_geI ci_ok (de_callB call_abs abs_ok B.abs_ (da_cons (de_var 2) da_nil)) (de_op op_pow pow_ok de_int de_int) (nomark _)) da_nil))) (da_cons (de_op op_addD add_ok (de_op op_addD add_ok (de_op op_mod mod_ok (de_var 2) de_int) (de_op op_mulD mul_ok de_int (de_var 1))) de_int) (da_cons de_int da_nil))))))))
abbrev s_law_take : Stmt := topS 22
theorem sc_law_take : FnScope ["_law_box_here", "_law_bound", "_law_found", "_law_once"] ["_law_box_here", "_law_bound"] (defScope s_law_take) := ⟨rfl, rfl, rfl, by decide +kernel, rfl, by decide +kernel, by decide +kernel⟩
theorem d_law_take {f : Addr} {cdv : Value} {A : Around} {outer : List Env} {s : Shared} {H : Hp} {E : XK} {k : Nat} (hr : RoomG k (A.deeper (envOfC "_law_take" (defScope s_law_take) s.heap.objs.size f cdv))) (B : Bn mg) :
    DSs (cxOf CX0 P w K mg base ["_law_box_here", "_law_bound", "_law_found", "_law_once"] "_law_take" (defScope s_law_take) f cdv A outer s H E).nox (defBody s_law_take) w_law_take := by
  have nd : (["_law_box_here", "_law_bound", "_law_found", "_law_once"] : List Str).Nodup := sc_law_take.nd
  exact (dss_cons (ds_if (dt_cmp op_gtI ci_ok (de_ix ix_seq ix_ok (de_var 0) de_int (fun _ _ => rfl)) de_int (nomark _)) (dss_cons (ds_set false 2 nd (de_op op_mod mod_ok (de_ix ix_seq ix_ok (de_var 0) de_int (fun _ _ => rfl)) (de_var 1)))
      (dss_cons (ds_asg (de_op op_fdiv fdiv_ok (de_ix ix_seq ix_ok (de_var 0) de_int (fun _ _ => rfl)) (de_var 1)) (dg_sub (de_var 0) de_int))
      (dss_one (ds_ret (de_var 2))))) dss_nil)
      (dss_cons (ds_asg (de_op op_addD add_ok (de_ix ix_seq ix_ok (de_var 0) de_int (fun _ _ => rfl)) de_int) (dg_sub (de_var 0) de_int))
      (dss_cons (ds_set false 3 nd (de_op op_mod mod_ok (de_op op_pow pow_ok (de_op op_addD add_ok (de_ix ix_seq ix_ok (de_var 0) de_int (fun _ _ => rfl)) (de_op op_mulD mul_ok de_int (de_ix ix_seq ix_ok (de_var 0) de_int (fun _ _ => rfl)))) de_int) de_int))
      (dss_one (ds_ret (de_op op_mod mod_ok (de_op op_fdiv fdiv_ok (de_op op_mod mod_ok (de_op op_addD add_ok (de_op op_mulD mul_ok (de_var 3) (de_op op_addD add_ok (de_op op_mod mod_ok (de_var 3) de_int) de_int)) (de_op op_mulD mul_ok (de_ix ix_seq ix_ok (de_var 0) de_int (fun _ _ => rfl)) de_int)) de_int) de_int) (de_var 1)))))))
abbrev s_law_pick : Stmt := topS 23
theorem sc_law_pick : FnScope ["_law_box_here", "_law_things"] ["_law_box_here", "_law_things"] (defScope s_law_pick) := ⟨rfl, rfl, rfl, by decide +kernel, rfl, by decide +kernel, by decide +kernel⟩
theorem d_law_pick {f : Addr} {cdv : Value} {A : Around} {outer : List Env} {s : Shared} {H : Hp} {E : XK} {k : Nat} (hr : RoomG k (A.deeper (envOfC "_law_pick" (defScope s_law_pick) s.heap.objs.size f cdv))) (B : Bn mg) (C_law_take : Cal P w K mg base "_law_take" k ["_law_box_here", "_law_bound"] (spL K 2 Ph_law_take)) :
    DSs (cxOf CX0 P w K mg base ["_law_box_here", "_law_things"] "_law_pick" (defScope s_law_pick) f cdv A outer s H E).nox (defBody s_law_pick) w_law_pick := by
  have nd : (["_law_box_here", "_law_things"] : List Str).Nodup := sc_law_pick.nd
  exact (dss_one (ds_ret (de_ix ix_seq ix_ok (de_var 1) (de_callC_L C_law_take hr rfl (da_cons (de_var 0) (da_cons (de_callB call_len len_ok B.len_ (da_cons (de_var 1) da_nil)) da_nil))) (fun _ _ => rfl))))
abbrev s_law_same : Stmt := topS 24
theorem sc_law_same : FnScope ["_law_found", "_law_due", "_law_one", "_law_two"] ["_law_found", "_law_due"] (defScope s_law_same) := ⟨rfl, rfl, rfl, by decide +kernel, rfl, by decide +kernel, by decide +kernel⟩
theorem d_law_same {f : Addr} {cdv : Value} {A : Around} {outer : List Env} {s : Shared} {H : Hp} {E : XK} {k : Nat} (hr : RoomG k (A.deeper (envOfC "_law_same" (defScope s_law_same) s.heap.objs.size f cdv))) (B : Bn mg) {Ph_law_same : List R → (R → Prop) → Prop} (C_law_same : Cal P w K mg base "_law_same" k ["_law_found", "_law_due"] (spD K 2 Ph_law_same)) :
    DSs (cxOf CX0 P w K mg base ["_law_found", "_law_due", "_law_one", "_law_two"] "_law_same" (defScope s_law_same) f cdv A outer s H E).nox (defBody s_law_same) (w_law_same Ph_law_same) := by
  have nd : (["_law_found", "_law_due", "_law_one", "_law_two"] : List Str).Nodup := sc_law_same.nd
  exact (dss_cons (ds_if (dt_tru (de_isi2 .list .tuple B.isinstance_ B.list_ B.tuple_ (de_var 1))) (dss_cons (ds_if (dw_pt (dw_or (dt_cmp (op_neS hr.toRoom.units) ne_ok (de_isi .list B.isinstance_ B.list_ (de_var 0)) (de_isi .list B.isinstance_ B.list_ (de_var 1)) (nomark _)) (dw_or1 (dt_cmp (op_neS hr.toRoom.units) ne_ok (de_isi .tuple B.isinstance_ B.tuple_ (de_var 0)) (de_isi .tuple B.isinstance_ B.tuple_ (de_var 1)) (nomark _))))) (dss_one (ds_ret de_bl)) dss_nil)
      (dss_one (ds_ret (de_and (de_cmp (op_eqS hr.toRoom.units) eq_ok (de_callB call_len len_ok B.len_ (da_cons (de_var 0) da_nil)) (de_callB call_len len_ok B.len_ (da_cons (de_var 1) da_nil)) (nomark _)) (de_one (de_callB (cr_all rfl) allC_ok B.all_ (da_cons (de_lc (own := [("_law_one", 2), ("_law_two", 3)]) rfl nd (di_zip B.zip_ (da_cons (de_var 0) (da_cons (de_var 1) da_nil))) (blkOk_by (by kernel_rfl)) (fun _ => (dg_tup rfl (dgs_cons (dg_name 2 nd) (dgs_cons (dg_name 3 nd) dgs_nil)))) (fun _ => dts_nil) (fun _ => (de_callC C_law_same hr rfl (da_cons (de_var 2) (da_cons (de_var 3) da_nil))))) da_nil))))))) dss_nil)
      (dss_cons (ds_if (dw_pt (dw_or (dt_cmp op_isND isN_ok (de_var 1) de_non (nomark _)) (dw_or1 (dt_tru (de_isi .str B.isinstance_ B.str_ (de_var 1)))))) (dss_one (ds_ret (de_and (de_cmp (op_eqS hr.toRoom.units) eq_ok (de_var 0) (de_var 1) (nomark _)) (de_one (de_cmp (op_eqS hr.toRoom.units) eq_ok (de_isi .str B.isinstance_ B.str_ (de_var 0)) (de_isi .str B.isinstance_ B.str_ (de_var 1)) (nomark _)))))) dss_nil)
      (dss_one (ds_ret (de_and (de_isi .int B.isinstance_ B.int_ (de_var 0)) (de_and (de_cmp (op_eqS hr.toRoom.units) eq_ok (de_isi .bool B.isinstance_ B.bool_ (de_var 0)) (de_isi .bool B.isinstance_ B.bool_ (de_var 1)) (nomark _)) (de_one (de_cmp (op_eqS hr.toRoom.units) eq_ok (de_var 0) (de_var 1) (nomark _)))))))))
abbrev s_law_names : Stmt := topS 25
theorem sc_law_names : FnScope ["_law_box_here", "_law_many", "_law_letters", "_law_found", "_law_k", "_law_name", "_law_j", "_law_one", "_law_sign"] ["_law_box_here", "_law_many"] (defScope s_law_names) := ⟨rfl, rfl, rfl, by decide +kernel, rfl, by decide +kernel, by decide +kernel⟩
theorem d_law_names {f : Addr} {cdv : Value} {A : Around} {outer : List Env} {s : Shared} {H : Hp} {E : XK} {k : Nat} (hr : RoomG k (A.deeper (envOfC "_law_names" (defScope s_law_names) s.heap.objs.size f cdv))) (B : Bn mg) (C_law_take : Cal P w K mg base "_law_take" k ["_law_box_here", "_law_bound"] (spL K 2 Ph_law_take)) :
    DSs (cxOf CX0 P w K mg base ["_law_box_here", "_law_many", "_law_letters", "_law_found", "_law_k", "_law_name", "_law_j", "_law_one", "_law_sign"] "_law_names" (defScope s_law_names) f cdv A outer s H E).nox (defBody s_law_names) w_law_names := by
  have nd : (["_law_box_here", "_law_many", "_law_letters", "_law_found", "_law_k", "_law_name", "_law_j", "_law_one", "_law_sign"] : List Str).Nodup := sc_law_names.nd
  exact (dss_cons (ds_tt 2 3 rfl nd (da_consM false de_str (da_consM true (de_lst da_nil) da_nil)))
      (dss_cons (ds_for PassesOwn.never rfl (di_range1 B.range_ (da_cons (de_var 1) da_nil)) (dg_name 4 nd) (dss_cons (ds_set false 5 nd (de_bm PySem.F.plainAttrs_str PySem.F.slot_str_join PySem.F.type_str_join mt_join joinC_ok de_str (da_cons (de_lc (own := [("_law_j", 6)]) rfl nd (di_range1 B.range_ (da_cons (de_ix ix_seq ix_ok (de_lst (da_cons de_int (da_cons de_int (da_cons de_int (da_cons de_int da_nil))))) (de_callC_L C_law_take hr rfl (da_cons (de_var 0) (da_cons de_int da_nil))) (fun _ _ => rfl)) da_nil)) (blkOk_by (by kernel_rfl)) (fun _ => (dg_name 6 nd)) (fun _ => dts_nil) (fun _ => (de_ix ix_seq ix_ok (de_var 2) (de_callC_L C_law_take hr rfl (da_cons (de_var 0) (da_cons de_int da_nil))) (fun _ _ => rfl)))) da_nil)))
      (dss_one (ds_expr (de_append (de_var 3) (de_ix ix_seq ix_ok (de_lc (own := [("_law_one", 7)]) rfl nd (di_seq (de_op op_addD add_ok (de_lst (da_cons (de_var 5) da_nil)) (de_lc (own := [("_law_sign", 8)]) rfl nd (di_seq (de_var 2)) (blkOk_by (by kernel_rfl)) (fun _ => (dg_name 8 nd)) (fun _ => dts_nil) (fun _ => (de_op op_addD add_ok (de_sl (de_var 5) do_none (do_some de_int)) (de_var 8)))))) (blkOk_by (by kernel_rfl)) (fun _ => (dg_name 7 nd)) (fun _ => (dts_one (dt_cmp (op_notInA (room65 hr)) in_ok (de_var 7) (de_var 3) (by rfl)))) (fun _ => (de_var 7))) de_int (fun _ _ => rfl)))))))
      (dss_one (ds_ret (de_callB (cr_sortD (room80 hr)) sortC_ok B.sorted_ (da_cons (de_var 3) da_nil))))))
abbrev s_law_hook : Stmt := topS 26
theorem sc_law_hook : FnScope ["_law_box_here", "_law_names_here", "_law_one", "_law_other"] ["_law_box_here", "_law_names_here"] (defScope s_law_hook) := ⟨rfl, rfl, rfl, by decide +kernel, rfl, by decide +kernel, by decide +kernel⟩
theorem d_law_hook {f : Addr} {cdv : Value} {A : Around} {outer : List Env} {s : Shared} {H : Hp} {E : XK} {k : Nat} (hr : RoomG k (A.deeper (envOfC "_law_hook" (defScope s_law_hook) s.heap.objs.size f cdv))) (B : Bn mg) (C_law_take : Cal P w K mg base "_law_take" k ["_law_box_here", "_law_bound"] (spL K 2 Ph_law_take)) :
    DSs (cxOf CX0 P w K mg base ["_law_box_here", "_law_names_here", "_law_one", "_law_other"] "_law_hook" (defScope s_law_hook) f cdv A outer s H E).nox (defBody s_law_hook) w_law_hook := by
  have nd : (["_law_box_here", "_law_names_here", "_law_one", "_law_other"] : List Str).Nodup := sc_law_hook.nd
  exact (dss_cons (ds_par 2 3 rfl nd (da_consM false (de_callC_L C_law_take hr rfl (da_cons (de_var 0) (da_cons (de_callB call_len len_ok B.len_ (da_cons (de_var 1) da_nil)) da_nil))) (da_consM false (de_callC_L C_law_take hr rfl (da_cons (de_var 0) (da_cons (de_op op_sub sub_ok (de_callB call_len len_ok B.len_ (da_cons (de_var 1) da_nil)) de_int) da_nil))) da_nil)))
      (dss_cons (ds_set false 3 nd (de_op op_addD add_ok (de_var 3) (de_callTy call_int1 intC_ok B.int_ (da_cons (de_cmp op_geI ci_ok (de_var 3) (de_var 2) (nomark _)) da_nil))))
      (dss_one (ds_ret (de_tup (da_cons (de_ix ix_seq ix_ok (de_var 1) (de_callB (cr_min2 rfl) min2_ok B.min_ (da_cons (de_var 2) (da_cons (de_var 3) da_nil))) (fun _ _ => rfl)) (da_cons (de_ix ix_seq ix_ok (de_var 1) (de_callB (cr_max2 rfl) max2_ok B.max_ (da_cons (de_var 2) (da_cons (de_var 3) da_nil))) (fun _ _ => rfl)) (da_cons (de_op op_sub sub_ok de_int (de_op op_mulD mul_ok de_int (de_callC_L C_law_take hr rfl (da_cons (de_var 0) (da_cons de_int da_nil))))) da_nil))))))))
abbrev s_law_back : Stmt := topS 27
theorem sc_law_back : FnScope ["_law_strung", "_law_one", "_law_other", "_law_sense"] ["_law_strung"] (defScope s_law_back) := ⟨rfl, rfl, rfl, by decide +kernel, rfl, by decide +kernel, by decide +kernel⟩
theorem d_law_back {f : Addr} {cdv : Value} {A : Around} {outer : List Env} {s : Shared} {H : Hp} {E : XK} {k : Nat} (hr : RoomG k (A.deeper (envOfC "_law_back" (defScope s_law_back) s.heap.objs.size f cdv))) (B : Bn mg) :
    DSs (cxOf CX0 P w K mg base ["_law_strung", "_law_one", "_law_other", "_law_sense"] "_law_back" (defScope s_law_back) f cdv A outer s H E).nox (defBody s_law_back) w_law_back := by
  have nd : (["_law_strung", "_law_one", "_law_other", "_law_sense"] : List Str).Nodup := sc_law_back.nd
  exact (dss_one (ds_ret (de_lc (own := [("_law_one", 1), ("_law_other", 2), ("_law_sense", 3)]) rfl nd (di_seq (de_revS (de_var 0))) (blkOk_by (by kernel_rfl)) (fun _ => (dg_tup rfl (dgs_cons (dg_name 1 nd) (dgs_cons (dg_name 2 nd) (dgs_cons (dg_name 3 nd) dgs_nil))))) (fun _ => dts_nil) (fun _ => (de_tup (da_cons (de_var 1) (da_cons (de_var 2) (da_cons (de_un un_neg neg_ok (de_var 3)) da_nil))))))))
abbrev s_law_knot : Stmt := topS 28
theorem sc_law_knot : FnScope ["_law_names_here", "_law_found", "_law_one", "_law_other"] ["_law_names_here"] (defScope s_law_knot) := ⟨rfl, rfl, rfl, by decide +kernel, rfl, by decide +kernel, by decide +kernel⟩
theorem d_law_knot {f : Addr} {cdv : Value} {A : Around} {outer : List Env} {s : Shared} {H : Hp} {E : XK} {k : Nat} (hr : RoomG k (A.deeper (envOfC "_law_knot" (defScope s_law_knot) s.heap.objs.size f cdv))) (B : Bn mg) (C_law_back : Cal P w K mg base "_law_back" k ["_law_strung"] (spD K 1 Ph_law_back)) :
    DSs (cxOf CX0 P w K mg base ["_law_names_here", "_law_found", "_law_one", "_law_other"] "_law_knot" (defScope s_law_knot) f cdv A outer s H E).nox (defBody s_law_knot) w_law_knot := by
  have nd : (["_law_names_here", "_law_found", "_law_one", "_law_other"] : List Str).Nodup := sc_law_knot.nd
  exact (dss_cons (ds_set false 1 nd (de_lst (da_cons (de_tup (da_cons (de_ix ix_seq ix_ok (de_var 0) de_int (fun _ _ => rfl)) (da_cons (de_ix ix_seq ix_ok (de_var 0) de_int (fun _ _ => rfl)) (da_cons de_int da_nil)))) da_nil)))
      (dss_cons (ds_for PassesOwn.never rfl (di_zip B.zip_ (da_cons (de_sl (de_var 0) (do_some de_int) do_none) (da_cons (de_sl (de_var 0) (do_some de_int) do_none) da_nil))) (dg_tup rfl (dgs_cons (dg_name 2 nd) (dgs_cons (dg_name 3 nd) dgs_nil))) (dss_one (ds_set false 1 nd (de_op op_addD add_ok (de_op op_addD add_ok (de_op op_addD add_ok (de_var 1) (de_lst (da_cons (de_tup (da_cons (de_var 2) (da_cons (de_var 3) (da_cons de_int da_nil)))) da_nil))) (de_callC C_law_back hr rfl (da_cons (de_var 1) da_nil))) (de_lst (da_cons (de_tup (da_cons (de_var 2) (da_cons (de_var 3) (da_cons (de_un un_neg neg_ok de_int) da_nil)))) da_nil))))))
      (dss_one (ds_ret (de_var 1)))))
abbrev s_law_some : Stmt := topS 29
theorem sc_law_some : FnScope ["_law_box_here", "_law_names_here", "_law_few", "_law_others", "_law_found", "_law_turn"] ["_law_box_here", "_law_names_here", "_law_few"] (defScope s_law_some) := ⟨rfl, rfl, rfl, by decide +kernel, rfl, by decide +kernel, by decide +kernel⟩
theorem d_law_some {f : Addr} {cdv : Value} {A : Around} {outer : List Env} {s : Shared} {H : Hp} {E : XK} {k : Nat} (hr : RoomG k (A.deeper (envOfC "_law_some" (defScope s_law_some) s.heap.objs.size f cdv))) (B : Bn mg) (C_law_take : Cal P w K mg base "_law_take" k ["_law_box_here", "_law_bound"] (spL K 2 Ph_law_take)) :
    DSs (cxOf CX0 P w K mg base ["_law_box_here", "_law_names_here", "_law_few", "_law_others", "_law_found", "_law_turn"] "_law_some" (defScope s_law_some) f cdv A outer s H E).nox (defBody s_law_some) w_law_some := by
  have nd : (["_law_box_here", "_law_names_here", "_law_few", "_law_others", "_law_found", "_law_turn"] : List Str).Nodup := sc_law_some.nd
  exact (dss_cons (ds_par 3 4 rfl nd (da_consM true (de_callTy call_list_of listC_ok B.list_ (da_cons (de_var 1) da_nil)) (da_consM true (de_lst da_nil) da_nil)))
      (dss_cons (ds_for PassesOwn.never rfl (di_range1 B.range_ (da_cons (de_op op_addD add_ok (de_var 2) (de_callC_L C_law_take hr rfl (da_cons (de_var 0) (da_cons (de_op op_addD add_ok (de_op op_sub sub_ok (de_callB call_len len_ok B.len_ (da_cons (de_var 1) da_nil)) (de_var 2)) de_int) da_nil)))) da_nil)) (dg_name 5 nd) (dss_one (ds_expr (de_append (de_var 4) (de_pop1 (de_var 3) (de_callC_L C_law_take hr rfl (da_cons (de_var 0) (da_cons (de_callB call_len len_ok B.len_ (da_cons (de_var 3) da_nil)) da_nil))))))))
      (dss_one (ds_ret (de_callB (cr_sortD (room80 hr)) sortC_ok B.sorted_ (da_cons (de_var 4) da_nil))))))
abbrev s_law_piece : Stmt := topS 30
theorem sc_law_piece : FnScope ["_law_box_here", "_law_names_here", "_law_way", "_law_one", "_law_other"] ["_law_box_here", "_law_names_here"] (defScope s_law_piece) := ⟨rfl, rfl, rfl, by decide +kernel, rfl, by decide +kernel, by decide +kernel⟩
theorem d_law_piece {f : Addr} {cdv : Value} {A : Around} {outer : List Env} {s : Shared} {H : Hp} {E : XK} {k : Nat} (hr : RoomG k (A.deeper (envOfC "_law_piece" (defScope s_law_piece) s.heap.objs.size f cdv))) (B : Bn mg) (C_law_hook : Cal P w K mg base "_law_hook" k ["_law_box_here", "_law_names_here"] (spL K 2 Ph_law_hook)) (C_law_take : Cal P w K mg base "_law_take" k ["_law_box_here", "_law_bound"] (spL K 2 Ph_law_take)) (C_law_back : Cal P w K mg base "_law_back" k ["_law_strung"] (spD K 1 Ph_law_back)) (C_law_some : Cal P w K mg base "_law_some" k ["_law_box_here", "_law_names_here", "_law_few"] (spL K 3 Ph_law_some)) (C_law_knot : Cal P w K mg base "_law_knot" k ["_law_names_here"] (spD K 1 Ph_law_knot)) :
    DSs (cxOf CX0 P w K mg base ["_law_box_here", "_law_names_here", "_law_way", "_law_one", "_law_other"] "_law_piece" (defScope s_law_piece) f cdv A outer s H E).nox (defBody s_law_piece) w_law_piece := by
  have nd : (["_law_box_here", "_law_names_here", "_law_way", "_law_one", "_law_other"] : List Str).Nodup := sc_law_piece.nd
  exact (dss_cons (ds_par3 2 3 4 rfl nd (da_consM false (de_callC_L C_law_take hr rfl (da_cons (de_var 0) (da_cons de_int da_nil))) (da_consM false (de_callC_L C_law_hook hr rfl (da_cons (de_var 0) (da_cons (de_var 1) da_nil))) (da_consM false (de_callC_L C_law_hook hr rfl (da_cons (de_var 0) (da_cons (de_var 1) da_nil))) da_nil))))
      (dss_cons (ds_if (dt_cmp op_ltD ord_ok (de_var 2) de_int (nomark _)) (dss_one (ds_ret (de_lst (da_cons (de_var 3) da_nil)))) dss_nil)
      (dss_cons (ds_if (dt_cmp (op_eqS hr.toRoom.units) eq_ok (de_var 2) de_int (nomark _)) (dss_one (ds_ret (de_op op_mulD mul_ok (de_lst (da_cons (de_var 3) da_nil)) (de_op op_addD add_ok de_int (de_callC_L C_law_take hr rfl (da_cons (de_var 0) (da_cons de_int da_nil))))))) dss_nil)
      (dss_cons (ds_if (dt_cmp op_ltD ord_ok (de_var 2) de_int (nomark _)) (dss_one (ds_ret (de_op op_addD add_ok (de_lst (da_cons (de_var 3) (da_cons (de_var 4) da_nil))) (de_callC C_law_back hr rfl (da_cons (de_lst (da_cons (de_var 4) (da_cons (de_var 3) da_nil))) da_nil))))) dss_nil)
      (dss_cons (ds_if (dt_cmp (op_eqS hr.toRoom.units) eq_ok (de_var 2) de_int (nomark _)) (dss_one (ds_ret (de_callC C_law_knot hr rfl (da_cons (de_callC_L C_law_some hr rfl (da_cons (de_var 0) (da_cons (de_sl (de_var 1) do_none (do_some de_int)) (da_cons de_int da_nil)))) da_nil)))) dss_nil)
      (dss_one (ds_ret (de_ifx (dt_cmp (op_eqS hr.toRoom.units) eq_ok (de_var 2) de_int (nomark _)) (de_op op_addD add_ok (de_lst (da_cons (de_var 3) (da_cons (de_var 4) da_nil))) (de_callC C_law_back hr rfl (da_cons (de_lst (da_cons (de_var 3) da_nil)) da_nil))) (de_op op_addD add_ok (de_lst (da_cons (de_var 3) da_nil)) (de_callC C_law_back hr rfl (da_cons (de_lst (da_cons (de_var 3) da_nil)) da_nil)))))))))))
abbrev s_law_row : Stmt := topS 31
theorem sc_law_row : FnScope ["_law_box_here", "_law_names_here", "_law_room", "_law_found", "_law_turn", "_law_piece_here", "_law_at"] ["_law_box_here", "_law_names_here", "_law_room"] (defScope s_law_row) := ⟨rfl, rfl, rfl, by decide +kernel, rfl, by decide +kernel, by decide +kernel⟩
theorem d_law_row {f : Addr} {cdv : Value} {A : Around} {outer : List Env} {s : Shared} {H : Hp} {E : XK} {k : Nat} (hr : RoomG k (A.deeper (envOfC "_law_row" (defScope s_law_row) s.heap.objs.size f cdv))) (B : Bn mg) (C_law_take : Cal P w K mg base "_law_take" k ["_law_box_here", "_law_bound"] (spL K 2 Ph_law_take)) (C_law_piece : Cal P w K mg base "_law_piece" k ["_law_box_here", "_law_names_here"] (spL K 2 Ph_law_piece)) (C_law_back : Cal P w K mg base "_law_back" k ["_law_strung"] (spD K 1 Ph_law_back)) :
    DSs (cxOf CX0 P w K mg base ["_law_box_here", "_law_names_here", "_law_room", "_law_found", "_law_turn", "_law_piece_here", "_law_at"] "_law_row" (defScope s_law_row) f cdv A outer s H E).nox (defBody s_law_row) w_law_row := by
  have nd : (["_law_box_here", "_law_names_here", "_law_room", "_law_found", "_law_turn", "_law_piece_here", "_law_at"] : List Str).Nodup := sc_law_row.nd
  exact (dss_cons (ds_set false 3 nd (de_lst da_nil))
      (dss_cons (ds_for PassesOwn.never rfl (di_range1 B.range_ (da_cons (de_op op_addD add_ok de_int (de_callC_L C_law_take hr rfl (da_cons (de_var 0) (da_cons de_int da_nil)))) da_nil)) (dg_name 4 nd) (dss_cons (ds_set false 5 nd (de_callC_L C_law_piece hr rfl (da_cons (de_var 0) (da_cons (de_var 1) da_nil))))
      (dss_cons (ds_if (dw_pt (dw_and (dt_cmp (op_neS hr.toRoom.units) ne_ok (de_var 3) (de_lst da_nil) (nomark _)) (dw_and1 (dt_cmp (op_eqS hr.toRoom.units) eq_ok (de_callC_L C_law_take hr rfl (da_cons (de_var 0) (da_cons de_int da_nil))) de_int (nomark _))))) (dss_cons (ds_set false 6 nd (de_callC_L C_law_take hr rfl (da_cons (de_var 0) (da_cons (de_callB call_len len_ok B.len_ (da_cons (de_var 3) da_nil)) da_nil))))
      (dss_one (ds_set false 5 nd (de_callC C_law_back hr rfl (da_cons (de_sl (de_var 3) (do_some (de_var 6)) (do_some (de_op op_addD add_ok (de_op op_addD add_ok (de_var 6) de_int) (de_callC_L C_law_take hr rfl (da_cons (de_var 0) (da_cons de_int da_nil)))))) da_nil))))) dss_nil)
      (dss_one (ds_if (dt_cmp op_leI ci_ok (de_op op_addD add_ok (de_callB call_len len_ok B.len_ (da_cons (de_var 3) da_nil)) (de_callB call_len len_ok B.len_ (da_cons (de_var 5) da_nil))) (de_var 2) (nomark _)) (dss_one (ds_set false 3 nd (de_op op_addD add_ok (de_var 3) (de_var 5)))) dss_nil)))))
      (dss_one (ds_ret (de_var 3)))))
abbrev s_law_text : Stmt := topS 32
theorem sc_law_text : FnScope ["_law_line", "_law_words", "_law_one", "_law_other", "_law_sense"] ["_law_line"] (defScope s_law_text) := ⟨rfl, rfl, rfl, by decide +kernel, rfl, by decide +kernel, by decide +kernel⟩
theorem d_law_text {f : Addr} {cdv : Value} {A : Around} {outer : List Env} {s : Shared} {H : Hp} {E : XK} {k : Nat} (hr : RoomG k (A.deeper (envOfC "_law_text" (defScope s_law_text) s.heap.objs.size f cdv))) (B : Bn mg) :
    DSs (cxOf CX0 P w K mg base ["_law_line", "_law_words", "_law_one", "_law_other", "_law_sense"] "_law_text" (defScope s_law_text) f cdv A outer s H E).nox (defBody s_law_text) w_law_text := by
  have nd : (["_law_line", "_law_words", "_law_one", "_law_other", "_law_sense"] : List Str).Nodup := sc_law_text.nd
  exact (dss_cons (ds_setLc (own := [("_law_one", 2), ("_law_other", 3), ("_law_sense", 4)]) false 1 rfl nd (sw_true rfl rfl rfl (by decide +kernel)) (di_seq (de_var 0)) (blkOk_by (by kernel_rfl)) (fun _ => (dg_tup rfl (dgs_cons (dg_name 2 nd) (dgs_cons (dg_name 3 nd) (dgs_cons (dg_name 4 nd) dgs_nil))))) (fun _ => dts_nil) (fun _ => (de_op op_addD add_ok (de_op op_addD add_ok (de_var 2) (de_ix ix_seq ix_ok (de_lst (da_cons de_str (da_cons de_str (da_cons de_str da_nil)))) (de_var 4) (fun _ _ => rfl))) (de_var 3))))
      (dss_one (ds_ret (de_ifx (dt_cmp (op_neS hr.toRoom.units) ne_ok (de_var 1) (de_lst da_nil) (nomark _)) (de_bm PySem.F.plainAttrs_str PySem.F.slot_str_join PySem.F.type_str_join mt_join joinC_ok de_str (da_cons (de_var 1) da_nil)) de_str))))
abbrev s_law_is_name : Stmt := topS 33
theorem sc_law_is_name : FnScope ["_law_word"] ["_law_word"] (defScope s_law_is_name) := ⟨rfl, rfl, rfl, by decide +kernel, rfl, by decide +kernel, by decide +kernel⟩
theorem d_law_is_name {f : Addr} {cdv : Value} {A : Around} {outer : List Env} {s : Shared} {H : Hp} {E : XK} {k : Nat} (hr : RoomG k (A.deeper (envOfC "_law_is_name" (defScope s_law_is_name) s.heap.objs.size f cdv))) (B : Bn mg) :
    DSs (cxOf CX0 P w K mg base ["_law_word"] "_law_is_name" (defScope s_law_is_name) f cdv A outer s H E).nox (defBody s_law_is_name) w_law_is_name := by
  have nd : (["_law_word"] : List Str).Nodup := sc_law_is_name.nd
  exact (dss_one (ds_ret (de_and (de_chain op_ltD ord_ok op_ltD ord_ok de_int (de_callB call_len len_ok B.len_ (da_cons (de_var 0) da_nil)) de_int) (de_one (de_cmp (op_eqS hr.toRoom.units) eq_ok (de_bm PySem.F.plainAttrs_str PySem.F.slot_str_strip PySem.F.type_str_strip mt_stripL strip_ok (de_var 0) (da_cons de_str da_nil)) de_str (nomark _))))))
abbrev s_law_read : Stmt := topS 34
theorem sc_law_read : FnScope ["_law_spelt", "_law_found", "_law_word", "_law_sign", "_law_sides"] ["_law_spelt"] (defScope s_law_read) := ⟨rfl, rfl, rfl, by decide +kernel, rfl, by decide +kernel, by decide +kernel⟩
theorem d_law_read {f : Addr} {cdv : Value} {A : Around} {outer : List Env} {s : Shared} {H : Hp} {E : XK} {k : Nat} (hr : RoomG k (A.deeper (envOfC "_law_read" (defScope s_law_read) s.heap.objs.size f cdv))) (B : Bn mg) (C_law_is_name : Cal P w K mg base "_law_is_name" k ["_law_word"] (spD K 1 Ph_law_is_name)) :
    DSs (cxOf CX0 P w K mg base ["_law_spelt", "_law_found", "_law_word", "_law_sign", "_law_sides"] "_law_read" (defScope s_law_read) f cdv A outer s H E).nox (defBody s_law_read) w_law_read := by
  have nd : (["_law_spelt", "_law_found", "_law_word", "_law_sign", "_law_sides"] : List Str).Nodup := sc_law_read.nd
  exact (dss_cons (ds_set true 1 nd (de_lst da_nil))
      (dss_cons (ds_for PassesOwn.never rfl (di_seq (de_ifx (dt_cmp (op_neS hr.toRoom.units) ne_ok (de_var 0) de_str (nomark _)) (de_bm PySem.F.plainAttrs_str PySem.F.slot_str_split PySem.F.type_str_split mt_split split_ok (de_var 0) (da_cons de_str da_nil)) (de_lst da_nil))) (dg_name 2 nd) (dss_cons (ds_set false 3 nd (de_ifx (dt_cmp (op_inA (room65 hr)) in_ok de_str (de_var 2) (by rfl)) de_str de_str))
      (dss_cons (ds_set false 4 nd (de_bm PySem.F.plainAttrs_str PySem.F.slot_str_split PySem.F.type_str_split mt_split split_ok (de_var 2) (da_cons (de_var 3) da_nil)))
      (dss_cons (ds_if (dw_pt (dw_or (dt_cmp (op_neS hr.toRoom.units) ne_ok (de_callB call_len len_ok B.len_ (da_cons (de_var 4) da_nil)) de_int (nomark _)) (dw_or (dt_not (dt_tru (de_callC C_law_is_name hr rfl (da_cons (de_ix ix_seq ix_ok (de_var 4) de_int (fun _ _ => rfl)) da_nil)))) (dw_or (dt_not (dt_tru (de_callC C_law_is_name hr rfl (da_cons (de_ix ix_seq ix_ok (de_var 4) de_int (fun _ _ => rfl)) da_nil)))) (dw_or1 (dt_cmp op_ge_str geS_ok (de_ix ix_seq ix_ok (de_var 4) de_int (fun _ _ => rfl)) (de_ix ix_seq ix_ok (de_var 4) de_int (fun _ _ => rfl)) (nomark _))))))) (dss_one (ds_ret de_non)) dss_nil)
      (dss_one (ds_expr (de_append (de_var 1) (de_tup (da_cons (de_ix ix_seq ix_ok (de_var 4) de_int (fun _ _ => rfl)) (da_cons (de_ix ix_seq ix_ok (de_var 4) de_int (fun _ _ => rfl)) (da_cons (de_ifx (dt_cmp (op_eqS hr.toRoom.units) eq_ok (de_var 3) de_str (nomark _)) de_int (de_un un_neg neg_ok de_int)) da_nil)))))))))))
      (dss_one (ds_ret (de_var 1)))))
abbrev s_law_told : Stmt := topS 35
theorem sc_law_told : FnScope ["_law_spelt", "_law_found", "_law_caught", "error"] ["_law_spelt"] (defScope s_law_told) := ⟨rfl, rfl, rfl, by decide +kernel, rfl, by decide +kernel, by decide +kernel⟩
theorem d_law_told {f : Addr} {cdv : Value} {A : Around} {outer : List Env} {s : Shared} {H : Hp} {E : XK} {k : Nat} (hr : RoomG k (A.deeper (envOfC "_law_told" (defScope s_law_told) s.heap.objs.size f cdv))) (B : Bn mg) (X_row_in : CalX P w K mg base "row_in" k ["text"] (spX K 1 Ph_row_in)) {c_BadRow c_BadText : Addr} (T : XT K mg c_BadRow c_BadText) :
    DSs (cxOf CX0 P w K mg base ["_law_spelt", "_law_found", "_law_caught", "error"] "_law_told" (defScope s_law_told) f cdv A outer s H E).nox (defBody s_law_told) w_law_told := by
  have nd : (["_law_spelt", "_law_found", "_law_caught", "error"] : List Str).Nodup := sc_law_told.nd
  exact (dss_cons (ds_tt 1 2 rfl nd (da_consM true de_non (da_consM false de_non da_nil)))
      (dss_cons (ds_tryX (Φ := Ph_row_in) (m := true) (i := 1) (j := 2) (n := 3) T.tab1 X_row_in hr rfl nd (fun _ => (da_cons (de_var 0) da_nil)) (ht := (.cons (⟨_, rfl, by rfl, by decide⟩) (.cons (⟨_, rfl, by rfl, by decide⟩) .nil))) (hst := fun e es => st_names e es))
      (dss_cons (ds_if (dt_isNX (de_var 2)) (dss_one (ds_ret (de_var 1))) dss_nil)
      (dss_one (ds_ret (de_ifx (dw_pt (dw_and (dt_tru (de_isXC (l := [("BadText", true)]) B.isinstance_ T.m_BadText T.kf2 (de_var 2))) (dw_and1 (dt_tru (de_isXB (l := [("BadText", true)]) B.isinstance_ B.ValueError_ T.kb3 (de_var 2)))))) (de_tup (da_cons (de_fldX (cns := ["BadText"]) T.fl4 (de_var 2)) da_nil)) de_str))))))
abbrev s_law_bent : Stmt := topS 36
theorem sc_law_bent : FnScope ["_law_box_here", "_law_spelt", "_law_signs", "_law_way", "_law_at", "_law_sign", "_law_ahead", "_law_after_it", "_law_words", "_law_spot", "_law_some_here"] ["_law_box_here", "_law_spelt"] (defScope s_law_bent) := ⟨rfl, rfl, rfl, by decide +kernel, rfl, by decide +kernel, by decide +kernel⟩
theorem d_law_bent {f : Addr} {cdv : Value} {A : Around} {outer : List Env} {s : Shared} {H : Hp} {E : XK} {k : Nat} (hr : RoomG k (A.deeper (envOfC "_law_bent" (defScope s_law_bent) s.heap.objs.size f cdv))) (B : Bn mg) (C_law_take : Cal P w K mg base "_law_take" k ["_law_box_here", "_law_bound"] (spL K 2 Ph_law_take)) (C_law_pick : Cal P w K mg base "_law_pick" k ["_law_box_here", "_law_things"] (spL K 2 Ph_law_pick)) :
    DSs (cxOf CX0 P w K mg base ["_law_box_here", "_law_spelt", "_law_signs", "_law_way", "_law_at", "_law_sign", "_law_ahead", "_law_after_it", "_law_words", "_law_spot", "_law_some_here"] "_law_bent" (defScope s_law_bent) f cdv A outer s H E).nox (defBody s_law_bent) w_law_bent := by
  have nd : (["_law_box_here", "_law_spelt", "_law_signs", "_law_way", "_law_at", "_law_sign", "_law_ahead", "_law_after_it", "_law_words", "_law_spot", "_law_some_here"] : List Str).Nodup := sc_law_bent.nd
  exact (dss_cons (ds_par 2 3 rfl nd (da_consM false de_str (da_consM false (de_callC_L C_law_take hr rfl (da_cons (de_var 0) (da_cons de_int da_nil))) da_nil)))
      (dss_cons (ds_par 4 5 rfl nd (da_consM false (de_callC_L C_law_take hr rfl (da_cons (de_var 0) (da_cons (de_op op_addD add_ok (de_callB call_len len_ok B.len_ (da_cons (de_var 1) da_nil)) de_int) da_nil))) (da_consM false (de_callC_L C_law_pick hr rfl (da_cons (de_var 0) (da_cons (de_var 2) da_nil))) da_nil)))
      (dss_cons (ds_set false 4 nd (de_ifx (dt_cmp (op_eqS hr.toRoom.units) eq_ok (de_callC_L C_law_take hr rfl (da_cons (de_var 0) (da_cons de_int da_nil))) de_int (nomark _)) (de_callB call_len len_ok B.len_ (da_cons (de_var 1) da_nil)) (de_var 4)))
      (dss_cons (ds_par3 6 7 8 rfl nd (da_consM false (de_sl (de_var 1) do_none (do_some (de_var 4))) (da_consM false (de_sl (de_var 1) (do_some (de_var 4)) do_none) (da_consM true (de_bm PySem.F.plainAttrs_str PySem.F.slot_str_split PySem.F.type_str_split mt_split split_ok (de_var 1) (da_cons de_str da_nil)) da_nil))))
      (dss_cons (ds_set false 9 nd (de_callC_L C_law_take hr rfl (da_cons (de_var 0) (da_cons (de_callB call_len len_ok B.len_ (da_cons (de_var 8) da_nil)) da_nil))))
      (dss_cons (ds_set false 10 nd (de_lst (da_cons (de_op op_addD add_ok (de_op op_addD add_ok (de_var 6) (de_var 5)) (de_var 7)) (da_cons (de_op op_addD add_ok (de_var 6) (de_sl (de_var 7) (do_some de_int) do_none)) (da_cons (de_op op_addD add_ok (de_op op_addD add_ok (de_var 6) (de_var 5)) (de_sl (de_var 7) (do_some de_int) do_none)) (da_cons (de_op op_addD add_ok (de_op op_addD add_ok (de_var 6) (de_sl (de_var 7) do_none (do_some de_int))) (de_var 7)) da_nil))))))
      (dss_cons (ds_set false 10 nd (de_op op_addD add_ok (de_var 10) (de_lst (da_cons (de_op op_addD add_ok (de_op op_addD add_ok (de_var 6) (de_revZ (de_sl (de_var 7) do_none (do_some de_int)))) (de_sl (de_var 7) (do_some de_int) do_none)) (da_cons (de_bm PySem.F.plainAttrs_str PySem.F.slot_str_join PySem.F.type_str_join mt_join joinC_ok de_str (da_cons (de_op op_addD add_ok (de_sl (de_var 8) do_none (do_some (de_var 9))) (de_sl (de_var 8) (do_some (de_op op_addD add_ok (de_var 9) de_int)) do_none)) da_nil)) da_nil)))))
      (dss_cons (ds_set false 10 nd (de_op op_addD add_ok (de_var 10) (de_lst (da_cons (de_bm PySem.F.plainAttrs_str PySem.F.slot_str_join PySem.F.type_str_join mt_join joinC_ok de_str (da_cons (de_op op_addD add_ok (de_sl (de_var 8) do_none (do_some (de_op op_addD add_ok (de_var 9) de_int))) (de_sl (de_var 8) (do_some (de_var 9)) do_none)) da_nil)) (da_cons (de_op op_addD add_ok (de_op op_addD add_ok (de_var 6) de_str) (de_sl (de_var 7) (do_some de_int) do_none)) da_nil)))))
      (dss_cons (ds_asg (de_revS (de_sl (de_var 8) (do_some (de_var 9)) (do_some (de_op op_addD add_ok (de_var 9) de_int)))) (dg_sl (de_var 8) (do_some (de_var 9)) (do_some (de_op op_addD add_ok (de_var 9) de_int))))
      (dss_one (ds_ret (de_ix ix_seq ix_ok (de_op op_addD add_ok (de_var 10) (de_lst (da_cons (de_bm PySem.F.plainAttrs_str PySem.F.slot_str_join PySem.F.type_str_join mt_join joinC_ok de_str (da_cons (de_var 8) da_nil)) da_nil))) (de_var 3) (fun _ _ => rfl)))))))))))))
abbrev s_law_right : Stmt := topS 37
theorem sc_law_right : FnScope ["_law_box_here", "_law_line", "_law_spelt", "_law_turn", "_law_bent_here", "_law_step", "_law_due", "_law_odd", "_law_one"] ["_law_box_here"] (defScope s_law_right) := ⟨rfl, rfl, rfl, by decide +kernel, rfl, by decide +kernel, by decide +kernel⟩
theorem d_law_right {f : Addr} {cdv : Value} {A : Around} {outer : List Env} {s : Shared} {H : Hp} {E : XK} {k : Nat} (hr : RoomG k (A.deeper (envOfC "_law_right" (defScope s_law_right) s.heap.objs.size f cdv))) (B : Bn mg) (C_law_take : Cal P w K mg base "_law_take" k ["_law_box_here", "_law_bound"] (spL K 2 Ph_law_take)) (C_law_names : Cal P w K mg base "_law_names" k ["_law_box_here", "_law_many"] (spL K 2 Ph_law_names)) (C_law_row : Cal P w K mg base "_law_row" k ["_law_box_here", "_law_names_here", "_law_room"] (spL K 3 Ph_law_row)) (C_law_text : Cal P w K mg base "_law_text" k ["_law_line"] (spD K 1 Ph_law_text)) (C_row_text : Cal P w K mg base "row_text" k ["row"] (spD K 1 Ph_row_text)) (C_law_same : Cal P w K mg base "_law_same" k ["_law_found", "_law_due"] (spD K 2 Ph_law_same)) (C_law_bent : Cal P w K mg base "_law_bent" k ["_law_box_here", "_law_spelt"] (spL K 2 Ph_law_bent)) (C_law_read : Cal P w K mg base "_law_read" k ["_law_spelt"] (spD K 1 Ph_law_read)) (C_law_told : Cal P w K mg base "_law_told" k ["_law_spelt"] (spD K 1 Ph_law_told)) (C_row_in : Cal P w K mg base "row_in" k ["text"] (spD K 1 (calmP Ph_row_in))) (K_row_in_0_text : CalK P w K mg base "row_in" k ["text"] 0 ["text"] [0] (spD K 1 (calmP Ph_row_in))) (K_row_text_0_row : CalK P w K mg base "row_text" k ["row"] 0 ["row"] [0] (spD K 1 Ph_row_text)) :
    DSs (cxOf CX0 P w K mg base ["_law_box_here", "_law_line", "_law_spelt", "_law_turn", "_law_bent_here", "_law_step", "_law_due", "_law_odd", "_law_one"] "_law_right" (defScope s_law_right) f cdv A outer s H E).nox (defBody s_law_right) w_law_right := by
  have nd : (["_law_box_here", "_law_line", "_law_spelt", "_law_turn", "_law_bent_here", "_law_step", "_law_due", "_law_odd", "_law_one"] : List Str).Nodup := sc_law_right.nd
  exact (dss_cons (ds_set false 1 nd (de_callC_L C_law_row hr rfl (da_cons (de_var 0) (da_cons (de_callC_L C_law_names hr rfl (da_cons (de_var 0) (da_cons (de_op op_addD add_ok de_int (de_callC_L C_law_take hr rfl (da_cons (de_var 0) (da_cons de_int da_nil)))) da_nil))) (da_cons de_int da_nil)))))
      (dss_cons (ds_set false 2 nd (de_callC C_law_text hr rfl (da_cons (de_var 1) da_nil)))
      (dss_cons (ds_if (dt_not (dt_tru (de_callC C_law_same hr rfl (da_cons (de_lst (da_cons (de_callC C_row_text hr rfl (da_cons (de_var 1) da_nil)) (da_cons (de_callK0 K_row_text_0_row hr rfl (dk_cons (de_callTy call_tuple_of tupC_ok B.tuple_ (da_cons (de_var 1) da_nil)) dk_nil) (fun xs hx => match xs, hx with | [_], _ => rfl)) (da_cons (de_callK0 K_row_in_0_text hr rfl (dk_cons (de_var 2) dk_nil) (fun xs hx => match xs, hx with | [_], _ => rfl)) da_nil)))) (da_cons (de_lst (da_cons (de_var 2) (da_cons (de_var 2) (da_cons (de_var 1) da_nil)))) da_nil))))) (dss_one (ds_ret de_bl)) dss_nil)
      (dss_cons (ds_for PassesOwn.never rfl (di_range1 B.range_ (da_cons de_int da_nil)) (dg_name 3 nd) (dss_cons (ds_set false 4 nd (de_var 2))
      (dss_cons (ds_for PassesOwn.never rfl (di_range1 B.range_ (da_cons (de_op op_addD add_ok de_int (de_callC_L C_law_take hr rfl (da_cons (de_var 0) (da_cons de_int da_nil)))) da_nil)) (dg_name 5 nd) (dss_one (ds_set false 4 nd (de_callC_L C_law_bent hr rfl (da_cons (de_var 0) (da_cons (de_var 4) da_nil))))))
      (dss_cons (ds_set false 6 nd (de_callC C_law_read hr rfl (da_cons (de_var 4) da_nil)))
      (dss_one (ds_if (dt_not (dt_tru (de_callC C_law_same hr rfl (da_cons (de_lst (da_cons (de_callC C_law_told hr rfl (da_cons (de_var 4) da_nil)) (da_cons (de_callC C_law_told hr rfl (da_cons (de_var 4) da_nil)) da_nil))) (da_cons (de_op op_mulD mul_ok (de_lst (da_cons (de_ifx (dt_cmp op_isND isN_ok (de_var 6) de_non (nomark _)) (de_tup (da_cons (de_var 4) da_nil)) (de_var 6)) da_nil)) de_int) da_nil))))) (dss_one (ds_ret de_bl)) dss_nil))))))
      (dss_cons (ds_set false 7 nd (de_lst (da_cons de_str (da_cons de_str (da_cons de_str (da_cons de_str (da_cons de_str (da_cons de_str (da_cons de_str (da_cons de_str (da_cons de_str (da_cons de_str (da_cons de_str (da_cons de_str (da_cons de_str da_nil)))))))))))))))
      (dss_cons (ds_if (dt_not (dt_tru (de_callC C_law_same hr rfl (da_cons (de_lst (da_cons (de_callC C_row_text hr rfl (da_cons (de_lst da_nil) da_nil)) (da_cons (de_callC C_row_text hr rfl (da_cons (de_tup da_nil) da_nil)) (da_cons (de_callC C_row_in hr rfl (da_cons de_str da_nil)) da_nil)))) (da_cons (de_lst (da_cons de_str (da_cons de_str (da_cons (de_lst da_nil) da_nil)))) da_nil))))) (dss_one (ds_ret de_bl)) dss_nil)
      (dss_one (ds_ret (de_callB (cr_all rfl) allC_ok B.all_ (da_cons (de_lc (own := [("_law_one", 8)]) rfl nd (di_seq (de_var 7)) (blkOk_by (by kernel_rfl)) (fun _ => (dg_name 8 nd)) (fun _ => dts_nil) (fun _ => (de_cmp (op_eqS hr.toRoom.units) eq_ok (de_callC C_law_told hr rfl (da_cons (de_var 8) da_nil)) (de_tup (da_cons (de_var 8) da_nil)) (nomark _)))) da_nil))))))))))
abbrev s_law : Stmt := topS 38
theorem sc_law : FnScope ["_law_script", "_law_k", "_law_box_here", "_law_turn"] ["_law_script"] (defScope s_law) := ⟨rfl, rfl, rfl, by decide +kernel, rfl, by decide +kernel, by decide +kernel⟩
theorem d_law {f : Addr} {cdv : Value} {A : Around} {outer : List Env} {s : Shared} {H : Hp} {E : XK} {k : Nat} (hr : RoomG k (A.deeper (envOfC "law" (defScope s_law) s.heap.objs.size f cdv))) (B : Bn mg) (C_law_box : Cal P w K mg base "_law_box" k ["_law_script", "_law_k"] (spD K 2 Ph_law_box)) (C_law_right : Cal P w K mg base "_law_right" k ["_law_box_here"] (spL K 1 Ph_law_right)) :
    DSs (cxOf CX0 P w K mg base ["_law_script", "_law_k", "_law_box_here", "_law_turn"] "law" (defScope s_law) f cdv A outer s H E).nox (defBody s_law) w_law := by
  have nd : (["_law_script", "_law_k", "_law_box_here", "_law_turn"] : List Str).Nodup := sc_law.nd
  exact (dss_cons (ds_for PassesOwn.never rfl (di_range1 B.range_ (da_cons (de_op op_addD add_ok de_int (de_callB (cr_min2 rfl) min2_ok B.min_ (da_cons de_int (da_cons (de_lenS B.len_ (de_var 0)) da_nil)))) da_nil)) (dg_name 1 nd) (dss_cons (ds_set true 2 nd (de_callC C_law_box hr rfl (da_cons (de_var 0) (da_cons (de_var 1) da_nil))))
      (dss_one (ds_if (dt_not (dt_tru (de_callB (cr_all rfl) allC_ok B.all_ (da_cons (de_lc (own := [("_law_turn", 3)]) rfl nd (di_range1 B.range_ (da_cons de_int da_nil)) (blkOk_by (by kernel_rfl)) (fun _ => (dg_name 3 nd)) (fun _ => dts_nil) (fun _ => (de_callC_L C_law_right hr rfl (da_cons (de_var 2) da_nil)))) da_nil)))) (dss_one (ds_ret de_bl)) dss_nil))))
      (dss_one (ds_ret de_bl)))
theorem ok_is_rope {f : Addr} {fd : FuncData} {k : Nat} (F : Fun K "is_rope" "is_rope" s_is_rope f fd) (B : Bn mg) {t_MOST_LETTERS : Tok} (K_MOST_LETTERS : mg "MOST_LETTERS" = some (.int (6) t_MOST_LETTERS)) {t_SMALL_LETTERS : Tok} (K_SMALL_LETTERS : mg "SMALL_LETTERS" = some (.str "abcdefghijklmnopqrstuvwxyz" t_SMALL_LETTERS)) : FnG P w K mg base CX0 (k + 1) f fd ["thing"] (spD K 1 Ph_is_rope) :=
  dfn F sc_is_rope fun cdv A outer s H E hr => ⟨_, d_is_rope hr B K_MOST_LETTERS K_SMALL_LETTERS, r_is_rope⟩
theorem ok_is_number {f : Addr} {fd : FuncData} {k : Nat} (F : Fun K "is_number" "is_number" s_is_number f fd) (B : Bn mg) : FnG P w K mg base CX0 (k + 1) f fd ["thing"] (spD K 1 Ph_is_number) :=
  dfn F sc_is_number fun cdv A outer s H E hr => ⟨_, d_is_number hr B, r_is_number⟩
theorem ok_is_sense {f : Addr} {fd : FuncData} {k : Nat} (F : Fun K "is_sense" "is_sense" s_is_sense f fd) (B : Bn mg) (C_is_number : Cal P w K mg base "is_number" k ["thing"] (spD K 1 Ph_is_number)) : FnG P w K mg base CX0 (k + 1) f fd ["thing"] (spD K 1 Ph_is_sense) :=
  dfn F sc_is_sense fun cdv A outer s H E hr => ⟨_, d_is_sense hr B C_is_number, r_is_sense⟩
theorem ok_is_hook {f : Addr} {fd : FuncData} {k : Nat} (F : Fun K "is_hook" "is_hook" s_is_hook f fd) (B : Bn mg) {t_HOOK_PARTS : Tok} (K_HOOK_PARTS : mg "HOOK_PARTS" = some (.int (3) t_HOOK_PARTS)) (C_is_sense : Cal P w K mg base "is_sense" k ["thing"] (spD K 1 Ph_is_sense)) (C_is_rope : Cal P w K mg base "is_rope" k ["thing"] (spD K 1 Ph_is_rope)) : FnG P w K mg base CX0 (k + 1) f fd ["thing"] (spD K 1 Ph_is_hook) :=
  dfn F sc_is_hook fun cdv A outer s H E hr => ⟨_, d_is_hook hr B K_HOOK_PARTS C_is_sense C_is_rope, r_is_hook⟩
theorem ok_hook_text {f : Addr} {fd : FuncData} {k : Nat} (F : Fun K "hook_text" "hook_text" s_hook_text f fd) (B : Bn mg) {t_RIGHT_SIGN : Tok} (K_RIGHT_SIGN : mg "RIGHT_SIGN" = some (.str "-" t_RIGHT_SIGN)) {t_LEFT_SIGN : Tok} (K_LEFT_SIGN : mg "LEFT_SIGN" = some (.str "~" t_LEFT_SIGN)) : FnG P w K mg base CX0 (k + 1) f fd ["hook"] (spD K 1 Ph_hook_text) :=
  dfn F sc_hook_text fun cdv A outer s H E hr => ⟨_, d_hook_text hr B K_RIGHT_SIGN K_LEFT_SIGN, r_hook_text⟩
theorem ok_row_text {f : Addr} {fd : FuncData} {k : Nat} (F : Fun K "row_text" "row_text" s_row_text f fd) (B : Bn mg) {t_BARE_TEXT : Tok} (K_BARE_TEXT : mg "BARE_TEXT" = some (.str "." t_BARE_TEXT)) (C_hook_text : Cal P w K mg base "hook_text" k ["hook"] (spD K 1 Ph_hook_text)) : FnG P w K mg base CX0 (k + 1) f fd ["row"] (spD K 1 Ph_row_text) :=
  dfn F sc_row_text fun cdv A outer s H E hr => ⟨_, d_row_text hr B K_BARE_TEXT C_hook_text, r_row_text⟩
theorem ok_hook_in {f : Addr} {fd : FuncData} {k : Nat} (F : Fun K "hook_in" "hook_in" s_hook_in f fd) (B : Bn mg) (K_SENSES : Tab K mg "SENSES" [[.str "-", .int (1)], [.str "~", .int (-1)]]) (C_is_hook : Cal P w K mg base "is_hook" k ["thing"] (spD K 1 Ph_is_hook)) : FnG P w K mg base CX0 (k + 1) f fd ["word"] (spD K 1 Ph_hook_in) :=
  dfn F sc_hook_in fun cdv A outer s H E hr => ⟨_, d_hook_in hr B K_SENSES C_is_hook, r_hook_in⟩
theorem ok_row_in {f : Addr} {fd : FuncData} {k : Nat} (F : Fun K "row_in" "row_in" s_row_in f fd) (B : Bn mg) {t_BARE_TEXT : Tok} (K_BARE_TEXT : mg "BARE_TEXT" = some (.str "." t_BARE_TEXT)) (C_hook_in : Cal P w K mg base "hook_in" k ["word"] (spD K 1 Ph_hook_in)) (Z_BadText : RaiseC P w K mg base "BadText" "text" k) : FnG P w K mg base (L2.CX P w) (k + 2) f fd ["text"] (spX K 1 Ph_row_in) :=
  dfnX F sc_row_in fun cdv A outer s H E hq => ⟨_, d_row_in hq B K_BARE_TEXT C_hook_in Z_BadText, r_row_in⟩
theorem ok_law_box {f : Addr} {fd : FuncData} {k : Nat} (F : Fun K "_law_box" "_law_box" s_law_box f fd) (B : Bn mg) : FnG P w K mg base CX0 (k + 1) f fd ["_law_script", "_law_k"] (spD K 2 Ph_law_box) :=
  dfn F sc_law_box fun cdv A outer s H E hr => ⟨_, d_law_box hr B, r_law_box⟩
theorem ok_law_take {f : Addr} {fd : FuncData} {k : Nat} (F : Fun K "_law_take" "_law_take" s_law_take f fd) (B : Bn mg) : FnG P w K mg base CX0 (k + 1) f fd ["_law_box_here", "_law_bound"] (spL K 2 Ph_law_take) :=
  dfnL F sc_law_take rfl fun cdv A outer s H E hr => ⟨_, d_law_take hr B, r_law_take⟩
theorem ok_law_pick {f : Addr} {fd : FuncData} {k : Nat} (F : Fun K "_law_pick" "_law_pick" s_law_pick f fd) (B : Bn mg) (C_law_take : Cal P w K mg base "_law_take" k ["_law_box_here", "_law_bound"] (spL K 2 Ph_law_take)) : FnG P w K mg base CX0 (k + 1) f fd ["_law_box_here", "_law_things"] (spL K 2 Ph_law_pick) :=
  dfnL F sc_law_pick rfl fun cdv A outer s H E hr => ⟨_, d_law_pick hr B C_law_take, r_law_pick⟩
theorem no_law_same {vs : List V} {H : Hp} {Q : VK} {E : XK} (h : spD K 2 (Ph_law_sameN 0) vs H Q E) : False := by
  obtain ⟨_, G, rs, P, _, _, h, _⟩ := h
  exact n_law_same h
theorem ok_law_same {f : Addr} {fd : FuncData} {k : Nat} (F : Fun K "_law_same" "_law_same" s_law_same f fd) (B : Bn mg) (hm : mg "_law_same" = some (.ref f)) (hk : PySem.W.keepIn K (.ref f) = true) (hb : Binds K fd ["_law_found", "_law_due"] []) : ∀ n : Nat, FnG P w K mg base CX0 (k + n) f fd ["_law_found", "_law_due"] (spD K 2 (Ph_law_sameN n))
  | 0 => ⟨fun vs H Q E h => h.1, fun A outer s H as us vs Q E hr he hb hv hs => (no_law_same hs).elim⟩
  | n + 1 => dfn F sc_law_same fun cdv A outer s H E hr => ⟨_, d_law_same hr B ⟨_, _, ok_law_same F B hm hk hb n, hm, hk, hb⟩, r_law_same n⟩
theorem ok_law_names {f : Addr} {fd : FuncData} {k : Nat} (F : Fun K "_law_names" "_law_names" s_law_names f fd) (B : Bn mg) (C_law_take : Cal P w K mg base "_law_take" k ["_law_box_here", "_law_bound"] (spL K 2 Ph_law_take)) : FnG P w K mg base CX0 (k + 1) f fd ["_law_box_here", "_law_many"] (spL K 2 Ph_law_names) :=
  dfnL F sc_law_names rfl fun cdv A outer s H E hr => ⟨_, d_law_names hr B C_law_take, r_law_names⟩
theorem ok_law_hook {f : Addr} {fd : FuncData} {k : Nat} (F : Fun K "_law_hook" "_law_hook" s_law_hook f fd) (B : Bn mg) (C_law_take : Cal P w K mg base "_law_take" k ["_law_box_here", "_law_bound"] (spL K 2 Ph_law_take)) : FnG P w K mg base CX0 (k + 1) f fd ["_law_box_here", "_law_names_here"] (spL K 2 Ph_law_hook) :=
  dfnL F sc_law_hook rfl fun cdv A outer s H E hr => ⟨_, d_law_hook hr B C_law_take, r_law_hook⟩
theorem ok_law_back {f : Addr} {fd : FuncData} {k : Nat} (F : Fun K "_law_back" "_law_back" s_law_back f fd) (B : Bn mg) : FnG P w K mg base CX0 (k + 1) f fd ["_law_strung"] (spD K 1 Ph_law_back) :=
  dfn F sc_law_back fun cdv A outer s H E hr => ⟨_, d_law_back hr B, r_law_back⟩
theorem ok_law_knot {f : Addr} {fd : FuncData} {k : Nat} (F : Fun K "_law_knot" "_law_knot" s_law_knot f fd) (B : Bn mg) (C_law_back : Cal P w K mg base "_law_back" k ["_law_strung"] (spD K 1 Ph_law_back)) : FnG P w K mg base CX0 (k + 1) f fd ["_law_names_here"] (spD K 1 Ph_law_knot) :=
  dfn F sc_law_knot fun cdv A outer s H E hr => ⟨_, d_law_knot hr B C_law_back, r_law_knot⟩
theorem ok_law_some {f : Addr} {fd : FuncData} {k : Nat} (F : Fun K "_law_some" "_law_some" s_law_some f fd) (B : Bn mg) (C_law_take : Cal P w K mg base "_law_take" k ["_law_box_here", "_law_bound"] (spL K 2 Ph_law_take)) : FnG P w K mg base CX0 (k + 1) f fd ["_law_box_here", "_law_names_here", "_law_few"] (spL K 3 Ph_law_some) :=
  dfnL F sc_law_some rfl fun cdv A outer s H E hr => ⟨_, d_law_some hr B C_law_take, r_law_some⟩
theorem ok_law_piece {f : Addr} {fd : FuncData} {k : Nat} (F : Fun K "_law_piece" "_law_piece" s_law_piece f fd) (B : Bn mg) (C_law_hook : Cal P w K mg base "_law_hook" k ["_law_box_here", "_law_names_here"] (spL K 2 Ph_law_hook)) (C_law_take : Cal P w K mg base "_law_take" k ["_law_box_here", "_law_bound"] (spL K 2 Ph_law_take)) (C_law_back : Cal P w K mg base "_law_back" k ["_law_strung"] (spD K 1 Ph_law_back)) (C_law_some : Cal P w K mg base "_law_some" k ["_law_box_here", "_law_names_here", "_law_few"] (spL K 3 Ph_law_some)) (C_law_knot : Cal P w K mg base "_law_knot" k ["_law_names_here"] (spD K 1 Ph_law_knot)) : FnG P w K mg base CX0 (k + 1) f fd ["_law_box_here", "_law_names_here"] (spL K 2 Ph_law_piece) :=
  dfnL F sc_law_piece rfl fun cdv A outer s H E hr => ⟨_, d_law_piece hr B C_law_hook C_law_take C_law_back C_law_some C_law_knot, r_law_piece⟩
theorem ok_law_row {f : Addr} {fd : FuncData} {k : Nat} (F : Fun K "_law_row" "_law_row" s_law_row f fd) (B : Bn mg) (C_law_take : Cal P w K mg base "_law_take" k ["_law_box_here", "_law_bound"] (spL K 2 Ph_law_take)) (C_law_piece : Cal P w K mg base "_law_piece" k ["_law_box_here", "_law_names_here"] (spL K 2 Ph_law_piece)) (C_law_back : Cal P w K mg base "_law_back" k ["_law_strung"] (spD K 1 Ph_law_back)) : FnG P w K mg base CX0 (k + 1) f fd ["_law_box_here", "_law_names_here", "_law_room"] (spL K 3 Ph_law_row) :=
  dfnL F sc_law_row rfl fun cdv A outer s H E hr => ⟨_, d_law_row hr B C_law_take C_law_piece C_law_back, r_law_row⟩
theorem ok_law_text {f : Addr} {fd : FuncData} {k : Nat} (F : Fun K "_law_text" "_law_text" s_law_text f fd) (B : Bn mg) : FnG P w K mg base CX0 (k + 1) f fd ["_law_line"] (spD K 1 Ph_law_text) :=
  dfn F sc_law_text fun cdv A outer s H E hr => ⟨_, d_law_text hr B, r_law_text⟩
theorem ok_law_is_name {f : Addr} {fd : FuncData} {k : Nat} (F : Fun K "_law_is_name" "_law_is_name" s_law_is_name f fd) (B : Bn mg) : FnG P w K mg base CX0 (k + 1) f fd ["_law_word"] (spD K 1 Ph_law_is_name) :=
  dfn F sc_law_is_name fun cdv A outer s H E hr => ⟨_, d_law_is_name hr B, r_law_is_name⟩
theorem ok_law_read {f : Addr} {fd : FuncData} {k : Nat} (F : Fun K "_law_read" "_law_read" s_law_read f fd) (B : Bn mg) (C_law_is_name : Cal P w K mg base "_law_is_name" k ["_law_word"] (spD K 1 Ph_law_is_name)) : FnG P w K mg base CX0 (k + 1) f fd ["_law_spelt"] (spD K 1 Ph_law_read) :=
  dfn F sc_law_read fun cdv A outer s H E hr => ⟨_, d_law_read hr B C_law_is_name, r_law_read⟩
theorem ok_law_told {f : Addr} {fd : FuncData} {k : Nat} (F : Fun K "_law_told" "_law_told" s_law_told f fd) (B : Bn mg) (X_row_in : CalX P w K mg base "row_in" k ["text"] (spX K 1 Ph_row_in)) {c_BadRow c_BadText : Addr} (T : XT K mg c_BadRow c_BadText) : FnG P w K mg base CX0 (k + 1) f fd ["_law_spelt"] (spD K 1 Ph_law_told) :=
  dfn F sc_law_told fun cdv A outer s H E hr => ⟨_, d_law_told hr B X_row_in T, r_law_told⟩
theorem ok_law_bent {f : Addr} {fd : FuncData} {k : Nat} (F : Fun K "_law_bent" "_law_bent" s_law_bent f fd) (B : Bn mg) (C_law_take : Cal P w K mg base "_law_take" k ["_law_box_here", "_law_bound"] (spL K 2 Ph_law_take)) (C_law_pick : Cal P w K mg base "_law_pick" k ["_law_box_here", "_law_things"] (spL K 2 Ph_law_pick)) : FnG P w K mg base CX0 (k + 1) f fd ["_law_box_here", "_law_spelt"] (spL K 2 Ph_law_bent) :=
  dfnL F sc_law_bent rfl fun cdv A outer s H E hr => ⟨_, d_law_bent hr B C_law_take C_law_pick, r_law_bent⟩
theorem ok_law_right {f : Addr} {fd : FuncData} {k : Nat} (F : Fun K "_law_right" "_law_right" s_law_right f fd) (B : Bn mg) (C_law_take : Cal P w K mg base "_law_take" k ["_law_box_here", "_law_bound"] (spL K 2 Ph_law_take)) (C_law_names : Cal P w K mg base "_law_names" k ["_law_box_here", "_law_many"] (spL K 2 Ph_law_names)) (C_law_row : Cal P w K mg base "_law_row" k ["_law_box_here", "_law_names_here", "_law_room"] (spL K 3 Ph_law_row)) (C_law_text : Cal P w K mg base "_law_text" k ["_law_line"] (spD K 1 Ph_law_text)) (C_row_text : Cal P w K mg base "row_text" k ["row"] (spD K 1 Ph_row_text)) (C_law_same : Cal P w K mg base "_law_same" k ["_law_found", "_law_due"] (spD K 2 Ph_law_same)) (C_law_bent : Cal P w K mg base "_law_bent" k ["_law_box_here", "_law_spelt"] (spL K 2 Ph_law_bent)) (C_law_read : Cal P w K mg base "_law_read" k ["_law_spelt"] (spD K 1 Ph_law_read)) (C_law_told : Cal P w K mg base "_law_told" k ["_law_spelt"] (spD K 1 Ph_law_told)) (C_row_in : Cal P w K mg base "row_in" k ["text"] (spD K 1 (calmP Ph_row_in))) (K_row_in_0_text : CalK P w K mg base "row_in" k ["text"] 0 ["text"] [0] (spD K 1 (calmP Ph_row_in))) (K_row_text_0_row : CalK P w K mg base "row_text" k ["row"] 0 ["row"] [0] (spD K 1 Ph_row_text)) : FnG P w K mg base CX0 (k + 1) f fd ["_law_box_here"] (spL K 1 Ph_law_right) :=
  dfnL F sc_law_right rfl fun cdv A outer s H E hr => ⟨_, d_law_right hr B C_law_take C_law_names C_law_row C_law_text C_row_text C_law_same C_law_bent C_law_read C_law_told C_row_in K_row_in_0_text K_row_text_0_row, r_law_right⟩
theorem ok_law {f : Addr} {fd : FuncData} {k : Nat} (F : Fun K "law" "law" s_law f fd) (B : Bn mg) (C_law_box : Cal P w K mg base "_law_box" k ["_law_script", "_law_k"] (spD K 2 Ph_law_box)) (C_law_right : Cal P w K mg base "_law_right" k ["_law_box_here"] (spL K 1 Ph_law_right)) : FnG P w K mg base CX0 (k + 1) f fd ["_law_script"] (spD K 1 Ph_law) :=
  dfn F sc_law fun cdv A outer s H E hr => ⟨_, d_law hr B C_law_box C_law_right, r_law⟩
end
theorem all_mk {l : PySem.W.OpenLaw} {w : World} {K : PySem.W.Frag} {h : Heap} {mg : Str → Option Value} {fa f1 f2 f3 f4 f5 f6 f7 f8 f9 f10 f11 f12 f13 f14 f15 f16 f17 f18 f19 f20 f21 f22 f23 f24 f25 f26 : Addr} (X : K.In h) (G : h.Ns mainGlobals mg) (hfa : mg "law" = some (.ref fa))
    {od1 an1 od2 an2 od3 an3 od4 an4 od5 an5 od6 an6 od7 an7 od8 an8 od9 an9 od10 an10 od11 an11 od12 an12 od13 an13 od14 an14 od15 an15 od16 an16 od17 an17 od18 an18 od19 an19 od20 an20 od21 an21 od22 an22 od23 an23 od24 an24 od25 an25 od26 an26 : Option Addr} {sl1 sl2 sl3 sl4 sl5 sl6 sl7 sl8 sl9 sl10 sl11 sl12 sl13 sl14 sl15 sl16 sl17 sl18 sl19 sl20 sl21 sl22 sl23 sl24 sl25 sl26 : Array (Option Value)} {oc1 kV1 dc1 pm1 cd1 ct1 oc2 kV2 dc2 pm2 cd2 ct2 oc3 kV3 dc3 pm3 cd3 ct3 oc4 kV4 dc4 pm4 cd4 ct4 oc5 kV5 dc5 pm5 cd5 ct5 oc6 kV6 dc6 pm6 cd6 ct6 oc7 kV7 dc7 pm7 cd7 ct7 oc8 kV8 dc8 pm8 cd8 ct8 oc9 kV9 dc9 pm9 cd9 ct9 oc10 kV10 dc10 pm10 cd10 ct10 oc11 kV11 dc11 pm11 cd11 ct11 oc12 kV12 dc12 pm12 cd12 ct12 oc13 kV13 dc13 pm13 cd13 ct13 oc14 kV14 dc14 pm14 cd14 ct14 oc15 kV15 dc15 pm15 cd15 ct15 oc16 kV16 dc16 pm16 cd16 ct16 oc17 kV17 dc17 pm17 cd17 ct17 oc18 kV18 dc18 pm18 cd18 ct18 oc19 kV19 dc19 pm19 cd19 ct19 oc20 kV20 dc20 pm20 cd20 ct20 oc21 kV21 dc21 pm21 cd21 ct21 oc22 kV22 dc22 pm22 cd22 ct22 oc23 kV23 dc23 pm23 cd23 ct23 oc24 kV24 dc24 pm24 cd24 ct24 oc25 kV25 dc25 pm25 cd25 ct25 oc26 kV26 dc26 pm26 cd26 ct26 : Value}
    (a1 : PySem.W.nsIn K mainGlobals "is_rope" = some (some (.ref f1))) (l1 : K.lookup f1 = some ⟨oc1, od1, .func (PySem.W.fnOf "is_rope" "is_rope" (defArgs s_is_rope) (defBody s_is_rope) (defScope s_is_rope) .none kV1 dc1 pm1 an1 cd1 ct1), sl1⟩) (c1 : PySem.W.codeIn K cd1 "is_rope" = true) (k1 : PySem.W.keepIn K (.ref f1) = true)
    (a2 : PySem.W.nsIn K mainGlobals "is_number" = some (some (.ref f2))) (l2 : K.lookup f2 = some ⟨oc2, od2, .func (PySem.W.fnOf "is_number" "is_number" (defArgs s_is_number) (defBody s_is_number) (defScope s_is_number) .none kV2 dc2 pm2 an2 cd2 ct2), sl2⟩) (c2 : PySem.W.codeIn K cd2 "is_number" = true) (k2 : PySem.W.keepIn K (.ref f2) = true)
    (a3 : PySem.W.nsIn K mainGlobals "is_sense" = some (some (.ref f3))) (l3 : K.lookup f3 = some ⟨oc3, od3, .func (PySem.W.fnOf "is_sense" "is_sense" (defArgs s_is_sense) (defBody s_is_sense) (defScope s_is_sense) .none kV3 dc3 pm3 an3 cd3 ct3), sl3⟩) (c3 : PySem.W.codeIn K cd3 "is_sense" = true) (k3 : PySem.W.keepIn K (.ref f3) = true)
    (a4 : PySem.W.nsIn K mainGlobals "is_hook" = some (some (.ref f4))) (l4 : K.lookup f4 = some ⟨oc4, od4, .func (PySem.W.fnOf "is_hook" "is_hook" (defArgs s_is_hook) (defBody s_is_hook) (defScope s_is_hook) .none kV4 dc4 pm4 an4 cd4 ct4), sl4⟩) (c4 : PySem.W.codeIn K cd4 "is_hook" = true) (k4 : PySem.W.keepIn K (.ref f4) = true)
    (a5 : PySem.W.nsIn K mainGlobals "hook_text" = some (some (.ref f5))) (l5 : K.lookup f5 = some ⟨oc5, od5, .func (PySem.W.fnOf "hook_text" "hook_text" (defArgs s_hook_text) (defBody s_hook_text) (defScope s_hook_text) .none kV5 dc5 pm5 an5 cd5 ct5), sl5⟩) (c5 : PySem.W.codeIn K cd5 "hook_text" = true) (k5 : PySem.W.keepIn K (.ref f5) = true)
    (a6 : PySem.W.nsIn K mainGlobals "row_text" = some (some (.ref f6))) (l6 : K.lookup f6 = some ⟨oc6, od6, .func (PySem.W.fnOf "row_text" "row_text" (defArgs s_row_text) (defBody s_row_text) (defScope s_row_text) .none kV6 dc6 pm6 an6 cd6 ct6), sl6⟩) (c6 : PySem.W.codeIn K cd6 "row_text" = true) (k6 : PySem.W.keepIn K (.ref f6) = true)
    (a7 : PySem.W.nsIn K mainGlobals "hook_in" = some (some (.ref f7))) (l7 : K.lookup f7 = some ⟨oc7, od7, .func (PySem.W.fnOf "hook_in" "hook_in" (defArgs s_hook_in) (defBody s_hook_in) (defScope s_hook_in) .none kV7 dc7 pm7 an7 cd7 ct7), sl7⟩) (c7 : PySem.W.codeIn K cd7 "hook_in" = true) (k7 : PySem.W.keepIn K (.ref f7) = true)
    (a8 : PySem.W.nsIn K mainGlobals "row_in" = some (some (.ref f8))) (l8 : K.lookup f8 = some ⟨oc8, od8, .func (PySem.W.fnOf "row_in" "row_in" (defArgs s_row_in) (defBody s_row_in) (defScope s_row_in) .none kV8 dc8 pm8 an8 cd8 ct8), sl8⟩) (c8 : PySem.W.codeIn K cd8 "row_in" = true) (k8 : PySem.W.keepIn K (.ref f8) = true)
    (a9 : PySem.W.nsIn K mainGlobals "_law_box" = some (some (.ref f9))) (l9 : K.lookup f9 = some ⟨oc9, od9, .func (PySem.W.fnOf "_law_box" "_law_box" (defArgs s_law_box) (defBody s_law_box) (defScope s_law_box) .none kV9 dc9 pm9 an9 cd9 ct9), sl9⟩) (c9 : PySem.W.codeIn K cd9 "_law_box" = true) (k9 : PySem.W.keepIn K (.ref f9) = true)
    (a10 : PySem.W.nsIn K mainGlobals "_law_take" = some (some (.ref f10))) (l10 : K.lookup f10 = some ⟨oc10, od10, .func (PySem.W.fnOf "_law_take" "_law_take" (defArgs s_law_take) (defBody s_law_take) (defScope s_law_take) .none kV10 dc10 pm10 an10 cd10 ct10), sl10⟩) (c10 : PySem.W.codeIn K cd10 "_law_take" = true) (k10 : PySem.W.keepIn K (.ref f10) = true)
    (a11 : PySem.W.nsIn K mainGlobals "_law_pick" = some (some (.ref f11))) (l11 : K.lookup f11 = some ⟨oc11, od11, .func (PySem.W.fnOf "_law_pick" "_law_pick" (defArgs s_law_pick) (defBody s_law_pick) (defScope s_law_pick) .none kV11 dc11 pm11 an11 cd11 ct11), sl11⟩) (c11 : PySem.W.codeIn K cd11 "_law_pick" = true) (k11 : PySem.W.keepIn K (.ref f11) = true)
    (a12 : PySem.W.nsIn K mainGlobals "_law_same" = some (some (.ref f12))) (l12 : K.lookup f12 = some ⟨oc12, od12, .func (PySem.W.fnOf "_law_same" "_law_same" (defArgs s_law_same) (defBody s_law_same) (defScope s_law_same) .none kV12 dc12 pm12 an12 cd12 ct12), sl12⟩) (c12 : PySem.W.codeIn K cd12 "_law_same" = true) (k12 : PySem.W.keepIn K (.ref f12) = true)
    (a13 : PySem.W.nsIn K mainGlobals "_law_names" = some (some (.ref f13))) (l13 : K.lookup f13 = some ⟨oc13, od13, .func (PySem.W.fnOf "_law_names" "_law_names" (defArgs s_law_names) (defBody s_law_names) (defScope s_law_names) .none kV13 dc13 pm13 an13 cd13 ct13), sl13⟩) (c13 : PySem.W.codeIn K cd13 "_law_names" = true) (k13 : PySem.W.keepIn K (.ref f13) = true)
    (a14 : PySem.W.nsIn K mainGlobals "_law_hook" = some (some (.ref f14))) (l14 : K.lookup f14 = some ⟨oc14, od14, .func (PySem.W.fnOf "_law_hook" "_law_hook" (defArgs s_law_hook) (defBody s_law_hook) (defScope s_law_hook) .none kV14 dc14 pm14 an14 cd14 ct14), sl14⟩) (c14 : PySem.W.codeIn K cd14 "_law_hook" = true) (k14 : PySem.W.keepIn K (.ref f14) = true)
    (a15 : PySem.W.nsIn K mainGlobals "_law_back" = some (some (.ref f15))) (l15 : K.lookup f15 = some ⟨oc15, od15, .func (PySem.W.fnOf "_law_back" "_law_back" (defArgs s_law_back) (defBody s_law_back) (defScope s_law_back) .none kV15 dc15 pm15 an15 cd15 ct15), sl15⟩) (c15 : PySem.W.codeIn K cd15 "_law_back" = true) (k15 : PySem.W.keepIn K (.ref f15) = true)
    (a16 : PySem.W.nsIn K mainGlobals "_law_knot" = some (some (.ref f16))) (l16 : K.lookup f16 = some ⟨oc16, od16, .func (PySem.W.fnOf "_law_knot" "_law_knot" (defArgs s_law_knot) (defBody s_law_knot) (defScope s_law_knot) .none kV16 dc16 pm16 an16 cd16 ct16), sl16⟩) (c16 : PySem.W.codeIn K cd16 "_law_knot" = true) (k16 : PySem.W.keepIn K (.ref f16) = true)
    (a17 : PySem.W.nsIn K mainGlobals "_law_some" = some (some (.ref f17))) (l17 : K.lookup f17 = some ⟨oc17, od17, .func (PySem.W.fnOf "_law_some" "_law_some" (defArgs s_law_some) (defBody s_law_some) (defScope s_law_some) .none kV17 dc17 pm17 an17 cd17 ct17), sl17⟩) (c17 : PySem.W.codeIn K cd17 "_law_some" = true) (k17 : PySem.W.keepIn K (.ref f17) = true)
    (a18 : PySem.W.nsIn K mainGlobals "_law_piece" = some (some (.ref f18))) (l18 : K.lookup f18 = some ⟨oc18, od18, .func (PySem.W.fnOf "_law_piece" "_law_piece" (defArgs s_law_piece) (defBody s_law_piece) (defScope s_law_piece) .none kV18 dc18 pm18 an18 cd18 ct18), sl18⟩) (c18 : PySem.W.codeIn K cd18 "_law_piece" = true) (k18 : PySem.W.keepIn K (.ref f18) = true)
    (a19 : PySem.W.nsIn K mainGlobals "_law_row" = some (some (.ref f19))) (l19 : K.lookup f19 = some ⟨oc19, od19, .func (PySem.W.fnOf "_law_row" "_law_row" (defArgs s_law_row) (defBody s_law_row) (defScope s_law_row) .none kV19 dc19 pm19 an19 cd19 ct19), sl19⟩) (c19 : PySem.W.codeIn K cd19 "_law_row" = true) (k19 : PySem.W.keepIn K (.ref f19) = true)
    (a20 : PySem.W.nsIn K mainGlobals "_law_text" = some (some (.ref f20))) (l20 : K.lookup f20 = some ⟨oc20, od20, .func (PySem.W.fnOf "_law_text" "_law_text" (defArgs s_law_text) (defBody s_law_text) (defScope s_law_text) .none kV20 dc20 pm20 an20 cd20 ct20), sl20⟩) (c20 : PySem.W.codeIn K cd20 "_law_text" = true) (k20 : PySem.W.keepIn K (.ref f20) = true)
    (a21 : PySem.W.nsIn K mainGlobals "_law_is_name" = some (some (.ref f21))) (l21 : K.lookup f21 = some ⟨oc21, od21, .func (PySem.W.fnOf "_law_is_name" "_law_is_name" (defArgs s_law_is_name) (defBody s_law_is_name) (defScope s_law_is_name) .none kV21 dc21 pm21 an21 cd21 ct21), sl21⟩) (c21 : PySem.W.codeIn K cd21 "_law_is_name" = true) (k21 : PySem.W.keepIn K (.ref f21) = true)
    (a22 : PySem.W.nsIn K mainGlobals "_law_read" = some (some (.ref f22))) (l22 : K.lookup f22 = some ⟨oc22, od22, .func (PySem.W.fnOf "_law_read" "_law_read" (defArgs s_law_read) (defBody s_law_read) (defScope s_law_read) .none kV22 dc22 pm22 an22 cd22 ct22), sl22⟩) (c22 : PySem.W.codeIn K cd22 "_law_read" = true) (k22 : PySem.W.keepIn K (.ref f22) = true)
    (a23 : PySem.W.nsIn K mainGlobals "_law_told" = some (some (.ref f23))) (l23 : K.lookup f23 = some ⟨oc23, od23, .func (PySem.W.fnOf "_law_told" "_law_told" (defArgs s_law_told) (defBody s_law_told) (defScope s_law_told) .none kV23 dc23 pm23 an23 cd23 ct23), sl23⟩) (c23 : PySem.W.codeIn K cd23 "_law_told" = true) (k23 : PySem.W.keepIn K (.ref f23) = true)
    (a24 : PySem.W.nsIn K mainGlobals "_law_bent" = some (some (.ref f24))) (l24 : K.lookup f24 = some ⟨oc24, od24, .func (PySem.W.fnOf "_law_bent" "_law_bent" (defArgs s_law_bent) (defBody s_law_bent) (defScope s_law_bent) .none kV24 dc24 pm24 an24 cd24 ct24), sl24⟩) (c24 : PySem.W.codeIn K cd24 "_law_bent" = true) (k24 : PySem.W.keepIn K (.ref f24) = true)
    (a25 : PySem.W.nsIn K mainGlobals "_law_right" = some (some (.ref f25))) (l25 : K.lookup f25 = some ⟨oc25, od25, .func (PySem.W.fnOf "_law_right" "_law_right" (defArgs s_law_right) (defBody s_law_right) (defScope s_law_right) .none kV25 dc25 pm25 an25 cd25 ct25), sl25⟩) (c25 : PySem.W.codeIn K cd25 "_law_right" = true) (k25 : PySem.W.keepIn K (.ref f25) = true)
    (a26 : PySem.W.nsIn K mainGlobals "law" = some (some (.ref f26))) (l26 : K.lookup f26 = some ⟨oc26, od26, .func (PySem.W.fnOf "law" "law" (defArgs s_law) (defBody s_law) (defScope s_law) .none kV26 dc26 pm26 an26 cd26 ct26), sl26⟩) (c26 : PySem.W.codeIn K cd26 "law" = true) (k26 : PySem.W.keepIn K (.ref f26) = true)
    {c_BadRow c_BadText : Addr} (y_hn : PySem.W.specialIn K (.builtin "object.__class__") "__get__" = some (some (.builtin "getset_descriptor.__get__"))) (y_ht : PySem.W.takesIn K (.builtin "object.__class__") = some true)
    (x_BadRow : PySem.W.nsIn K mainGlobals "BadRow" = some (some (.ref c_BadRow))) (be_BadRow : PySem.W.subIn K (.ref c_BadRow) (.type "BaseException") = some true) (ty_BadRow : PySem.W.typeIn K (.ref c_BadRow) = some (.type "type")) (hd_BadRow : PySem.W.hasDictIn K c_BadRow = true)
    (x_BadText : PySem.W.nsIn K mainGlobals "BadText" = some (some (.ref c_BadText))) (be_BadText : PySem.W.subIn K (.ref c_BadText) (.type "BaseException") = some true) (ty_BadText : PySem.W.typeIn K (.ref c_BadText) = some (.type "type")) (hd_BadText : PySem.W.hasDictIn K c_BadText = true)
    (hg_BadText : PySem.W.findIn K (.ref c_BadText) "__getattribute__" = some (some (.builtin "BaseException.__getattribute__"))) (hk_BadText : PySem.W.findIn K (.ref c_BadText) "__getattr__" = some none) (ha_BadText : PySem.W.findIn K (.ref c_BadText) "__class__" = some (some (.builtin "object.__class__"))) (hm_BadText : PySem.W.mroIn K c_BadText (.type "object") = some true)
    (s_BadText_BadRow : PySem.W.subIn K (.ref c_BadText) (.ref c_BadRow) = some false)    (s_BadText_BadText : PySem.W.subIn K (.ref c_BadText) (.ref c_BadText) = some true) (sb_BadText_ValueError : PySem.W.subIn K (.ref c_BadText) (.type "ValueError") = some true)
    (nf_BadText_text : PySem.W.findIn K (.ref c_BadText) "text" = some none)
    {f_BadText N_BadText : Addr} {nm_BadText q_BadText : Str} {bs_BadText sub_BadText : List Value} {sn_BadText : List Str} {ab_BadText : Bool} {col_BadText : Option Bool} {dd_BadText : Option Addr} {m0_BadText m1_BadText m2_BadText m3_BadText m5_BadText : Option Value} {odI_BadText anI_BadText : Option Addr} {slI_BadText : Array (Option Value)} {ocI_BadText kVI_BadText dcI_BadText pmI_BadText cdI_BadText ctI_BadText : Value}
    (xl_BadText : K.lookup c_BadText = some (excClassObj nm_BadText q_BadText c_BadText N_BadText bs_BadText [.type "ValueError", .type "Exception", .type "BaseException", .type "object"] true sn_BadText sub_BadText ab_BadText col_BadText dd_BadText m0_BadText m1_BadText m2_BadText m3_BadText m5_BadText "ValueError.__new__"))
    (sa_BadText : PySem.W.findIn K (.ref c_BadText) "__setattr__" = some (some (.builtin "object.__setattr__"))) (kc_BadText : PySem.W.keepIn K (.ref c_BadText) = true) (ii_BadText : PySem.W.findIn K (.ref c_BadText) "__init__" = some (some (.ref f_BadText))) (ti_BadText : PySem.W.typeIn K (.ref f_BadText) = some (.type "function"))
    (li_BadText : K.lookup f_BadText = some ⟨ocI_BadText, odI_BadText, .func (PySem.W.fnOf "__init__" "BadText.__init__" (defArgs i_BadText) (defBody i_BadText) (defScope i_BadText) .none kVI_BadText dcI_BadText pmI_BadText anI_BadText cdI_BadText ctI_BadText), slI_BadText⟩) (ci_BadText : PySem.W.codeIn K cdI_BadText "BadText.__init__" = true) (ki_BadText : PySem.W.keepIn K (.ref f_BadText) = true)
    (y_vn : PySem.W.nsIn K mainGlobals "ValueError" = some none) (y_vv : PySem.W.findCls K (.type "ValueError") (.type "type") "__init__" = some (.val (.builtin "ValueError.__init__")))
    {t1 : Tok} (y1 : PySem.W.nsIn K mainGlobals "MOST_LETTERS" = some (some (.int (6) t1))) {t2 : Tok} (y2 : PySem.W.nsIn K mainGlobals "SMALL_LETTERS" = some (some (.str "abcdefghijklmnopqrstuvwxyz" t2))) {t3 : Tok} (y3 : PySem.W.nsIn K mainGlobals "HOOK_PARTS" = some (some (.int (3) t3))) {t4 : Tok} (y4 : PySem.W.nsIn K mainGlobals "RIGHT_SIGN" = some (some (.str "-" t4))) {t5 : Tok} (y5 : PySem.W.nsIn K mainGlobals "LEFT_SIGN" = some (some (.str "~" t5))) {t6 : Tok} (y6 : PySem.W.nsIn K mainGlobals "BARE_TEXT" = some (some (.str "." t6))) {a_SENSES b1_SENSES b2_SENSES : Addr} {od_SENSES : Option Addr} {sl_SENSES : Array (Option Value)} {n_SENSES : Nat} (y7 : PySem.W.nsIn K mainGlobals "SENSES" = some (some (.ref a_SENSES))) (yt7 : K.lookup a_SENSES = some ⟨.type "tuple", od_SENSES, .seq #[.ref b1_SENSES, .ref b2_SENSES] n_SENSES, sl_SENSES⟩) {od1_SENSES : Option Addr} {sl1_SENSES : Array (Option Value)} {n1_SENSES : Nat} {t1_1_SENSES t1_2_SENSES : Tok} (yt7_1 : K.lookup b1_SENSES = some ⟨.type "tuple", od1_SENSES, .seq #[.str "-" t1_1_SENSES, .int (1) t1_2_SENSES] n1_SENSES, sl1_SENSES⟩) {od2_SENSES : Option Addr} {sl2_SENSES : Array (Option Value)} {n2_SENSES : Nat} {t2_1_SENSES t2_2_SENSES : Tok} (yt7_2 : K.lookup b2_SENSES = some ⟨.type "tuple", od2_SENSES, .seq #[.str "~" t2_1_SENSES, .int (-1) t2_2_SENSES] n2_SENSES, sl2_SENSES⟩) (z1 : PySem.W.nsIn K mainGlobals "isinstance" = some none) (z2 : PySem.W.nsIn K mainGlobals "str" = some none) (z3 : PySem.W.nsIn K mainGlobals "len" = some none) (z4 : PySem.W.nsIn K mainGlobals "all" = some none) (z5 : PySem.W.nsIn K mainGlobals "int" = some none) (z6 : PySem.W.nsIn K mainGlobals "bool" = some none) (z7 : PySem.W.nsIn K mainGlobals "tuple" = some none) (z8 : PySem.W.nsIn K mainGlobals "abs" = some none) (z9 : PySem.W.nsIn K mainGlobals "list" = some none) (z10 : PySem.W.nsIn K mainGlobals "zip" = some none) (z11 : PySem.W.nsIn K mainGlobals "range" = some none) (z12 : PySem.W.nsIn K mainGlobals "sorted" = some none) (z13 : PySem.W.nsIn K mainGlobals "max" = some none) (z14 : PySem.W.nsIn K mainGlobals "min" = some none) (z15 : PySem.W.nsIn K mainGlobals "ValueError" = some none) :
    ∃ fd : FuncData, (∀ (s : Shared) (v : Value), BindsTo s fd ⟨[v], []⟩ [("_law_script", v)]) ∧ ∀ base : Heap, K.In base → base.Ns mainGlobals mg → FnG l.prog w K mg base CX0 10 fa fd ["_law_script"] (spD K 1 Ph_law) := by
  have e := hfa.symm.trans (PySem.W.mg_of X G a26)
  cases e
  have F1 := fun_mk (st := s_is_rope) l1 c1 k1
  have b1 := F1.binds (ps := ["thing"]) fun _ _ _ _ _ _ us hl => match us, hl with | [_], _ => rfl
  have m1 := PySem.W.mg_of X G a1
  have F2 := fun_mk (st := s_is_number) l2 c2 k2
  have b2 := F2.binds (ps := ["thing"]) fun _ _ _ _ _ _ us hl => match us, hl with | [_], _ => rfl
  have m2 := PySem.W.mg_of X G a2
  have F3 := fun_mk (st := s_is_sense) l3 c3 k3
  have b3 := F3.binds (ps := ["thing"]) fun _ _ _ _ _ _ us hl => match us, hl with | [_], _ => rfl
  have m3 := PySem.W.mg_of X G a3
  have F4 := fun_mk (st := s_is_hook) l4 c4 k4
  have b4 := F4.binds (ps := ["thing"]) fun _ _ _ _ _ _ us hl => match us, hl with | [_], _ => rfl
  have m4 := PySem.W.mg_of X G a4
  have F5 := fun_mk (st := s_hook_text) l5 c5 k5
  have b5 := F5.binds (ps := ["hook"]) fun _ _ _ _ _ _ us hl => match us, hl with | [_], _ => rfl
  have m5 := PySem.W.mg_of X G a5
  have F6 := fun_mk (st := s_row_text) l6 c6 k6
  have b6 := F6.binds (ps := ["row"]) fun _ _ _ _ _ _ us hl => match us, hl with | [_], _ => rfl
  have m6 := PySem.W.mg_of X G a6
  have F7 := fun_mk (st := s_hook_in) l7 c7 k7
  have b7 := F7.binds (ps := ["word"]) fun _ _ _ _ _ _ us hl => match us, hl with | [_], _ => rfl
  have m7 := PySem.W.mg_of X G a7
  have F8 := fun_mk (st := s_row_in) l8 c8 k8
  have b8 := F8.binds (ps := ["text"]) fun _ _ _ _ _ _ us hl => match us, hl with | [_], _ => rfl
  have m8 := PySem.W.mg_of X G a8
  have F9 := fun_mk (st := s_law_box) l9 c9 k9
  have b9 := F9.binds (ps := ["_law_script", "_law_k"]) fun _ _ _ _ _ _ us hl => match us, hl with | [_, _], _ => rfl
  have m9 := PySem.W.mg_of X G a9
  have F10 := fun_mk (st := s_law_take) l10 c10 k10
  have b10 := F10.binds (ps := ["_law_box_here", "_law_bound"]) fun _ _ _ _ _ _ us hl => match us, hl with | [_, _], _ => rfl
  have m10 := PySem.W.mg_of X G a10
  have F11 := fun_mk (st := s_law_pick) l11 c11 k11
  have b11 := F11.binds (ps := ["_law_box_here", "_law_things"]) fun _ _ _ _ _ _ us hl => match us, hl with | [_, _], _ => rfl
  have m11 := PySem.W.mg_of X G a11
  have F12 := fun_mk (st := s_law_same) l12 c12 k12
  have b12 := F12.binds (ps := ["_law_found", "_law_due"]) fun _ _ _ _ _ _ us hl => match us, hl with | [_, _], _ => rfl
  have m12 := PySem.W.mg_of X G a12
  have F13 := fun_mk (st := s_law_names) l13 c13 k13
  have b13 := F13.binds (ps := ["_law_box_here", "_law_many"]) fun _ _ _ _ _ _ us hl => match us, hl with | [_, _], _ => rfl
  have m13 := PySem.W.mg_of X G a13
  have F14 := fun_mk (st := s_law_hook) l14 c14 k14
  have b14 := F14.binds (ps := ["_law_box_here", "_law_names_here"]) fun _ _ _ _ _ _ us hl => match us, hl with | [_, _], _ => rfl
  have m14 := PySem.W.mg_of X G a14
  have F15 := fun_mk (st := s_law_back) l15 c15 k15
  have b15 := F15.binds (ps := ["_law_strung"]) fun _ _ _ _ _ _ us hl => match us, hl with | [_], _ => rfl
  have m15 := PySem.W.mg_of X G a15
  have F16 := fun_mk (st := s_law_knot) l16 c16 k16
  have b16 := F16.binds (ps := ["_law_names_here"]) fun _ _ _ _ _ _ us hl => match us, hl with | [_], _ => rfl
  have m16 := PySem.W.mg_of X G a16
  have F17 := fun_mk (st := s_law_some) l17 c17 k17
  have b17 := F17.binds (ps := ["_law_box_here", "_law_names_here", "_law_few"]) fun _ _ _ _ _ _ us hl => match us, hl with | [_, _, _], _ => rfl
  have m17 := PySem.W.mg_of X G a17
  have F18 := fun_mk (st := s_law_piece) l18 c18 k18
  have b18 := F18.binds (ps := ["_law_box_here", "_law_names_here"]) fun _ _ _ _ _ _ us hl => match us, hl with | [_, _], _ => rfl
  have m18 := PySem.W.mg_of X G a18
  have F19 := fun_mk (st := s_law_row) l19 c19 k19
  have b19 := F19.binds (ps := ["_law_box_here", "_law_names_here", "_law_room"]) fun _ _ _ _ _ _ us hl => match us, hl with | [_, _, _], _ => rfl
  have m19 := PySem.W.mg_of X G a19
  have F20 := fun_mk (st := s_law_text) l20 c20 k20
  have b20 := F20.binds (ps := ["_law_line"]) fun _ _ _ _ _ _ us hl => match us, hl with | [_], _ => rfl
  have m20 := PySem.W.mg_of X G a20
  have F21 := fun_mk (st := s_law_is_name) l21 c21 k21
  have b21 := F21.binds (ps := ["_law_word"]) fun _ _ _ _ _ _ us hl => match us, hl with | [_], _ => rfl
  have m21 := PySem.W.mg_of X G a21
  have F22 := fun_mk (st := s_law_read) l22 c22 k22
  have b22 := F22.binds (ps := ["_law_spelt"]) fun _ _ _ _ _ _ us hl => match us, hl with | [_], _ => rfl
  have m22 := PySem.W.mg_of X G a22
  have F23 := fun_mk (st := s_law_told) l23 c23 k23
  have b23 := F23.binds (ps := ["_law_spelt"]) fun _ _ _ _ _ _ us hl => match us, hl with | [_], _ => rfl
  have m23 := PySem.W.mg_of X G a23
  have F24 := fun_mk (st := s_law_bent) l24 c24 k24
  have b24 := F24.binds (ps := ["_law_box_here", "_law_spelt"]) fun _ _ _ _ _ _ us hl => match us, hl with | [_, _], _ => rfl
  have m24 := PySem.W.mg_of X G a24
  have F25 := fun_mk (st := s_law_right) l25 c25 k25
  have b25 := F25.binds (ps := ["_law_box_here"]) fun _ _ _ _ _ _ us hl => match us, hl with | [_], _ => rfl
  have m25 := PySem.W.mg_of X G a25
  have F26 := fun_mk (st := s_law) l26 c26 k26
  have b26 := F26.binds (ps := ["_law_script"]) fun _ _ _ _ _ _ us hl => match us, hl with | [_], _ => rfl
  have m26 := PySem.W.mg_of X G a26
  have K_MOST_LETTERS := PySem.W.mg_of X G y1
  have K_SMALL_LETTERS := PySem.W.mg_of X G y2
  have K_HOOK_PARTS := PySem.W.mg_of X G y3
  have K_RIGHT_SIGN := PySem.W.mg_of X G y4
  have K_LEFT_SIGN := PySem.W.mg_of X G y5
  have K_BARE_TEXT := PySem.W.mg_of X G y6
  have K_SENSES : Tab K mg "SENSES" [[.str "-", .int (1)], [.str "~", .int (-1)]] := ⟨⟨a_SENSES, [.ref b1_SENSES, .ref b2_SENSES], PySem.W.mg_of X G y7, fun H => .inr ⟨_, _, _, yt7, rfl, rfl, (by show 2 ≤ sizeLine; rw [sizeLine_eq]; decide), .cons (rfl) (.cons (rfl) (.nil))⟩, .cons (⟨_, [.str "-", .int (1)], rfl, fun H => .inr ⟨_, _, _, yt7_1, rfl, rfl, (by show 2 ≤ sizeLine; rw [sizeLine_eq]; decide), .cons (⟨_, rfl⟩) (.cons (⟨_, rfl⟩) (.nil))⟩, fun G => .cons (.str _) (.cons (.int _) (.nil))⟩) (.cons (⟨_, [.str "~", .int (-1)], rfl, fun H => .inr ⟨_, _, _, yt7_2, rfl, rfl, (by show 2 ≤ sizeLine; rw [sizeLine_eq]; decide), .cons (⟨_, rfl⟩) (.cons (⟨_, rfl⟩) (.nil))⟩, fun G => .cons (.str _) (.cons (.int _) (.nil))⟩) (.nil))⟩⟩
  have B : Bn mg := ⟨PySem.W.mg_none_of X G z1, PySem.W.mg_none_of X G z2, PySem.W.mg_none_of X G z3, PySem.W.mg_none_of X G z4, PySem.W.mg_none_of X G z5, PySem.W.mg_none_of X G z6, PySem.W.mg_none_of X G z7, PySem.W.mg_none_of X G z8, PySem.W.mg_none_of X G z9, PySem.W.mg_none_of X G z10, PySem.W.mg_none_of X G z11, PySem.W.mg_none_of X G z12, PySem.W.mg_none_of X G z13, PySem.W.mg_none_of X G z14, PySem.W.mg_none_of X G z15⟩
  have L_BadRow : ClsF K c_BadRow := ⟨be_BadRow, ty_BadRow, hd_BadRow⟩
  have L_BadText : ClsF K c_BadText := ⟨be_BadText, ty_BadText, hd_BadText⟩
  have E_BadText : L2.ExcC K c_BadText := ⟨hg_BadText, hk_BadText, be_BadText, hd_BadText, ha_BadText, y_hn, y_ht, hm_BadText⟩
  have F_tab1 : ExcTab K mg ["BadRow", "BadText"] [c_BadRow, c_BadText] ["BadText"] := ⟨(.cons (⟨x_BadRow, PySem.W.mg_of X G x_BadRow⟩) (.cons (⟨x_BadText, PySem.W.mg_of X G x_BadText⟩) .nil)), fun cn C hcn hC => by
    simp only [List.mem_cons, List.not_mem_nil, or_false] at hcn
    rcases hcn with rfl
    · obtain rfl := cls_one x_BadText hC
      exact ⟨[false, true], (.cons (exm_mk L_BadRow s_BadText_BadRow) (.cons (exm_mk L_BadText s_BadText_BadText) .nil)), rfl⟩
  ⟩
  have F_kf2 : KitF K (.ref c_BadText) [("BadText", true)] := ⟨fun cn b C hl hC => by
    rcases look_mem hl with hm
    simp only [List.mem_cons, List.not_mem_nil, or_false, Prod.mk.injEq] at hm
    rcases hm with ⟨rfl, rfl⟩
    · obtain rfl := cls_one x_BadText hC
      exact ⟨E_BadText, kit_mk L_BadText s_BadText_BadText s_BadText_BadText⟩
  ⟩
  have F_kb3 : KitF K (.type "ValueError") [("BadText", true)] := ⟨fun cn b C hl hC => by
    rcases look_mem hl with hm
    simp only [List.mem_cons, List.not_mem_nil, or_false, Prod.mk.injEq] at hm
    rcases hm with ⟨rfl, rfl⟩
    · obtain rfl := cls_one x_BadText hC
      exact ⟨E_BadText, kit_mkB (by decide +kernel) sb_BadText_ValueError⟩
  ⟩
  have F_fl4 : ∀ cn ∈ (["BadText"] : List Str), FldC K cn "text" := fun cn hcn => by
    simp only [List.mem_cons, List.not_mem_nil, or_false] at hcn
    rcases hcn with rfl
    · exact ⟨fun C hC => by
        obtain rfl := cls_one x_BadText hC
        exact ⟨DL.ExcC.xf E_BadText, nf_BadText_text⟩⟩
  have T : XT K mg c_BadRow c_BadText := ⟨PySem.W.mg_of X G x_BadRow, PySem.W.mg_of X G x_BadText, F_tab1, F_kf2, F_kb3, F_fl4⟩
  have b_BadText := (fun_mk (st := i_BadText) li_BadText ci_BadText ki_BadText).binds (ps := ["self", "text"]) fun _ _ _ _ _ _ us hl => match us, hl with | [_, _], _ => rfl
  have Z_BadText : ∀ base : Heap, RaiseC l.prog w K mg base "BadText" "text" 1 := fun base => ⟨_, _, _, ⟨⟨nm_BadText, q_BadText, N_BadText, bs_BadText, _, sn_BadText, sub_BadText, ab_BadText, col_BadText, dd_BadText, m0_BadText, m1_BadText, m2_BadText, m3_BadText, m5_BadText, xl_BadText, by decide +kernel⟩, sa_BadText, be_BadText, ty_BadText, kc_BadText⟩, ii_BadText, ti_BadText, ok_init_BadText (fun_mk (st := i_BadText) li_BadText ci_BadText ki_BadText) (PySem.W.mg_none_of X G y_vn) y_vv, b_BadText, x_BadText, nf_BadText_text, PySem.W.mg_of X G x_BadText⟩
  refine ⟨PySem.W.fnOf "law" "law" (defArgs s_law) (defBody s_law) (defScope s_law) .none kV26 dc26 pm26 an26 cd26 ct26, fun s v => .of_eq rfl, fun base _ _ => ?_⟩
  have O1 := ok_is_rope (P := l.prog) (w := w) (base := base) (k := 0) F1 B K_MOST_LETTERS K_SMALL_LETTERS
  have C_is_rope : Cal l.prog w K mg base "is_rope" 1 ["thing"] (spD K 1 Ph_is_rope) := ⟨_, _, O1, m1, k1, b1⟩
  have O2 := ok_is_number (P := l.prog) (w := w) (base := base) (k := 0) F2 B 
  have C_is_number : Cal l.prog w K mg base "is_number" 1 ["thing"] (spD K 1 Ph_is_number) := ⟨_, _, O2, m2, k2, b2⟩
  have O3 := ok_is_sense (P := l.prog) (w := w) (base := base) (k := 1) F3 B (C_is_number.mono (by decide))
  have C_is_sense : Cal l.prog w K mg base "is_sense" 2 ["thing"] (spD K 1 Ph_is_sense) := ⟨_, _, O3, m3, k3, b3⟩
  have O4 := ok_is_hook (P := l.prog) (w := w) (base := base) (k := 2) F4 B K_HOOK_PARTS (C_is_sense.mono (by decide)) (C_is_rope.mono (by decide))
  have C_is_hook : Cal l.prog w K mg base "is_hook" 3 ["thing"] (spD K 1 Ph_is_hook) := ⟨_, _, O4, m4, k4, b4⟩
  have O5 := ok_hook_text (P := l.prog) (w := w) (base := base) (k := 0) F5 B K_RIGHT_SIGN K_LEFT_SIGN
  have C_hook_text : Cal l.prog w K mg base "hook_text" 1 ["hook"] (spD K 1 Ph_hook_text) := ⟨_, _, O5, m5, k5, b5⟩
  have O6 := ok_row_text (P := l.prog) (w := w) (base := base) (k := 1) F6 B K_BARE_TEXT (C_hook_text.mono (by decide))
  have C_row_text : Cal l.prog w K mg base "row_text" 2 ["row"] (spD K 1 Ph_row_text) := ⟨_, _, O6, m6, k6, b6⟩
  have K_row_text_0_row : CalK l.prog w K mg base "row_text" 2 ["row"] 0 ["row"] [0] (spD K 1 Ph_row_text) := ⟨_, _, O6, m6, k6, DL.Fun.kbn F6 0 ["row"] [0] (fun _ _ _ _ _ _ us ws h1 h2 => match us, ws, h1, h2 with | [], [_], _, _ => rfl)⟩
  have O7 := ok_hook_in (P := l.prog) (w := w) (base := base) (k := 3) F7 B K_SENSES (C_is_hook.mono (by decide))
  have C_hook_in : Cal l.prog w K mg base "hook_in" 4 ["word"] (spD K 1 Ph_hook_in) := ⟨_, _, O7, m7, k7, b7⟩
  have O8 := ok_row_in (P := l.prog) (w := w) (base := base) (k := 4) F8 B K_BARE_TEXT (C_hook_in.mono (by decide)) ((Z_BadText base).mono (by decide))
  have X_row_in : CalX l.prog w K mg base "row_in" 6 ["text"] (spX K 1 Ph_row_in) := ⟨_, _, O8, m8, k8, b8⟩
  have C_row_in := X_row_in.calm
  have K_row_in_0_text : CalK l.prog w K mg base "row_in" 6 ["text"] 0 ["text"] [0] (spD K 1 (calmP Ph_row_in)) := ⟨_, _, O8.calm, m8, k8, DL.Fun.kbn F8 0 ["text"] [0] (fun _ _ _ _ _ _ us ws h1 h2 => match us, ws, h1, h2 with | [], [_], _, _ => rfl)⟩
  have O9 := ok_law_box (P := l.prog) (w := w) (base := base) (k := 0) F9 B 
  have C_law_box : Cal l.prog w K mg base "_law_box" 1 ["_law_script", "_law_k"] (spD K 2 Ph_law_box) := ⟨_, _, O9, m9, k9, b9⟩
  have O10 := ok_law_take (P := l.prog) (w := w) (base := base) (k := 0) F10 B 
  have C_law_take : Cal l.prog w K mg base "_law_take" 1 ["_law_box_here", "_law_bound"] (spL K 2 Ph_law_take) := ⟨_, _, O10, m10, k10, b10⟩
  have O11 := ok_law_pick (P := l.prog) (w := w) (base := base) (k := 1) F11 B (C_law_take.mono (by decide))
  have C_law_pick : Cal l.prog w K mg base "_law_pick" 2 ["_law_box_here", "_law_things"] (spL K 2 Ph_law_pick) := ⟨_, _, O11, m11, k11, b11⟩
  have R12 := ok_law_same (P := l.prog) (w := w) (base := base) (k := 0) F12 B m12 k12 b12
  have C_law_same : Cal l.prog w K mg base "_law_same" 8 ["_law_found", "_law_due"] (spD K 2 Ph_law_same) := ⟨_, _, (R12 8).mono (by decide), m12, k12, b12⟩
  have O13 := ok_law_names (P := l.prog) (w := w) (base := base) (k := 1) F13 B (C_law_take.mono (by decide))
  have C_law_names : Cal l.prog w K mg base "_law_names" 2 ["_law_box_here", "_law_many"] (spL K 2 Ph_law_names) := ⟨_, _, O13, m13, k13, b13⟩
  have O14 := ok_law_hook (P := l.prog) (w := w) (base := base) (k := 1) F14 B (C_law_take.mono (by decide))
  have C_law_hook : Cal l.prog w K mg base "_law_hook" 2 ["_law_box_here", "_law_names_here"] (spL K 2 Ph_law_hook) := ⟨_, _, O14, m14, k14, b14⟩
  have O15 := ok_law_back (P := l.prog) (w := w) (base := base) (k := 0) F15 B 
  have C_law_back : Cal l.prog w K mg base "_law_back" 1 ["_law_strung"] (spD K 1 Ph_law_back) := ⟨_, _, O15, m15, k15, b15⟩
  have O16 := ok_law_knot (P := l.prog) (w := w) (base := base) (k := 1) F16 B (C_law_back.mono (by decide))
  have C_law_knot : Cal l.prog w K mg base "_law_knot" 2 ["_law_names_here"] (spD K 1 Ph_law_knot) := ⟨_, _, O16, m16, k16, b16⟩
  have O17 := ok_law_some (P := l.prog) (w := w) (base := base) (k := 1) F17 B (C_law_take.mono (by decide))
  have C_law_some : Cal l.prog w K mg base "_law_some" 2 ["_law_box_here", "_law_names_here", "_law_few"] (spL K 3 Ph_law_some) := ⟨_, _, O17, m17, k17, b17⟩
  have O18 := ok_law_piece (P := l.prog) (w := w) (base := base) (k := 2) F18 B (C_law_hook.mono (by decide)) (C_law_take.mono (by decide)) (C_law_back.mono (by decide)) (C_law_some.mono (by decide)) (C_law_knot.mono (by decide))
  have C_law_piece : Cal l.prog w K mg base "_law_piece" 3 ["_law_box_here", "_law_names_here"] (spL K 2 Ph_law_piece) := ⟨_, _, O18, m18, k18, b18⟩
  have O19 := ok_law_row (P := l.prog) (w := w) (base := base) (k := 3) F19 B (C_law_take.mono (by decide)) (C_law_piece.mono (by decide)) (C_law_back.mono (by decide))
  have C_law_row : Cal l.prog w K mg base "_law_row" 4 ["_law_box_here", "_law_names_here", "_law_room"] (spL K 3 Ph_law_row) := ⟨_, _, O19, m19, k19, b19⟩
  have O20 := ok_law_text (P := l.prog) (w := w) (base := base) (k := 0) F20 B 
  have C_law_text : Cal l.prog w K mg base "_law_text" 1 ["_law_line"] (spD K 1 Ph_law_text) := ⟨_, _, O20, m20, k20, b20⟩
  have O21 := ok_law_is_name (P := l.prog) (w := w) (base := base) (k := 0) F21 B 
  have C_law_is_name : Cal l.prog w K mg base "_law_is_name" 1 ["_law_word"] (spD K 1 Ph_law_is_name) := ⟨_, _, O21, m21, k21, b21⟩
  have O22 := ok_law_read (P := l.prog) (w := w) (base := base) (k := 1) F22 B (C_law_is_name.mono (by decide))
  have C_law_read : Cal l.prog w K mg base "_law_read" 2 ["_law_spelt"] (spD K 1 Ph_law_read) := ⟨_, _, O22, m22, k22, b22⟩
  have O23 := ok_law_told (P := l.prog) (w := w) (base := base) (k := 6) F23 B (X_row_in.mono (by decide)) T
  have C_law_told : Cal l.prog w K mg base "_law_told" 7 ["_law_spelt"] (spD K 1 Ph_law_told) := ⟨_, _, O23, m23, k23, b23⟩
  have O24 := ok_law_bent (P := l.prog) (w := w) (base := base) (k := 2) F24 B (C_law_take.mono (by decide)) (C_law_pick.mono (by decide))
  have C_law_bent : Cal l.prog w K mg base "_law_bent" 3 ["_law_box_here", "_law_spelt"] (spL K 2 Ph_law_bent) := ⟨_, _, O24, m24, k24, b24⟩
  have O25 := ok_law_right (P := l.prog) (w := w) (base := base) (k := 8) F25 B (C_law_take.mono (by decide)) (C_law_names.mono (by decide)) (C_law_row.mono (by decide)) (C_law_text.mono (by decide)) (C_row_text.mono (by decide)) (C_law_same.mono (by decide)) (C_law_bent.mono (by decide)) (C_law_read.mono (by decide)) (C_law_told.mono (by decide)) (C_row_in.mono (by decide)) (K_row_in_0_text.mono (by decide)) (K_row_text_0_row.mono (by decide))
  have C_law_right : Cal l.prog w K mg base "_law_right" 9 ["_law_box_here"] (spL K 1 Ph_law_right) := ⟨_, _, O25, m25, k25, b25⟩
  exact ok_law (k := 9) F26 B (C_law_box.mono (by decide)) (C_law_right.mono (by decide))
end K03
open PySem PySem.W PyProof.Rows
set_option maxRecDepth 100000 in
set_option maxHeartbeats 0 in
theorem PySem.Challenge.cw_drawnropes_k03_texts_of_rows_spoilt_holds : PySem.Challenge.rw_drawnropes_k03_texts_of_rows_spoilt.Holds := by
  w_on; o_law; k_head; (case hw => w_witness2)
  k_fill
  refine DL.walkG (l := PySem.Challenge.rw_drawnropes_k03_texts_of_rows_spoilt) (n := 63) (k := 10) (x := "_law_script") (Φ := K03.Ph_law) rfl (by decide) rfl ⟨rfl, by decide, by decide⟩ (fun w => by kernel_rfl) (fun w h Y => PySem.W.kIn_of Y) ?F (fun ns hl => ⟨ns, rfl, rfl⟩)
  case F =>
    intro w mg fa h KX G hmg
    refine' K03.all_mk KX G hmg ?a1 ?l1 ?c1 ?k1 ?a2 ?l2 ?c2 ?k2 ?a3 ?l3 ?c3 ?k3 ?a4 ?l4 ?c4 ?k4 ?a5 ?l5 ?c5 ?k5 ?a6 ?l6 ?c6 ?k6 ?a7 ?l7 ?c7 ?k7 ?a8 ?l8 ?c8 ?k8 ?a9 ?l9 ?c9 ?k9 ?a10 ?l10 ?c10 ?k10 ?a11 ?l11 ?c11 ?k11 ?a12 ?l12 ?c12 ?k12 ?a13 ?l13 ?c13 ?k13 ?a14 ?l14 ?c14 ?k14 ?a15 ?l15 ?c15 ?k15 ?a16 ?l16 ?c16 ?k16 ?a17 ?l17 ?c17 ?k17 ?a18 ?l18 ?c18 ?k18 ?a19 ?l19 ?c19 ?k19 ?a20 ?l20 ?c20 ?k20 ?a21 ?l21 ?c21 ?k21 ?a22 ?l22 ?c22 ?k22 ?a23 ?l23 ?c23 ?k23 ?a24 ?l24 ?c24 ?k24 ?a25 ?l25 ?c25 ?k25 ?a26 ?l26 ?c26 ?k26 ?y1 ?y2 ?y3 ?y4 ?y5 ?y6 ?y7 ?yt7 ?yt7_1 ?yt7_2 ?z1 ?z2 ?z3 ?z4 ?z5 ?z6 ?z7 ?z8 ?z9 ?z10 ?z11 ?z12 ?z13 ?z14 ?z15 ?y_hn ?y_ht ?x_BadRow ?be_BadRow ?ty_BadRow ?hd_BadRow ?x_BadText ?be_BadText ?ty_BadText ?hd_BadText ?hg_BadText ?hk_BadText ?ha_BadText ?hm_BadText ?s_BadText_BadRow ?s_BadText_BadText ?sb_BadText_ValueError ?nf_BadText_text ?xl_BadText ?sa_BadText ?kc_BadText ?ii_BadText ?ti_BadText ?li_BadText ?ci_BadText ?ki_BadText ?y_vn ?y_vv
    (case a1 => k_is); (case l1 => k_is); (case c1 => k_is); (case k1 => k_is); (case a2 => k_is); (case l2 => k_is); (case c2 => k_is); (case k2 => k_is)
    (case a3 => k_is); (case l3 => k_is); (case c3 => k_is); (case k3 => k_is); (case a4 => k_is); (case l4 => k_is); (case c4 => k_is); (case k4 => k_is)
    (case a5 => k_is); (case l5 => k_is); (case c5 => k_is); (case k5 => k_is); (case a6 => k_is); (case l6 => k_is); (case c6 => k_is); (case k6 => k_is)
    (case a7 => k_is); (case l7 => k_is); (case c7 => k_is); (case k7 => k_is); (case a8 => k_is); (case l8 => k_is); (case c8 => k_is); (case k8 => k_is)
    (case a9 => k_is); (case l9 => k_is); (case c9 => k_is); (case k9 => k_is); (case a10 => k_is); (case l10 => k_is); (case c10 => k_is); (case k10 => k_is)
    (case a11 => k_is); (case l11 => k_is); (case c11 => k_is); (case k11 => k_is); (case a12 => k_is); (case l12 => k_is); (case c12 => k_is); (case k12 => k_is)
    (case a13 => k_is); (case l13 => k_is); (case c13 => k_is); (case k13 => k_is); (case a14 => k_is); (case l14 => k_is); (case c14 => k_is); (case k14 => k_is)
    (case a15 => k_is); (case l15 => k_is); (case c15 => k_is); (case k15 => k_is); (case a16 => k_is); (case l16 => k_is); (case c16 => k_is); (case k16 => k_is)
    (case a17 => k_is); (case l17 => k_is); (case c17 => k_is); (case k17 => k_is); (case a18 => k_is); (case l18 => k_is); (case c18 => k_is); (case k18 => k_is)
    (case a19 => k_is); (case l19 => k_is); (case c19 => k_is); (case k19 => k_is); (case a20 => k_is); (case l20 => k_is); (case c20 => k_is); (case k20 => k_is)
    (case a21 => k_is); (case l21 => k_is); (case c21 => k_is); (case k21 => k_is); (case a22 => k_is); (case l22 => k_is); (case c22 => k_is); (case k22 => k_is)
    (case a23 => k_is); (case l23 => k_is); (case c23 => k_is); (case k23 => k_is); (case a24 => k_is); (case l24 => k_is); (case c24 => k_is); (case k24 => k_is)
    (case a25 => k_is); (case l25 => k_is); (case c25 => k_is); (case k25 => k_is); (case a26 => k_is); (case l26 => k_is); (case c26 => k_is); (case k26 => k_is)
    (case y1 => k_is); (case y2 => k_is); (case y3 => k_is); (case y4 => k_is); (case y5 => k_is); (case y6 => k_is); (case y7 => k_is); (case yt7 => k_is)
    (case yt7_1 => k_is); (case yt7_2 => k_is); (case z1 => k_is); (case z2 => k_is); (case z3 => k_is); (case z4 => k_is); (case z5 => k_is); (case z6 => k_is)
    (case z7 => k_is); (case z8 => k_is); (case z9 => k_is); (case z10 => k_is); (case z11 => k_is); (case z12 => k_is); (case z13 => k_is); (case z14 => k_is)
    (case z15 => k_is); (case y_hn => k_is); (case y_ht => k_is); (case x_BadRow => k_is); (case be_BadRow => k_is); (case ty_BadRow => k_is); (case hd_BadRow => k_is); (case x_BadText => k_is)
    (case be_BadText => k_is); (case ty_BadText => k_is); (case hd_BadText => k_is); (case hg_BadText => k_is); (case hk_BadText => k_is); (case ha_BadText => k_is); (case hm_BadText => k_is); (case s_BadText_BadRow => k_is)
    (case s_BadText_BadText => k_is); (case sb_BadText_ValueError => k_is); (case nf_BadText_text => k_is); (case xl_BadText => k_is); (case sa_BadText => k_is); (case kc_BadText => k_is); (case ii_BadText => k_is); (case ti_BadText => k_is)
    (case li_BadText => k_is); (case ci_BadText => k_is); (case ki_BadText => k_is); (case y_vn => k_is); (case y_vv => k_is)
