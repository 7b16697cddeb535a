import PyProof.Rows.All
import Wide.All
import OpenK.AllK
import Wide.FinOn
import KE.DataEq
import HandS.ForSpec
import HandS.ForMost
import HandS.Walk
import HandS.Wide
import HandS.TryMany
import HandS.ExcIs
import HandS.IsInst
import HandS.Zip
import HandS.TupAny
import HandS.TupMul
import HandS.Flow
import HandS.Defaults
import KE.GoesEnum
import PySem.Challenge.RW_halfring_k25_whole_mending_cut_anywhere
import KE.KStateDown
import HandS.Base
import HandS.Call
import HandS.Ends
import HandS.More
import HandS.Words
import HandS.WordsExc
import HandS.Head0
import HandS.Head1
import HandS.Head2
import HandS.HeadEnd
import HandS.HeadHook1
import HandS.HeadHook2
set_option Elab.async false
set_option linter.all false
set_option maxRecDepth 100000
set_option maxHeartbeats 4000000
namespace Hr
open PySem PySem.Spec PyProof.Rows L2

/-! ### values of the mirror: data that never changes, a list of the table (it may change), the script -/
inductive Vd where
  | dat (x : PyData)
  | own (k : Nat)
  | scr (ns : List Int)
abbrev Tab := List (Option (List Vd))
abbrev Rho := List (Option Vd)
/-- what a run gives: a result, an error of the program's class c, or no word -/
inductive Re (α : Type) where
  | ok (a : α) (T : Tab)
  | er (c : Nat) (T : Tab)
  | bad
def Re.bd {α β : Type} (r : Re α) (k : α → Tab → Re β) : Re β := match r with
  | .ok a T => k a T
  | .er c T => .er c T
  | .bad => .bad
@[simp] theorem bd_ok {α β : Type} (a : α) (T : Tab) (k : α → Tab → Re β) : (Re.ok a T).bd k = k a T := rfl
@[simp] theorem bd_er {α β : Type} (c : Nat) (T : Tab) (k : α → Tab → Re β) : (Re.er c T).bd k = .er c T := rfl
@[simp] theorem bd_bad {α β : Type} (k : α → Tab → Re β) : (Re.bad : Re α).bd k = .bad := rfl

/-! ### data on the heap: lists are tracked ones -/
mutual
inductive Da (K : PySem.W.Frag) (F : Hp) : V → PyData → Prop
  | non : Da K F .non .none
  | bl (b : Bool) : Da K F (.bl b) (.bool b)
  | int (i : Int) : Da K F (.int i) (.int i)
  | str (x : Str) : Da K F (.str x) (.str x)
  | lst {a : Addr} {xs : List V} {ds : List PyData} : F a = some (.lst xs) → DaAll K F xs ds → Da K F (.ref a) (.list ds)
  | tup {a : Addr} {xs : List V} {ds : List PyData} : SqT K F a xs → DaAll K F xs ds → Da K F (.ref a) (.tuple ds)
inductive DaAll (K : PySem.W.Frag) (F : Hp) : List V → List PyData → Prop
  | nil : DaAll K F [] []
  | cons {v : V} {vs : List V} {d : PyData} {ds : List PyData} : Da K F v d → DaAll K F vs ds → DaAll K F (v :: vs) (d :: ds)
end
def Ext (F F' : Hp) : Prop := ∀ a o, F a = some o → F' a = some o
theorem Ext.refl (F : Hp) : Ext F F := fun _ _ h => h
theorem Ext.trans {F F1 F2 : Hp} (a : Ext F F1) (b : Ext F1 F2) : Ext F F2 := fun c o h => b c o (a c o h)
theorem Ext.rd {F F' : Hp} {a : Addr} {u : HO} (e : Ext F F') (h : Rd F a u) : Rd F' a u := by
  rcases h with h | ⟨o, h⟩
  · exact .inl (e a _ h)
  · exact .inr ⟨o, e a _ h⟩
theorem Ext.seq {K : PySem.W.Frag} {F F' : Hp} {a : Addr} {xs : List V} (e : Ext F F') (h : SqL K F a xs) : SqL K F' a xs := by
  rcases h with h | h
  · exact .inl (e.rd h)
  · exact .inr h
theorem Ext.tup {K : PySem.W.Frag} {F F' : Hp} {a : Addr} {xs : List V} (e : Ext F F') (h : SqT K F a xs) : SqT K F' a xs := by
  rcases h with h | h
  · exact .inl (e.rd h)
  · exact .inr h
theorem Ext.new {F : Hp} {p : Addr} {o : HO} (h : F p = none) : Ext F (upd F p o) := fun a u e => by
  rw [upd_ne (ne_of_none e h)]
  exact e
mutual
theorem Da.mono {K : PySem.W.Frag} {F F' : Hp} (e : Ext F F') : ∀ {x : PyData} {v : V}, Da K F v x → Da K F' v x
  | .none, _, h => by cases h; exact .non
  | .bool b, _, h => by cases h; exact .bl b
  | .int i, _, h => by cases h; exact .int i
  | .str x, _, h => by cases h; exact .str x
  | .list ds, _, h => by
    cases h with
    | lst hs ha => exact .lst (e _ _ hs) (DaAll.mono e ha)
  | .tuple ds, _, h => by
    cases h with
    | tup hs ha => exact .tup (e.tup hs) (DaAll.mono e ha)
  | .dict _, _, h => by cases h
theorem DaAll.mono {K : PySem.W.Frag} {F F' : Hp} (e : Ext F F') : ∀ {xs : List PyData} {vs : List V}, DaAll K F vs xs → DaAll K F' vs xs
  | [], _, h => by cases h; exact .nil
  | x :: xs, _, h => by
    cases h with
    | cons h1 h2 => exact .cons (Da.mono e h1) (DaAll.mono e h2)
end
mutual
theorem Da.dp {K : PySem.W.Frag} {F : Hp} : ∀ {x : PyData} {v : V}, Da K F v x → Dp K F v x
  | .none, _, h => by cases h; exact .non
  | .bool b, _, h => by cases h; exact .bl b
  | .int i, _, h => by cases h; exact .int i
  | .str x, _, h => by cases h; exact .str x
  | .list ds, _, h => by
    cases h with
    | lst hs ha => exact .lst (SqL.of hs) (DaAll.dp ha)
  | .tuple ds, _, h => by
    cases h with
    | tup hs ha => exact .tup hs (DaAll.dp ha)
  | .dict _, _, h => by cases h
theorem DaAll.dp {K : PySem.W.Frag} {F : Hp} : ∀ {xs : List PyData} {vs : List V}, DaAll K F vs xs → DpAll K F vs xs
  | [], _, h => by cases h; exact .nil
  | x :: xs, _, h => by
    cases h with
    | cons h1 h2 => exact .cons (Da.dp h1) (DaAll.dp h2)
end
mutual
theorem Da.plain {K : PySem.W.Frag} {F : Hp} : ∀ {x : PyData} {v : V}, Da K F v x → x.plain = true
  | .none, _, h => rfl
  | .bool b, _, h => rfl
  | .int i, _, h => rfl
  | .str x, _, h => rfl
  | .list ds, _, h => by
    cases h with
    | lst hs ha => simp only [PyData.plain]; exact DaAll.plain ha
  | .tuple ds, _, h => by
    cases h with
    | tup hs ha => simp only [PyData.plain]; exact DaAll.plain ha
  | .dict _, _, h => by cases h
theorem DaAll.plain {K : PySem.W.Frag} {F : Hp} : ∀ {xs : List PyData} {vs : List V}, DaAll K F vs xs → PyData.plainAll xs = true
  | [], _, h => rfl
  | x :: xs, _, h => by
    cases h with
    | cons h1 h2 => simp only [PyData.plainAll, Da.plain h1, DaAll.plain h2, Bool.and_self]
end
theorem DaAll.len {K : PySem.W.Frag} {F : Hp} : ∀ {xs : List PyData} {vs : List V}, DaAll K F vs xs → vs.length = xs.length
  | [], _, h => by cases h; rfl
  | x :: xs, _, h => by
    cases h with
    | cons h1 h2 => rw [List.length_cons, List.length_cons, DaAll.len h2]

/-! ### the relation -/
def VR (K : PySem.W.Frag) (F : Hp) (as : List Addr) (v : V) : Vd → Prop
  | .dat x => Da K F v x
  | .own k => ∃ a, as[k]? = some a ∧ v = .ref a
  | .scr ns => ∃ a, v = .ref a ∧ SqL K F a (ns.map V.int)
abbrev VRs (K : PySem.W.Frag) (F : Hp) (as : List Addr) : List V → List Vd → Prop := Paired (VR K F as)
structure Gr (F : Hp) (as : List Addr) (F' : Hp) (as' : List Addr) : Prop where
  ex : Ext F F'
  pre : ∀ (k : Nat) (a : Addr), as[k]? = some a → as'[k]? = some a
theorem Gr.refl {F : Hp} {as : List Addr} : Gr F as F as := ⟨Ext.refl F, fun _ _ h => h⟩
theorem Gr.trans {F F1 F2 : Hp} {as as1 as2 : List Addr} (a : Gr F as F1 as1) (b : Gr F1 as1 F2 as2) : Gr F as F2 as2 := ⟨a.ex.trans b.ex, fun k c h => b.pre k c (a.pre k c h)⟩
theorem VR.mono {K : PySem.W.Frag} {F F' : Hp} {as as' : List Addr} (g : Gr F as F' as') {v : V} : ∀ {d : Vd}, VR K F as v d → VR K F' as' v d
  | .dat _, h => Da.mono g.ex h
  | .own k, ⟨a, h, e⟩ => ⟨a, g.pre k a h, e⟩
  | .scr ns, ⟨a, e, h⟩ => ⟨a, e, g.ex.seq h⟩
theorem VRs.mono {K : PySem.W.Frag} {F F' : Hp} {as as' : List Addr} (g : Gr F as F' as') {vs : List V} {ds : List Vd} (h : VRs K F as vs ds) : VRs K F' as' vs ds := Paired.mapP h fun _ _ r => VR.mono g r
theorem VRs.get {K : PySem.W.Frag} {F : Hp} {as : List Addr} : ∀ {vs : List V} {ds : List Vd} {i : Nat} {d : Vd}, VRs K F as vs ds → ds[i]? = some d → ∃ v, vs[i]? = some v ∧ VR K F as v d
  | _, _, _, _, .nil, e => by simp at e
  | _, _, 0, _, .cons r _, e => by simp at e; subst e; exact ⟨_, rfl, r⟩
  | _, _, i + 1, d, .cons _ t, e => by
    obtain ⟨u, h1, h2⟩ := VRs.get (i := i) (d := d) t (by simpa using e)
    exact ⟨u, by simpa using h1, h2⟩
theorem VRs.len {K : PySem.W.Frag} {F : Hp} {as : List Addr} {vs : List V} {ds : List Vd} (h : VRs K F as vs ds) : vs.length = ds.length := Paired.length h
theorem VRs.app {K : PySem.W.Frag} {F : Hp} {as : List Addr} : ∀ {vs ws : List V} {ds es : List Vd}, VRs K F as vs ds → VRs K F as ws es → VRs K F as (vs ++ ws) (ds ++ es)
  | _, _, _, _, .nil, h => h
  | _, _, _, _, .cons r t, h => .cons r (VRs.app t h)
theorem VRs.set {K : PySem.W.Frag} {F : Hp} {as : List Addr} {v : V} {d : Vd} (q : VR K F as v d) : ∀ {vs : List V} {ds : List Vd} (i : Nat), VRs K F as vs ds → VRs K F as (vs.set i v) (ds.set i d)
  | _, _, _, .nil => .nil
  | _, _, 0, .cons _ t => .cons q t
  | _, _, i + 1, .cons r t => .cons r (VRs.set q i t)
theorem VRs.take {K : PySem.W.Frag} {F : Hp} {as : List Addr} : ∀ {vs : List V} {ds : List Vd} (n : Nat), VRs K F as vs ds → VRs K F as (vs.take n) (ds.take n)
  | _, _, 0, _ => .nil
  | _, _, _ + 1, .nil => .nil
  | _, _, n + 1, .cons r t => .cons r (VRs.take n t)
theorem VRs.drop {K : PySem.W.Frag} {F : Hp} {as : List Addr} : ∀ {vs : List V} {ds : List Vd} (n : Nat), VRs K F as vs ds → VRs K F as (vs.drop n) (ds.drop n)
  | _, _, 0, r => r
  | _, _, _ + 1, .nil => .nil
  | _, _, n + 1, .cons _ t => VRs.drop n t
/-- all of them data -/
def dats : List Vd → Option (List PyData)
  | [] => some []
  | .dat x :: r => (dats r).map (x :: ·)
  | _ :: _ => none
theorem dats_cons {x : PyData} {r : List Vd} {xs : List PyData} (h : dats (.dat x :: r) = some xs) : ∃ ys, dats r = some ys ∧ xs = x :: ys := by
  have e2 : (dats r).map (x :: ·) = some xs := h
  cases q : dats r with
  | none => rw [q] at e2; cases e2
  | some ys =>
    rw [q] at e2
    exact ⟨ys, rfl, (Option.some.inj e2).symm⟩
theorem VRs.da {K : PySem.W.Frag} {F : Hp} {as : List Addr} {vs : List V} {ds : List Vd} (h : VRs K F as vs ds) : ∀ {xs : List PyData}, dats ds = some xs → DaAll K F vs xs := by
  induction h with
  | nil =>
    intro xs e
    cases e
    exact .nil
  | @cons v d vs ds h t ih =>
    intro xs e
    cases d with
    | dat x =>
      obtain ⟨ys, e1, rfl⟩ := dats_cons e
      exact .cons h (ih e1)
    | own k => cases e
    | scr ns => cases e
theorem dats_map : ∀ xs : List PyData, dats (xs.map Vd.dat) = some xs
  | [] => rfl
  | x :: xs => by
    show (dats (xs.map Vd.dat)).map (x :: ·) = _
    rw [dats_map xs] <;> rfl
theorem VRs.of_da {K : PySem.W.Frag} {F : Hp} {as : List Addr} : ∀ {vs : List V} {xs : List PyData}, DaAll K F vs xs → VRs K F as vs (xs.map Vd.dat)
  | _, [], h => by cases h; exact .nil
  | _, x :: xs, h => by
    cases h with
    | cons h1 h2 => exact .cons h1 (VRs.of_da h2)

structure Rl (K : PySem.W.Frag) (F : Hp) (as : List Addr) (H : Hp) (T : Tab) : Prop where
  ex : Ext F H
  len : as.length = T.length
  nd : as.Nodup
  there : ∀ (k : Nat) (a : Addr), as[k]? = some a → ∃ o, H a = some o
  own : ∀ (k : Nat) (a : Addr) (xs : List Vd), as[k]? = some a → T[k]? = some (some xs) → F a = none ∧ ∃ vs, H a = some (.lst vs) ∧ VRs K F as vs xs
section
variable {K : PySem.W.Frag} {F F' H : Hp} {as as' : List Addr} {T : Tab} {p : Addr}
theorem Rl.free (r : Rl K F as H T) (h : H p = none) : F p = none := by
  cases e : F p with
  | none => rfl
  | some o =>
    rw [r.ex p o e] at h
    cases h
/-- something new that is known no more -/
theorem Rl.junk {o : HO} (r : Rl K F as H T) (h : H p = none) : Rl K F as (upd H p o) T where
  ex := r.ex.trans (Ext.new h)
  len := r.len
  nd := r.nd
  there := fun k a e => by
    obtain ⟨u, q⟩ := r.there k a e
    exact ⟨u, Ext.new h a u q⟩
  own := fun k a xs e t => by
    obtain ⟨h1, vs, h2, h3⟩ := r.own k a xs e t
    exact ⟨h1, vs, Ext.new h a _ h2, h3⟩
/-- a new object of data -/
theorem Rl.dat {o : HO} (r : Rl K F as H T) (h : H p = none) : Rl K (upd F p o) as (upd H p o) T ∧ Gr F as (upd F p o) as := by
  have hf := r.free h
  have g : Gr F as (upd F p o) as := ⟨Ext.new hf, fun _ _ e => e⟩
  refine ⟨⟨fun a u e => ?_, r.len, r.nd, fun k a e => ?_, fun k a xs e t => ?_⟩, g⟩
  · by_cases ha : a = p
    · subst ha
      rw [upd_same] at e ⊢
      exact e
    · rw [upd_ne ha] at e ⊢
      exact r.ex a u e
  · obtain ⟨u, q⟩ := r.there k a e
    exact ⟨u, Ext.new h a u q⟩
  · obtain ⟨h1, vs, h2, h3⟩ := r.own k a xs e t
    have hn : a ≠ p := ne_of_none h2 h
    exact ⟨by rw [upd_ne hn]; exact h1, vs, Ext.new h a _ h2, VRs.mono g h3⟩
theorem get_snoc {α : Type} {l : List α} {x y : α} {k : Nat} (h : (l ++ [x])[k]? = some y) : l[k]? = some y ∨ (k = l.length ∧ y = x) := by
  by_cases hk : k < l.length
  · rw [List.getElem?_append_left hk] at h
    exact .inl h
  · rw [List.getElem?_append_right (by omega)] at h
    have : k - l.length = 0 := by
      by_cases q : k - l.length = 0
      · exact q
      · rw [List.getElem?_eq_none (by simp; omega)] at h
        cases h
    rw [this] at h
    exact .inr ⟨by omega, by simpa using h.symm⟩
/-- a new list of one's own -/
theorem Rl.new {vs : List V} {xs : List Vd} (r : Rl K F as H T) (h : H p = none) (hv : VRs K F as vs xs) : Rl K F (as ++ [p]) (upd H p (.lst vs)) (T ++ [some xs]) ∧ Gr F as F (as ++ [p]) ∧ (as ++ [p])[T.length]? = some p := by
  have hf := r.free h
  have g : Gr F as F (as ++ [p]) := ⟨Ext.refl F, fun k a e => by
    obtain ⟨hk, _⟩ := List.getElem?_eq_some_iff.mp e
    rw [List.getElem?_append_left hk]
    exact e⟩
  refine ⟨⟨r.ex.trans (Ext.new h), by simp [r.len], ?_, fun k a e => ?_, fun k a ys e t => ?_⟩, g, by rw [← r.len]; simp⟩
  · refine List.nodup_append.mpr ⟨r.nd, by simp, fun a ha b hb => ?_⟩
    have : b = p := by simpa using hb
    subst this
    obtain ⟨k, hk⟩ := List.mem_iff_getElem?.mp ha
    obtain ⟨u, q⟩ := r.there k a hk
    exact ne_of_none q h
  · rcases get_snoc e with e | ⟨_, rfl⟩
    · obtain ⟨u, q⟩ := r.there k a e
      exact ⟨u, Ext.new h a u q⟩
    · exact ⟨_, upd_same⟩
  · rcases get_snoc e with e | ⟨ek, rfl⟩
    · have hk : k < T.length := by
        obtain ⟨hk, _⟩ := List.getElem?_eq_some_iff.mp e
        rw [← r.len]
        exact hk
      rw [List.getElem?_append_left hk] at t
      obtain ⟨h1, ws, h2, h3⟩ := r.own k a ys e t
      exact ⟨h1, ws, Ext.new h a _ h2, VRs.mono g h3⟩
    · rw [ek, r.len] at t
      have : xs = ys := by simpa using t
      subst this
      exact ⟨hf, vs, upd_same, VRs.mono g hv⟩
theorem Rl.ix {k : Nat} {o : Option (List Vd)} (r : Rl K F as H T) (h : T[k]? = some o) : ∃ a, as[k]? = some a := by
  obtain ⟨hk, _⟩ := List.getElem?_eq_some_iff.mp h
  have hk2 : k < as.length := by rw [r.len]; exact hk
  exact ⟨as[k], List.getElem?_eq_getElem hk2⟩
theorem nd_ix {l : List Addr} (h : l.Nodup) {i j : Nat} {a : Addr} (hi : l[i]? = some a) (hj : l[j]? = some a) : i = j := by
  obtain ⟨h1, e1⟩ := List.getElem?_eq_some_iff.mp hi
  obtain ⟨h2, e2⟩ := List.getElem?_eq_some_iff.mp hj
  rcases Nat.lt_trichotomy i j with q | q | q
  · exact absurd (e1.trans e2.symm) (List.pairwise_iff_getElem.mp h i j h1 h2 q)
  · exact q
  · exact absurd (e2.trans e1.symm) (List.pairwise_iff_getElem.mp h j i h2 h1 q)
/-- a list of one's own is changed -/
theorem Rl.put {k : Nat} {a : Addr} {xs ys : List Vd} {vs : List V} (r : Rl K F as H T) (ha : as[k]? = some a) (ht : T[k]? = some (some xs)) (hv : VRs K F as vs ys) : Rl K F as (upd H a (.lst vs)) (T.set k (some ys)) := by
  have hf := (r.own k a xs ha ht).1
  refine ⟨fun b u e => ?_, by simp [r.len], r.nd, fun j b e => ?_, fun j b zs e t => ?_⟩
  · rw [upd_ne (ne_of_none e hf)]
    exact r.ex b u e
  · by_cases hb : b = a
    · subst hb
      exact ⟨_, upd_same⟩
    · rw [upd_ne hb]
      exact r.there j b e
  · by_cases hj : j = k
    · subst hj
      rw [ha] at e
      cases e
      have hlt : j < T.length := (List.getElem?_eq_some_iff.mp ht).1
      rw [List.getElem?_set_self hlt] at t
      have : ys = zs := by simpa using t
      subst this
      exact ⟨hf, vs, upd_same, hv⟩
    · rw [List.getElem?_set_ne (Ne.symm hj)] at t
      obtain ⟨h1, ws, h2, h3⟩ := r.own j b zs e t
      have hne : b ≠ a := fun q => hj (nd_ix r.nd e (q ▸ ha))
      exact ⟨h1, ws, by rw [upd_ne hne]; exact h2, h3⟩
/-- a list of one's own is frozen -/
theorem Rl.freeze {k : Nat} {a : Addr} {xs : List Vd} {ds : List PyData} (r : Rl K F as H T) (ha : as[k]? = some a) (ht : T[k]? = some (some xs)) (hd : dats xs = some ds) :
    ∃ F', Gr F as F' as ∧ Rl K F' as H (T.set k none) ∧ Da K F' (.ref a) (.list ds) := by
  obtain ⟨hf, vs, hH, hv⟩ := r.own k a xs ha ht
  have g : Gr F as (upd F a (.lst vs)) as := ⟨Ext.new hf, fun _ _ e => e⟩
  refine ⟨upd F a (.lst vs), g, ⟨fun b u e => ?_, by simp [r.len], r.nd, r.there, fun j b zs e t => ?_⟩, .lst upd_same (DaAll.mono g.ex (VRs.da hv hd))⟩
  · by_cases hb : b = a
    · subst hb
      rw [upd_same] at e
      cases e
      exact hH
    · rw [upd_ne hb] at e
      exact r.ex b u e
  · by_cases hj : j = k
    · subst hj
      have hlt : j < T.length := (List.getElem?_eq_some_iff.mp ht).1
      rw [List.getElem?_set_self hlt] at t
      cases t
    · rw [List.getElem?_set_ne (Ne.symm hj)] at t
      obtain ⟨h1, ws, h2, h3⟩ := r.own j b zs e t
      have hne : b ≠ a := fun q => hj (nd_ix r.nd e (q ▸ ha))
      exact ⟨by rw [upd_ne hne]; exact h1, ws, h2, VRs.mono g h3⟩
end
/-- no entry below n names one from n on -/
def below (n : Nat) : Vd → Bool
  | .own k => decide (k < n)
  | _ => true
def closed (n : Nat) (T : Tab) : Bool := (T.take n).all fun e => match e with
  | some xs => xs.all (below n)
  | none => true
theorem VR.cut {K : PySem.W.Frag} {F : Hp} {as : List Addr} {n : Nat} {v : V} : ∀ {d : Vd}, VR K F as v d → below n d = true → VR K F (as.take n) v d
  | .dat _, h, _ => h
  | .own k, ⟨a, h, e⟩, b => ⟨a, by rw [List.getElem?_take_of_lt (of_decide_eq_true b)]; exact h, e⟩
  | .scr ns, h, _ => h
theorem VRs.cut {K : PySem.W.Frag} {F : Hp} {as : List Addr} {n : Nat} : ∀ {vs : List V} {ds : List Vd}, VRs K F as vs ds → ds.all (below n) = true → VRs K F (as.take n) vs ds
  | _, _, .nil, _ => .nil
  | _, _, .cons r t, b => by
    rw [List.all_cons, Bool.and_eq_true] at b
    exact .cons (VR.cut r b.1) (VRs.cut t b.2)
theorem Rl.cut {K : PySem.W.Frag} {F H : Hp} {as : List Addr} {T : Tab} (r : Rl K F as H T) (n : Nat) (c : closed n T = true) : Rl K F (as.take n) H (T.take n) := by
  have get : ∀ {k : Nat} {a : Addr}, (as.take n)[k]? = some a → k < n ∧ as[k]? = some a := fun {k a} h => by
    have hk : k < n := by
      obtain ⟨q, _⟩ := List.getElem?_eq_some_iff.mp h
      rw [List.length_take] at q
      omega
    rw [List.getElem?_take_of_lt hk] at h
    exact ⟨hk, h⟩
  refine ⟨r.ex, by rw [List.length_take, List.length_take, r.len], r.nd.sublist (List.take_sublist _ _), fun k a e => r.there k a (get e).2, fun k a xs e t => ?_⟩
  obtain ⟨hk, e'⟩ := get e
  have t' : T[k]? = some (some xs) := by rw [List.getElem?_take_of_lt hk] at t; exact t
  obtain ⟨h1, vs, h2, h3⟩ := r.own k a xs e' t'
  refine ⟨h1, vs, h2, VRs.cut h3 ?_⟩
  have q := List.all_eq_true.mp c (some xs) (List.mem_of_getElem? t)
  exact q
theorem Gr.cut {F F' : Hp} {as as' : List Addr} {n : Nat} (g : Gr F as F' as') (h : as.length ≤ n) : Gr F as F' (as'.take n) := ⟨g.ex, fun k a e => by
  have hk : k < n := by
    obtain ⟨q, _⟩ := List.getElem?_eq_some_iff.mp e
    omega
  rw [List.getElem?_take_of_lt hk]
  exact g.pre k a e⟩

/-! ### what a result promises -/
def Po {α : Type} (K : PySem.W.Frag) (F : Hp) (as : List Addr) (r : Re α) (q : α → Hp → List Addr → Hp → Tab → Prop) (e : Nat → Hp → Prop) : Prop := match r with
  | .ok a T' => ∀ F' as' H', Gr F as F' as' → Rl K F' as' H' T' → q a F' as' H' T'
  | .er c T' => ∀ F' as' H', Gr F as F' as' → Rl K F' as' H' T' → e c H'
  | .bad => False
section
variable {α β : Type} {K : PySem.W.Frag} {F F' H : Hp} {as as' : List Addr} {T : Tab} {r : Re α} {q q1 : α → Hp → List Addr → Hp → Tab → Prop} {e e1 : Nat → Hp → Prop}
theorem Po.grow (g : Gr F as F' as') (h : Po K F as r q e) : Po K F' as' r q e := by
  cases r with
  | ok a T' => exact fun F1 as1 H1 g1 rl => h F1 as1 H1 (g.trans g1) rl
  | er c T' => exact fun F1 as1 H1 g1 rl => h F1 as1 H1 (g.trans g1) rl
  | bad => exact h
theorem Po.imp (h : Po K F as r q e) (h1 : ∀ a F' as' H' T', q a F' as' H' T' → q1 a F' as' H' T') (h2 : ∀ c H', e c H' → e1 c H') : Po K F as r q1 e1 := by
  cases r with
  | ok a T' => exact fun F1 as1 H1 g1 rl => h1 _ _ _ _ _ (h F1 as1 H1 g1 rl)
  | er c T' => exact fun F1 as1 H1 g1 rl => h2 _ _ (h F1 as1 H1 g1 rl)
  | bad => exact h
theorem Po.seq {r : Re α} {k : α → Tab → Re β} {q : β → Hp → List Addr → Hp → Tab → Prop} (po : Po K F as (r.bd k) q e)
    (h : ∀ a T1 F1 as1 H1, Gr F as F1 as1 → Rl K F1 as1 H1 T1 → Po K F1 as1 (k a T1) q e → q1 a F1 as1 H1 T1) (he : ∀ c H', e c H' → e1 c H') : Po K F as r q1 e1 := by
  cases r with
  | ok a T' => exact fun F1 as1 H1 g1 rl => h a T' F1 as1 H1 g1 rl (Po.grow g1 po)
  | er c T' => exact fun F1 as1 H1 g1 rl => he _ _ (po F1 as1 H1 g1 rl)
  | bad => exact po
theorem Po.at {a : α} (h : Po K F as (.ok a T) q e) (rl : Rl K F as H T) : q a F as H T := h F as H Gr.refl rl
end
def SR (K : PySem.W.Frag) (F : Hp) (as : List Addr) (σ : L2.St) (ρ : Rho) : Prop := σ.length = ρ.length ∧ ∀ (i : Nat) (d : Vd), ρ[i]? = some (some d) → ∃ v, σ[i]? = some (some v) ∧ VR K F as v d
section
variable {K : PySem.W.Frag} {F F' H : Hp} {as as' : List Addr} {σ : L2.St} {ρ : Rho}
theorem SR.mono (g : Gr F as F' as') (h : SR K F as σ ρ) : SR K F' as' σ ρ := ⟨h.1, fun i d e => by
  obtain ⟨v, h1, h2⟩ := h.2 i d e
  exact ⟨v, h1, VR.mono g h2⟩⟩
theorem SR.set {v : V} {d : Vd} (h : SR K F as σ ρ) (i : Nat) (r : VR K F as v d) : SR K F as (σ.set i (some v)) (ρ.set i (some d)) := ⟨by simp [h.1], fun j c e => by
  by_cases hj : i = j
  · subst hj
    have hlt : i < ρ.length := by
      have := (List.getElem?_eq_some_iff.mp e).1
      simpa using this
    rw [List.getElem?_set_self hlt] at e
    have : d = c := by simpa using e
    subst this
    exact ⟨v, by rw [List.getElem?_set_self (by rw [h.1]; exact hlt)], r⟩
  · rw [List.getElem?_set_ne hj] at e ⊢
    exact h.2 j c e⟩
theorem SR.wipe (h : SR K F as σ ρ) (i : Nat) : SR K F as (σ.set i none) (ρ.set i none) := ⟨by simp [h.1], fun j c e => by
  by_cases hj : i = j
  · subst hj
    by_cases hlt : i < ρ.length
    · rw [List.getElem?_set_self hlt] at e
      cases e
    · rw [List.getElem?_eq_none (by simpa using hlt)] at e
      cases e
  · rw [List.getElem?_set_ne hj] at e ⊢
    exact h.2 j c e⟩
end
/-! ### mirrors of expressions, tests, arguments, statements -/
abbrev ME := Rho → Tab → Re Vd
abbrev MA := Rho → Tab → Re (List Vd)
inductive Fl where
  | nx (ρ : Rho)
  | rt (d : Vd)
abbrev MS := Rho → Tab → Re Fl
abbrev Cl := Nat → Value
def rE (K : PySem.W.Frag) (cl : Cl) (W : WX) (m : ME) : TE := fun σ H Q => ∃ F as ρ T, Rl K F as H T ∧ SR K F as σ ρ ∧ Po K F as (m ρ T) (fun d F' as' H' _ => ∀ v, VR K F' as' v d → Q v H') fun c H' => W (cl c) none σ H'
def rT (K : PySem.W.Frag) (cl : Cl) (W : WX) (m : ME) : TT := fun σ H Q => ∃ F as ρ T, Rl K F as H T ∧ SR K F as σ ρ ∧ Po K F as (m ρ T) (fun d F' as' H' _ => ∃ b, d = .dat (.bool b) ∧ Q b H') fun c H' => W (cl c) none σ H'
def rA (K : PySem.W.Frag) (cl : Cl) (W : WX) (m : MA) : TA := fun σ H Q => ∃ F as ρ T, Rl K F as H T ∧ SR K F as σ ρ ∧ Po K F as (m ρ T) (fun ds F' as' H' _ => ∀ vs, VRs K F' as' vs ds → Q vs H') fun c H' => W (cl c) none σ H'
def flQ (K : PySem.W.Frag) (D : Ends) (fl : Fl) (F' : Hp) (as' : List Addr) (H' : Hp) : Prop := match fl with
  | .nx ρ' => ∀ σ', SR K F' as' σ' ρ' → D.nx σ' H'
  | .rt d => ∀ v, VR K F' as' v d → D.rt v H'
def rS (K : PySem.W.Frag) (cl : Cl) (W : WX) (m : MS) : TS := fun D σ H => ∃ F as ρ T, Rl K F as H T ∧ SR K F as σ ρ ∧ Po K F as (m ρ T) (fun fl F' as' H' _ => flQ K D fl F' as' H') fun c H' => ∀ σ', W (cl c) none σ' H'
/-- another reading for the same code -/
theorem PE.by {X : Cx} {e : Expr} {t t' : TE} (h : PE X e t) (i : ∀ σ H Q, t' σ H Q → t σ H Q) : PE X e t' := ⟨fun pins s σ H Q I q => h.run pins s σ H Q I (i σ H Q q)⟩
theorem PT.by {X : Cx} {e : Expr} {t t' : TT} (h : PT X e t) (i : ∀ σ H Q, t' σ H Q → t σ H Q) : PT X e t' := ⟨fun pins s σ H Q I q => h.run pins s σ H Q I (i σ H Q q)⟩
theorem PA.by {X : Cx} {e : List Expr} {t t' : TA} (h : PA X e t) (i : ∀ σ H Q, t' σ H Q → t σ H Q) : PA X e t' := ⟨fun pos pins s σ H Q I q => h.run pos pins s σ H Q I (i σ H Q q)⟩
theorem PS.by {X : Cx} {e : Stmt} {t t' : TS} (h : PS X e t) (i : ∀ D σ H, t' D σ H → t D σ H) : PS X e t' := ⟨fun pins s σ H D I q => h.run pins s σ H D I (i D σ H q)⟩
theorem PSs.by {X : Cx} {e : List Stmt} {t t' : TS} (h : PSs X e t) (i : ∀ D σ H, t' D σ H → t D σ H) : PSs X e t' := ⟨fun pins s σ H D I q => h.run pins s σ H D I (i D σ H q)⟩
end Hr
set_option Elab.async false
set_option linter.all false
set_option maxRecDepth 100000
set_option maxHeartbeats 4000000
namespace Hr
open PySem PySem.Spec PyProof.Rows L2
/-! ### mirrors -/
def mVar (i : Nat) : ME := fun ρ T => match ρ[i]? with
  | some (some d) => .ok d T
  | _ => .bad
def mC (x : PyData) : ME := fun _ T => .ok (.dat x) T
def m1 (f : Vd → Tab → Re Vd) (a : ME) : ME := fun ρ T => (a ρ T).bd f
def m2 (f : Vd → Vd → Tab → Re Vd) (a b : ME) : ME := fun ρ T => (a ρ T).bd fun x T => (b ρ T).bd fun y T => f x y T
def mAnd (a b : ME) : ME := fun ρ T => (a ρ T).bd fun x T => match x with
  | .dat (.bool true) => b ρ T
  | .dat (.bool false) => .ok (.dat (.bool false)) T
  | _ => .bad
def mOr (a b : ME) : ME := fun ρ T => (a ρ T).bd fun x T => match x with
  | .dat (.bool true) => .ok (.dat (.bool true)) T
  | .dat (.bool false) => b ρ T
  | _ => .bad
def fNot : Vd → Tab → Re Vd := fun x T => match x with
  | .dat (.bool b) => .ok (.dat (.bool (!b))) T
  | _ => .bad
def mNot (a : ME) : ME := m1 fNot a
def mIf (t a b : ME) : ME := fun ρ T => (t ρ T).bd fun x T => match x with
  | .dat (.bool true) => a ρ T
  | .dat (.bool false) => b ρ T
  | _ => .bad
def mNil : MA := fun _ T => .ok [] T
def mCons (a : ME) (r : MA) : MA := fun ρ T => (a ρ T).bd fun x T => (r ρ T).bd fun xs T => .ok (x :: xs) T
def mN (f : List Vd → Tab → Re Vd) (a : MA) : ME := fun ρ T => (a ρ T).bd f
def mChain (f g : Vd → Vd → Tab → Re Vd) (a b c : ME) : ME := fun ρ T => (a ρ T).bd fun x T => (b ρ T).bd fun y T => (f x y T).bd fun z T => match z with
  | .dat (.bool true) => (c ρ T).bd fun w T => g y w T
  | .dat (.bool false) => .ok (.dat (.bool false)) T
  | _ => .bad
/-- the items of a list, of a tuple -/
def itemsOf (x : Vd) (T : Tab) : Option (List Vd) := match x with
  | .dat (.list xs) => some (xs.map Vd.dat)
  | .dat (.tuple xs) => some (xs.map Vd.dat)
  | .own k => match T[k]? with
    | some (some xs) => some xs
    | _ => none
  | .scr ns => some (ns.map fun n => Vd.dat (.int n))
  | _ => none
def fI (c : Int → Int → Bool) (g : Int → Int → PyData) : Vd → Vd → Tab → Re Vd := fun x y T => match x, y with
  | .dat (.int i), .dat (.int j) => if c i j = true then .ok (.dat (g i j)) T else .bad
  | _, _ => .bad
def cTrue : Int → Int → Bool := fun _ _ => true
def cMul : Int → Int → Bool := fun i j => decide (-(2 ^ 64) < i ∧ i < 2 ^ 64) || decide (-(2 ^ 64) < j ∧ j < 2 ^ 64)
def cPos : Int → Int → Bool := fun _ j => decide (0 < j)
def cDiv : Int → Int → Bool := fun _ j => decide (0 < j ∧ j < 1073741824)
def cPow : Int → Int → Bool := fun i j => decide (0 ≤ j ∧ j ≤ 1000000 ∧ i.natAbs < 2 ^ 64)
abbrev fAdd := fI cTrue fun i j => .int (i + j)
abbrev fSub := fI cTrue fun i j => .int (i - j)
abbrev fMul := fI cMul fun i j => .int (i * j)
abbrev fMod := fI cPos fun i j => .int (i % j)
abbrev fDiv := fI cDiv fun i j => .int (i / j)
abbrev fPow := fI cPow fun i j => .int (i ^ j.toNat)
abbrev fLt := fI cTrue fun i j => .bool (decide (i < j))
abbrev fLe := fI cTrue fun i j => .bool (decide (i ≤ j))
abbrev fGt := fI cTrue fun i j => .bool (decide (j < i))
abbrev fGe := fI cTrue fun i j => .bool (decide (j ≤ i))
/-- one of the two is not deep -/
def shal (d e : PyData) : Bool := decide (d.depth ≤ 60) || decide (e.depth ≤ 60)
def fEq (neg : Bool) : Vd → Vd → Tab → Re Vd := fun x y T => match x, y with
  | .dat d, .dat e => if shal d e = true then .ok (.dat (.bool (if neg then !PyData.eqv d e else PyData.eqv d e))) T else .bad
  | _, _ => .bad
def fIn (neg : Bool) : Vd → Vd → Tab → Re Vd := fun x y T => match x, y with
  | .dat d, .dat (.tuple xs) => if d.depth ≤ 60 then .ok (.dat (.bool (if neg then !(xs.any fun e => PyData.eqv e d) else xs.any fun e => PyData.eqv e d))) T else .bad
  | _, _ => .bad
def fSign : Vd → Vd → Tab → Re Vd := fun x y T => match x, y with
  | .dat (.str c), .dat (.str z) => match c.cps.toList with
    | [k] => .ok (.dat (.bool (decide (k ∈ z.cps.toList)))) T
    | _ => .bad
  | _, _ => .bad
def isNone : Vd → Bool
  | .dat .none => true
  | _ => false
def fIsN (neg : Bool) : Vd → Tab → Re Vd := fun x T => .ok (.dat (.bool (if neg then !isNone x else isNone x))) T
def fIx : Vd → Vd → Tab → Re Vd := fun x y T => match y with
  | .dat (.int i) => match itemsOf x T with
    | some xs => match atI xs i with
      | some d => .ok d T
      | none => .bad
    | none => .bad
  | _ => .bad
/-! ### soundness of operations by values -/
def OpS (K : PySem.W.Frag) (r : R2) (f : Vd → Vd → Tab → Re Vd) : Prop := ∀ (F : Hp) (as : List Addr) (H : Hp) (T : Tab) (x y : V) (d e : Vd) (Q : VK) (ew : Nat → Hp → Prop), Rl K F as H T → VR K F as x d → VR K F as y e →
  Po K F as (f d e T) (fun d' F' as' H' _ => ∀ v, VR K F' as' v d' → Q v H') ew → r x y H Q
def UnS (K : PySem.W.Frag) (r : V → Hp → VK → Prop) (f : Vd → Tab → Re Vd) : Prop := ∀ (F : Hp) (as : List Addr) (H : Hp) (T : Tab) (x : V) (d : Vd) (Q : VK) (ew : Nat → Hp → Prop), Rl K F as H T → VR K F as x d →
  Po K F as (f d T) (fun d' F' as' H' _ => ∀ v, VR K F' as' v d' → Q v H') ew → r x H Q
def CaS (K : PySem.W.Frag) (r : List V → Hp → VK → Prop) (f : List Vd → Tab → Re Vd) : Prop := ∀ (F : Hp) (as : List Addr) (H : Hp) (T : Tab) (vs : List V) (ds : List Vd) (Q : VK) (ew : Nat → Hp → Prop), Rl K F as H T → VRs K F as vs ds →
  Po K F as (f ds T) (fun d' F' as' H' _ => ∀ v, VR K F' as' v d' → Q v H') ew → r vs H Q
section
variable {K : PySem.W.Frag} {F H : Hp} {as : List Addr} {T : Tab} {x : V}
theorem items_l (rl : Rl K F as H T) : ∀ {d : Vd} {xs : List Vd}, VR K F as x d → itemsOf d T = some xs → ∃ p vs, x = .ref p ∧ (SqL K H p vs ∨ SqT K H p vs) ∧ VRs K F as vs xs
  | .dat (.list ds), xs, h, e => by
    cases e
    cases h with
    | lst hs ha => exact ⟨_, _, rfl, .inl (SqL.of (rl.ex _ _ hs)), VRs.of_da ha⟩
  | .dat (.tuple ds), xs, h, e => by
    cases e
    cases h with
    | tup hs ha => exact ⟨_, _, rfl, .inr (rl.ex.tup hs), VRs.of_da ha⟩
  | .own k, xs, ⟨a, ha, hx⟩, e => by
    have e2 : (match T[k]? with
      | some (some xs) => some xs
      | _ => none) = some xs := e
    cases q : T[k]? with
    | none => rw [q] at e2; cases e2
    | some o =>
      rw [q] at e2
      cases o with
      | none => cases e2
      | some ys =>
        cases e2
        obtain ⟨_, vs, hH, hv⟩ := rl.own k a _ ha q
        exact ⟨a, vs, hx, .inl (SqL.of hH), hv⟩
  | .scr ns, xs, ⟨a, hx, hs⟩, e => by
    cases e
    refine ⟨a, _, hx, .inl (rl.ex.seq hs), ?_⟩
    clear hs
    induction ns with
    | nil => exact .nil
    | cons n ns ih => exact .cons (Da.int n) ih
  | .dat .none, _, _, e => by cases e
  | .dat (.bool _), _, _, e => by cases e
  | .dat (.int _), _, _, e => by cases e
  | .dat (.str _), _, _, e => by cases e
  | .dat (.dict _), _, _, e => by cases e
theorem VRs.atI {vs : List V} {xs : List Vd} {i : Int} {d : Vd} (h : VRs K F as vs xs) (e : L2.atI xs i = some d) : ∃ v, L2.atI vs i = some v ∧ VR K F as v d := by
  unfold L2.atI at e ⊢
  rw [h.len]
  cases q : ixN xs.length i with
  | none => rw [q] at e; cases e
  | some j =>
    rw [q] at e
    obtain ⟨v, h1, h2⟩ := h.get (show xs[j]? = some d from e)
    exact ⟨v, h1, h2⟩
theorem ops_I {C : Int → Int → Prop} {c : Int → Int → Bool} {gv : Int → Int → V} {g : Int → Int → PyData} (hc : ∀ i j, c i j = true → C i j) (hg : ∀ i j F, Da K F (gv i j) (g i j)) : OpS K (rI C gv) (fI c g) := by
  intro F as H T x y d e Q ew rl hx hy po
  unfold fI at po
  split at po
  · split at po
    · rename_i i j hh
      cases hx
      cases hy
      exact ⟨i, j, rfl, rfl, hc i j hh, po F as H Gr.refl rl _ (hg i j F)⟩
    · exact po.elim
  · exact po.elim
theorem ops_I0 {gv : Int → Int → V} {g : Int → Int → PyData} (hg : ∀ i j F, Da K F (gv i j) (g i j)) : OpS K (rI0 gv) (fI cTrue g) := by
  intro F as H T x y d e Q ew rl hx hy po
  obtain ⟨i, j, h1, h2, _, q⟩ := ops_I (C := fun _ _ => True) (c := cTrue) (gv := gv) (fun _ _ _ => trivial) hg F as H T x y d e Q ew rl hx hy po
  exact ⟨i, j, h1, h2, q⟩
theorem ops_add : OpS K (rI0 fun i j => .int (i + j)) fAdd := ops_I0 fun i j F => .int _
theorem ops_sub : OpS K (rI0 fun i j => .int (i - j)) fSub := ops_I0 fun i j F => .int _
theorem ops_mul : OpS K (rI CMul fun i j => .int (i * j)) fMul := ops_I (fun i j h => by
  unfold cMul at h
  rw [Bool.or_eq_true] at h
  exact h.imp of_decide_eq_true of_decide_eq_true) fun i j F => .int _
theorem ops_mod : OpS K (rI (fun _ j => 0 < j) fun i j => .int (i % j)) fMod := ops_I (fun i j h => of_decide_eq_true h) fun i j F => .int _
theorem ops_div : OpS K (rI CDiv fun i j => .int (i / j)) fDiv := ops_I (fun i j h => (of_decide_eq_true h : 0 < j ∧ j < 1073741824)) fun i j F => .int _
theorem ops_pow : OpS K (rI CPow fun i j => .int (i ^ j.toNat)) fPow := ops_I (fun i j h => (of_decide_eq_true h : 0 ≤ j ∧ j ≤ 1000000 ∧ i.natAbs < 2 ^ 64)) fun i j F => .int _
theorem ops_lt : OpS K (rI0 fun i j => .bl (decide (i < j))) fLt := ops_I0 fun i j F => .bl _
theorem ops_le : OpS K (rI0 fun i j => .bl (decide (i ≤ j))) fLe := ops_I0 fun i j F => .bl _
theorem ops_gt : OpS K (rI0 fun i j => .bl (decide (j < i))) fGt := ops_I0 fun i j F => .bl _
theorem ops_ge : OpS K (rI0 fun i j => .bl (decide (j ≤ i))) fGe := ops_I0 fun i j F => .bl _
/-! == and != of data; in a tuple -/
def rEqP (K : PySem.W.Frag) (neg : Bool) : R2 := fun x y H Q => ∃ d e, Dp K H x d ∧ Dp K H y e ∧ d.plain = true ∧ e.plain = true ∧ min d.depth e.depth ≤ 60 ∧ Q (.bl (if neg then !PyData.eqv d e else PyData.eqv d e)) H
theorem op_eqP {X : Cx} (hu : X.A.units + 64 < cLine) : OpR X (compareOp .Eq) (rEqP X.K false) := by
  intro pins s σ H x y v u Q I rx ry h
  obtain ⟨d, e, hd, he, pd, pe, sh, q⟩ := h
  obtain ⟨as, r1⟩ := Dp.reads I d x v hd rx
  obtain ⟨bs, r2⟩ := Dp.reads I e y u he ry
  exact SeqAt.eq_plain r1 r2 pd pe (by omega) ⟨.bl _, H, I, rfl, q⟩
theorem op_neP {X : Cx} (hu : X.A.units + 64 < cLine) : OpR X (compareOp .NotEq) (rEqP X.K true) := by
  intro pins s σ H x y v u Q I rx ry h
  obtain ⟨d, e, hd, he, pd, pe, sh, q⟩ := h
  obtain ⟨as, r1⟩ := Dp.reads I d x v hd rx
  obtain ⟨bs, r2⟩ := Dp.reads I e y u he ry
  exact SeqAt.ne_plain r1 r2 pd pe (by omega) ⟨.bl _, H, I, rfl, q⟩
theorem ops_eq {neg : Bool} : OpS K (rEqP K neg) (fEq neg) := by
  intro F as H T x y d e Q ew rl hx hy po
  unfold fEq at po
  split at po
  · split at po
    · rename_i a b hh
      unfold shal at hh
      rw [Bool.or_eq_true] at hh
      have sh : min a.depth b.depth ≤ 60 := by
        rcases hh with h | h
        · have := of_decide_eq_true h
          omega
        · have := of_decide_eq_true h
          omega
      exact ⟨a, b, Da.dp (Da.mono rl.ex hx), Da.dp (Da.mono rl.ex hy), Da.plain hx, Da.plain hy, sh, po F as H Gr.refl rl _ (Da.bl _)⟩
    · exact po.elim
  · exact po.elim
def rInP (K : PySem.W.Frag) (neg : Bool) : R2 := fun x y H Q => ∃ d xs, Dp K H x d ∧ Dp K H y (.tuple xs) ∧ d.plain = true ∧ PyData.plainAll xs = true ∧ d.depth ≤ 60 ∧ Q (.bl (if neg then !(xs.any fun e => PyData.eqv e d) else xs.any fun e => PyData.eqv e d)) H
theorem op_inP {X : Cx} (hu : X.A.units + 64 < cLine) : OpR X (compareOp .In) (rInP X.K false) := by
  intro pins s σ H x y v u Q I rx ry h
  obtain ⟨d, xs, hd, he, pd, pe, sh, q⟩ := h
  obtain ⟨as, r1⟩ := Dp.reads I d x v hd rx
  obtain ⟨bs, r2⟩ := Dp.reads I (.tuple xs) y u he ry
  exact SeqAt.in_tuple_data r2 r1 pe pd (by omega) ⟨.bl _, H, I, rfl, q⟩
theorem op_notInP {X : Cx} (hu : X.A.units + 64 < cLine) : OpR X (compareOp .NotIn) (rInP X.K true) := by
  intro pins s σ H x y v u Q I rx ry h
  obtain ⟨d, xs, hd, he, pd, pe, sh, q⟩ := h
  obtain ⟨as, r1⟩ := Dp.reads I d x v hd rx
  obtain ⟨bs, r2⟩ := Dp.reads I (.tuple xs) y u he ry
  exact SeqAt.notIn_tuple_data r2 r1 pe pd (by omega) ⟨.bl _, H, I, rfl, q⟩
theorem ops_in {neg : Bool} : OpS K (rInP K neg) (fIn neg) := by
  intro F as H T x y d e Q ew rl hx hy po
  unfold fIn at po
  split at po
  · split at po
    · rename_i a xs hh
      have hp : PyData.plainAll xs = true := by
        have := Da.plain hy
        simpa only [PyData.plain] using this
      exact ⟨a, xs, Da.dp (Da.mono rl.ex hx), Da.dp (Da.mono rl.ex hy), Da.plain hx, hp, hh, po F as H Gr.refl rl _ (Da.bl _)⟩
    · exact po.elim
  · exact po.elim
theorem ops_sign : OpS K (fun x y H Q => ∃ (c : Nat) (z : Str), x = .str ⟨#[c]⟩ ∧ y = .str z ∧ Q (.bl (decide (c ∈ z.cps.toList))) H) fSign := by
  intro F as H T x y d e Q ew rl hx hy po
  unfold fSign at po
  split at po
  · split at po
    · rename_i c z _ k hk
      cases hx
      cases hy
      have ec : c = ⟨#[k]⟩ := by
        obtain ⟨cps⟩ := c
        have : cps = #[k] := by
          have h2 : cps.toList = [k] := hk
          rw [← Array.toArray_toList (xs := cps), h2]
        rw [this]
      exact ⟨k, z, by rw [ec], rfl, po F as H Gr.refl rl _ (Da.bl _)⟩
    · exact po.elim
  · exact po.elim
theorem isNone_V {v : V} : ∀ {d : Vd}, VR K F as v d → decide (v = .non) = isNone d
  | .dat x, h => by cases h <;> first | rfl | decide
  | .own k, ⟨a, _, e⟩ => by subst e; rfl
  | .scr ns, ⟨a, e, _⟩ => by subst e; rfl
theorem ops_ix : OpS K (fun x y H Q => rIxL K x y H Q ∨ rIxT K x y H Q) fIx := by
  intro F as H T x y d e Q ew rl hx hy po
  unfold fIx at po
  split at po
  · rename_i i
    split at po
    · rename_i xs hxs
      split at po
      · rename_i d' hd'
        cases hy
        obtain ⟨p, vs, rfl, hs, hv⟩ := items_l rl hx hxs
        obtain ⟨v, h1, h2⟩ := VRs.atI hv hd'
        have q := po F as H Gr.refl rl v h2
        rcases hs with hs | hs
        · exact .inl ⟨p, vs, i, v, rfl, rfl, hs, h1, q⟩
        · exact .inr ⟨p, vs, i, v, rfl, rfl, hs, h1, q⟩
      · exact po.elim
    · exact po.elim
  · exact po.elim
end
/-! ### rules for expressions -/
section
variable {X : Cx} {cl : Cl} {W : WX} {a b c : Expr} {ma mb mc : ME} {pos : Pos} {f g : Vd → Vd → Tab → Re Vd} {r r' : R2}
theorem v_var (i : Nat) {x : Str} (hN : X.N[i]? = some x := by rfl) (hv : Vis X.env.scope x := by first | exact Or.inl rfl | exact Or.inr (Or.inl rfl) | exact Or.inr (Or.inr rfl)) (hd : (x == ("__debug__" : Str)) = false := by decide)
    (hcd : (x == ("__classdict__" : Str)) = false := by decide) : PE X (.Name x pos) (rE X.K cl W (mVar i)) := PE.by (pe_var hN hv hd hcd) fun σ H Q h => by
  obtain ⟨F, as, ρ, T, rl, sr, po⟩ := h
  unfold mVar at po
  split at po
  · rename_i d hd
    obtain ⟨v, h1, h2⟩ := sr.2 i d hd
    exact ⟨v, h1, po F as H Gr.refl rl v h2⟩
  · exact po.elim
theorem v_c {e : Expr} {v : V} {x : PyData} (h : PE X e (tC v)) (hx : ∀ F, Da X.K F v x) : PE X e (rE X.K cl W (mC x)) := PE.by h fun σ H Q h => by
  obtain ⟨F, as, ρ, T, rl, sr, po⟩ := h
  exact po F as H Gr.refl rl v (hx F)
theorem v_int {i : Int} {j} : PE X (.Constant (.int i) j pos) (rE X.K cl W (mC (.int i))) := v_c pe_int fun F => .int i
theorem v_bl {k : Bool} {j} : PE X (.Constant (.bool k) j pos) (rE X.K cl W (mC (.bool k))) := v_c pe_bl fun F => .bl k
theorem v_non {j} : PE X (.Constant .none j pos) (rE X.K cl W (mC .none)) := v_c pe_non fun F => .non
theorem v_str {x : Str} {j} : PE X (.Constant (.str x) j pos) (rE X.K cl W (mC (.str x))) := v_c pe_str fun F => .str x
theorem m2_op (hs : OpS X.K r f) (σ : L2.St) (H : Hp) (Q : VK) (h : rE X.K cl W (m2 f ma mb) σ H Q) : tOp r (rE X.K cl W ma) (rE X.K cl W mb) σ H Q := by
  obtain ⟨F, as, ρ, T, rl, sr, po⟩ := h
  refine ⟨F, as, ρ, T, rl, sr, Po.seq po (fun d T1 F1 as1 H1 g1 rl1 po1 v vr => ?_) fun c H' h => h⟩
  refine ⟨F1, as1, ρ, T1, rl1, sr.mono g1, Po.seq po1 (fun e T2 F2 as2 H2 g2 rl2 po2 u ur => ?_) fun c H' h => h⟩
  exact hs F2 as2 H2 T2 v u d e Q _ rl2 (VR.mono g2 vr) ur po2
theorem v_op {op : Operator} (ho : OpR X (binaryOp op) r) (hs : OpS X.K r f) (ha : PE X a (rE X.K cl W ma)) (hb : PE X b (rE X.K cl W mb)) : PE X (.BinOp a op b pos) (rE X.K cl W (m2 f ma mb)) :=
  PE.by (pe_op ho ha hb) (m2_op hs)
theorem v_cmp {op : CmpOp} (ho : OpR X (compareOp op) r) (hs : OpS X.K r f) (ha : PE X a (rE X.K cl W ma)) (hb : PE X b (rE X.K cl W mb)) (hm : behindInMarks op b = false := by first | exact nobehind _ (by decide) (by decide) | rfl) :
    PE X (.Compare a [op] [b] pos) (rE X.K cl W (m2 f ma mb)) := PE.by (pe_cmpR ho ha hb hm) (m2_op hs)
/-- what is wanted of a test, of its value -/
theorem rT_of {m : ME} {σ : L2.St} {H : Hp} {Q : Bool → Hp → Prop} (h : rT X.K cl W m σ H Q) : rE X.K cl W m σ H fun v H' => ∃ k, v = .bl k ∧ Q k H' := by
  obtain ⟨F, as, ρ, T, rl, sr, po⟩ := h
  refine ⟨F, as, ρ, T, rl, sr, Po.imp po (fun d F' as' H' T' h v vr => ?_) fun c H' h => h⟩
  obtain ⟨k, rfl, q⟩ := h
  cases vr
  exact ⟨k, rfl, q⟩
theorem t_cmp {op : CmpOp} (ho : OpR X (compareOp op) r) (hs : OpS X.K r f) (ha : PE X a (rE X.K cl W ma)) (hb : PE X b (rE X.K cl W mb)) (hm : behindInMarks op b = false := by first | exact nobehind _ (by decide) (by decide) | rfl) :
    PT X (.Compare a [op] [b] pos) (rT X.K cl W (m2 f ma mb)) := PT.by (pt_cmpR ho ha hb hm) fun σ H Q h => m2_op hs σ H _ (rT_of h)
theorem t_val {e : Expr} {m : ME} (h : PE X e (rE X.K cl W m)) (he : ∀ whole, isTrue e X.env whole = (do let v ← whole; standAt e.pos; holding [v] (truthy v)) := by intro _; rfl) : PT X e (rT X.K cl W m) :=
  PT.by (pt_val h he) fun σ H Q h => rT_of h
/-! is None -/
theorem v_isN {j pos'} (ha : PE X a (rE X.K cl W ma)) : PE X (.Compare a [.Is] [.Constant .none j pos'] pos) (rE X.K cl W (m1 (fIsN false) ma)) := PE.by (pe_cmp (pc_isN ha) rfl) fun σ H Q h => by
  obtain ⟨F, as, ρ, T, rl, sr, po⟩ := h
  refine ⟨F, as, ρ, T, rl, sr, Po.seq po (fun d T1 F1 as1 H1 g1 rl1 po1 v vr => ?_) fun c H' h => h⟩
  show Q (V.bl (decide (v = V.non))) H1
  rw [isNone_V vr]
  exact po1 F1 as1 H1 Gr.refl rl1 _ (Da.bl _)
theorem t_isN {j pos'} (ha : PE X a (rE X.K cl W ma)) : PT X (.Compare a [.Is] [.Constant .none j pos'] pos) (rT X.K cl W (m1 (fIsN false) ma)) := PT.by (pt_cmp (pc_isN ha) rfl) fun σ H Q h => by
  obtain ⟨F, as, ρ, T, rl, sr, po⟩ := rT_of h
  refine ⟨F, as, ρ, T, rl, sr, Po.seq po (fun d T1 F1 as1 H1 g1 rl1 po1 v vr => ?_) fun c H' h => h⟩
  show ∃ c, V.bl (decide (v = V.non)) = V.bl c ∧ Q c H1
  rw [isNone_V vr]
  exact po1 F1 as1 H1 Gr.refl rl1 _ (Da.bl _)
/-! and, or, not, if -/
section
variable {rest : List Expr}
theorem v_one {op} (h : PE X a (rE X.K cl W ma)) : PE X (.BoolOp op [a] pos) (rE X.K cl W ma) := pe_one h
theorem v_and (ha : PE X a (rE X.K cl W ma)) (hb : PE X (.BoolOp .And (b :: rest) pos) (rE X.K cl W mb)) : PE X (.BoolOp .And (a :: b :: rest) pos) (rE X.K cl W (mAnd ma mb)) := PE.by (pe_and ha hb) fun σ H Q h => by
  obtain ⟨F, as, ρ, T, rl, sr, po⟩ := h
  refine ⟨F, as, ρ, T, rl, sr, Po.seq po (fun d T1 F1 as1 H1 g1 rl1 po1 v vr => ?_) fun c H' h => h⟩
  split at po1
  · cases vr
    exact ⟨true, rfl, F1, as1, ρ, T1, rl1, sr.mono g1, po1⟩
  · cases vr
    exact ⟨false, rfl, po1 F1 as1 H1 Gr.refl rl1 _ (Da.bl _)⟩
  · exact po1.elim
theorem v_or (ha : PE X a (rE X.K cl W ma)) (hb : PE X (.BoolOp .Or (b :: rest) pos) (rE X.K cl W mb)) : PE X (.BoolOp .Or (a :: b :: rest) pos) (rE X.K cl W (mOr ma mb)) := PE.by (pe_or ha hb) fun σ H Q h => by
  obtain ⟨F, as, ρ, T, rl, sr, po⟩ := h
  refine ⟨F, as, ρ, T, rl, sr, Po.seq po (fun d T1 F1 as1 H1 g1 rl1 po1 v vr => ?_) fun c H' h => h⟩
  split at po1
  · cases vr
    exact ⟨true, rfl, po1 F1 as1 H1 Gr.refl rl1 _ (Da.bl _)⟩
  · cases vr
    exact ⟨false, rfl, F1, as1, ρ, T1, rl1, sr.mono g1, po1⟩
  · exact po1.elim
theorem v_not (ha : PE X a (rE X.K cl W ma)) : PE X (.UnaryOp .Not a pos) (rE X.K cl W (mNot ma)) := PE.by (pe_not ha) fun σ H Q h => by
  obtain ⟨F, as, ρ, T, rl, sr, po⟩ := h
  refine ⟨F, as, ρ, T, rl, sr, Po.seq po (fun d T1 F1 as1 H1 g1 rl1 po1 v vr => ?_) fun c H' h => h⟩
  unfold fNot at po1
  split at po1
  · cases vr
    exact ⟨_, rfl, po1 F1 as1 H1 Gr.refl rl1 _ (Da.bl _)⟩
  · exact po1.elim
theorem w_and1 (ha : PT X a (rT X.K cl W ma)) : PW X (.BoolOp .And [a] pos) (rT X.K cl W ma) := pw_and1 ha
theorem w_or1 (ha : PT X a (rT X.K cl W ma)) : PW X (.BoolOp .Or [a] pos) (rT X.K cl W ma) := pw_or1 ha
theorem PW.by {e : Expr} {t t' : TT} (h : PW X e t) (i : ∀ σ H Q, t' σ H Q → t σ H Q) : PW X e t' := ⟨fun whole pins s σ H Q I q => h.run whole pins s σ H Q I (i σ H Q q)⟩
theorem w_and (ha : PT X a (rT X.K cl W ma)) (hb : PW X (.BoolOp .And (b :: rest) pos) (rT X.K cl W mb)) : PW X (.BoolOp .And (a :: b :: rest) pos) (rT X.K cl W (mAnd ma mb)) := PW.by (pw_and ha hb) fun σ H Q h => by
  obtain ⟨F, as, ρ, T, rl, sr, po⟩ := h
  refine ⟨F, as, ρ, T, rl, sr, Po.seq po (fun d T1 F1 as1 H1 g1 rl1 po1 => ?_) fun c H' h => h⟩
  split at po1
  · exact ⟨true, rfl, iteT ⟨F1, as1, ρ, T1, rl1, sr.mono g1, po1⟩⟩
  · obtain ⟨k, e, q⟩ := po1 F1 as1 H1 Gr.refl rl1
    cases e
    exact ⟨false, rfl, iteF q⟩
  · exact po1.elim
theorem w_or (ha : PT X a (rT X.K cl W ma)) (hb : PW X (.BoolOp .Or (b :: rest) pos) (rT X.K cl W mb)) : PW X (.BoolOp .Or (a :: b :: rest) pos) (rT X.K cl W (mOr ma mb)) := PW.by (pw_or ha hb) fun σ H Q h => by
  obtain ⟨F, as, ρ, T, rl, sr, po⟩ := h
  refine ⟨F, as, ρ, T, rl, sr, Po.seq po (fun d T1 F1 as1 H1 g1 rl1 po1 => ?_) fun c H' h => h⟩
  split at po1
  · obtain ⟨k, e, q⟩ := po1 F1 as1 H1 Gr.refl rl1
    cases e
    exact ⟨true, rfl, iteT q⟩
  · exact ⟨false, rfl, iteF ⟨F1, as1, ρ, T1, rl1, sr.mono g1, po1⟩⟩
  · exact po1.elim
theorem t_not (ha : PT X a (rT X.K cl W ma)) : PT X (.UnaryOp .Not a pos) (rT X.K cl W (mNot ma)) := PT.by (pt_not ha) fun σ H Q h => by
  obtain ⟨F, as, ρ, T, rl, sr, po⟩ := h
  refine ⟨F, as, ρ, T, rl, sr, Po.seq po (fun d T1 F1 as1 H1 g1 rl1 po1 => ?_) fun c H' h => h⟩
  unfold fNot at po1
  split at po1
  · rename_i b
    obtain ⟨k, e, q⟩ := po1 F1 as1 H1 Gr.refl rl1
    cases e
    exact ⟨b, rfl, q⟩
  · exact po1.elim
theorem v_if (hc : PT X c (rT X.K cl W mc)) (ha : PE X a (rE X.K cl W ma)) (hb : PE X b (rE X.K cl W mb)) : PE X (.IfExp c a b pos) (rE X.K cl W (mIf mc ma mb)) := PE.by (pe_ifExp hc ha hb) fun σ H Q h => by
  obtain ⟨F, as, ρ, T, rl, sr, po⟩ := h
  refine ⟨F, as, ρ, T, rl, sr, Po.seq po (fun d T1 F1 as1 H1 g1 rl1 po1 => ?_) fun c H' h => h⟩
  split at po1
  · exact ⟨true, rfl, iteT ⟨F1, as1, ρ, T1, rl1, sr.mono g1, po1⟩⟩
  · exact ⟨false, rfl, iteF ⟨F1, as1, ρ, T1, rl1, sr.mono g1, po1⟩⟩
  · exact po1.elim
end
/-! chains -/
theorem chain_op (h1 : OpS X.K r f) (h2 : OpS X.K r' g) (hb1 : ∀ x y H Q, r x y H Q → r x y H Q) (σ : L2.St) (H : Hp) (Q : VK) (h : rE X.K cl W (mChain f g ma mb mc) σ H Q) : tChain r r' (rE X.K cl W ma) (rE X.K cl W mb) (rE X.K cl W mc) σ H Q := by
  obtain ⟨F, as, ρ, T, rl, sr, po⟩ := h
  refine ⟨F, as, ρ, T, rl, sr, Po.seq po (fun d T1 F1 as1 H1 g1 rl1 po1 v vr => ?_) fun c H' h => h⟩
  refine ⟨F1, as1, ρ, T1, rl1, sr.mono g1, Po.seq po1 (fun e T2 F2 as2 H2 g2 rl2 po2 u ur => ?_) fun c H' h => h⟩
  refine h1 F2 as2 H2 T2 v u d e _ _ rl2 (VR.mono g2 vr) ur (Po.seq po2 (fun z T3 F3 as3 H3 g3 rl3 po3 w wr => ?_) fun c H' h => h)
  split at po3
  · cases wr
    refine ⟨true, rfl, iteT ⟨F3, as3, ρ, T3, rl3, (sr.mono g1).mono (g2.trans g3), Po.seq po3 (fun e4 T4 F4 as4 H4 g4 rl4 po4 u4 ur4 => ?_) fun c H' h => h⟩⟩
    exact h2 F4 as4 H4 T4 u u4 e e4 Q _ rl4 (VR.mono (g3.trans g4) ur) ur4 po4
  · cases wr
    exact ⟨false, rfl, iteF (po3 F3 as3 H3 Gr.refl rl3 _ (Da.bl _))⟩
  · exact po3.elim
theorem v_chain {op op' : CmpOp} (ho : OpR X (compareOp op) r) (h1 : OpS X.K r f) (ho' : OpR X (compareOp op') r') (h2 : OpS X.K r' g) (ha : PE X a (rE X.K cl W ma)) (hb : PE X b (rE X.K cl W mb)) (hc : PE X c (rE X.K cl W mc))
    (hm : lastMarks [op, op'] [b, c] = false := by with_unfolding_all rfl) : PE X (.Compare a [op, op'] [b, c] pos) (rE X.K cl W (mChain f g ma mb mc)) := PE.by (pe_chain ho ho' ha hb hc hm) (chain_op h1 h2 fun _ _ _ _ h => h)
/-! arguments -/
theorem a_nil : PA X [] (rA X.K cl W mNil) := PA.by pa_nil fun σ H Q h => by
  obtain ⟨F, as, ρ, T, rl, sr, po⟩ := h
  exact po F as H Gr.refl rl [] .nil
theorem a_cons {e : Expr} {es : List Expr} {m : ME} {ms : MA} (ha : PE X e (rE X.K cl W m)) (hr : PA X es (rA X.K cl W ms)) (hs : starEach (e :: es) X.env = (false, eval e X.env) :: starEach es X.env := by rfl) : PA X (e :: es) (rA X.K cl W (mCons m ms)) := PA.by (pa_cons ha hr hs) fun σ H Q h => by
  obtain ⟨F, as, ρ, T, rl, sr, po⟩ := h
  refine ⟨F, as, ρ, T, rl, sr, Po.seq po (fun d T1 F1 as1 H1 g1 rl1 po1 v vr => ?_) fun c H' h => h⟩
  refine ⟨F1, as1, ρ, T1, rl1, sr.mono g1, Po.seq po1 (fun e T2 F2 as2 H2 g2 rl2 po2 vs vrs => ?_) fun c H' h => h⟩
  exact po2 F2 as2 H2 Gr.refl rl2 _ (.cons (VR.mono g2 vr) vrs)
/-! items -/
theorem v_ix (ha : PE X a (rE X.K cl W ma)) (hb : PE X b (rE X.K cl W mb)) (hs : PlainIx b := by exact fun _ _ => rfl) : PE X (.Subscript a b pos) (rE X.K cl W (m2 fIx ma mb)) := PE.by (pe_ix (ix_list.or ix_tup) ha hb hs) (m2_op ops_ix)
end
end Hr
set_option Elab.async false
set_option linter.all false
set_option maxRecDepth 100000
set_option maxHeartbeats 4000000
namespace Hr
open PySem PySem.Spec PyProof.Rows L2
/-! ### displays, slices, built-ins, calls: mirrors -/
def fTup : List Vd → Tab → Re Vd := fun ds T => match dats ds with
  | some xs => if xs.length ≤ 1000 then .ok (.dat (.tuple xs)) T else .bad
  | none => .bad
def fLst : List Vd → Tab → Re Vd := fun ds T => match dats ds with
  | some xs => if xs.length ≤ 1000 then .ok (.dat (.list xs)) T else .bad
  | none => .bad
def fLstO : List Vd → Tab → Re Vd := fun ds T => if ds.length ≤ 1000 then .ok (.own T.length) (T ++ [some ds]) else .bad
def cutG {α : Type} (xs : List α) (lo hi : Option Int) : List α := (xs.drop (HT.sIx xs.length 0 lo)).take (HT.sIx xs.length xs.length hi - HT.sIx xs.length 0 lo)
def fSl : Vd → Option Int → Option Int → Tab → Re Vd := fun x l h T => match x with
  | .dat (.list xs) => .ok (.dat (.list (cutG xs l h))) T
  | .dat (.tuple xs) => .ok (.dat (.tuple (cutG xs l h))) T
  | .dat (.str z) => if z.length ≤ 1000 then .ok (.dat (.str (cutS z l h))) T else .bad
  | .scr ns => .ok (.dat (.list ((cutG ns l h).map PyData.int))) T
  | _ => .bad
def mPart (o : Option ME) : Rho → Tab → Re (Option Int) := match o with
  | none => fun _ T => .ok none T
  | some m => fun ρ T => (m ρ T).bd fun x T => match x with
    | .dat (.int i) => .ok (some i) T
    | _ => .bad
def mSl (a : ME) (lo hi : Option ME) : ME := fun ρ T => (a ρ T).bd fun x T => (mPart lo ρ T).bd fun l T => (mPart hi ρ T).bd fun h T => fSl x l h T
def fLen : List Vd → Tab → Re Vd := fun ds T => match ds with
  | [.dat (.str z)] => if z.length ≤ 1000 then .ok (.dat (.int z.length)) T else .bad
  | [x] => match itemsOf x T with
    | some xs => .ok (.dat (.int xs.length)) T
    | none => .bad
  | _ => .bad
def bools : List PyData → Option (List Bool)
  | [] => some []
  | .bool b :: r => (bools r).map (b :: ·)
  | _ :: _ => none
def fAll : List Vd → Tab → Re Vd := fun ds T => match ds with
  | [.dat (.list xs)] => match bools xs with
    | some bs => .ok (.dat (.bool (bs.all id))) T
    | none => .bad
  | _ => .bad
def fAbs : List Vd → Tab → Re Vd := fun ds T => match ds with
  | [.dat (.int i)] => .ok (.dat (.int (if i < 0 then -i else i))) T
  | _ => .bad
def fInt : List Vd → Tab → Re Vd := fun ds T => match ds with
  | [.dat (.int i)] => .ok (.dat (.int i)) T
  | [.dat (.bool k)] => .ok (.dat (.int (if k then 1 else 0))) T
  | _ => .bad
def fMax : List Vd → Tab → Re Vd := fun ds T => match ds with
  | [.dat (.int i), .dat (.int j)] => .ok (.dat (.int (if j > i then j else i))) T
  | _ => .bad
/-- no scripts, no tuples where a list is wanted -/
def isLst : Vd → Bool
  | .dat (.list _) => true
  | .own _ => true
  | _ => false
def fTupleOf : List Vd → Tab → Re Vd := fun ds T => match ds with
  | [.dat (.tuple ys)] => .ok (.dat (.tuple ys)) T
  | [x] => if isLst x = true then match itemsOf x T with
    | some xs => match dats xs with
      | some ys => .ok (.dat (.tuple ys)) T
      | none => .bad
    | none => .bad
    else .bad
  | _ => .bad
def fListOf : List Vd → Tab → Re Vd := fun ds T => match ds with
  | [x] => match itemsOf x T with
    | some xs => match dats xs with
      | some ys => .ok (.dat (.list ys)) T
      | none => .bad
    | none => .bad
  | _ => .bad
def fListOfO : List Vd → Tab → Re Vd := fun ds T => match ds with
  | [x] => match itemsOf x T with
    | some xs => .ok (.own T.length) (T ++ [some xs])
    | none => .bad
  | _ => .bad
/-- the type of a value -/
def tyN : Vd → String
  | .dat .none => "NoneType"
  | .dat (.bool _) => "bool"
  | .dat (.int _) => "int"
  | .dat (.str _) => "str"
  | .dat (.list _) => "list"
  | .dat (.tuple _) => "tuple"
  | .dat (.dict _) => "dict"
  | .own _ => "list"
  | .scr _ => "list"
def isTy (t T : String) : Bool := t == T || (t == "bool" && T == "int")
def liv (x : Vd) (T : Tab) : Bool := match x with
  | .own k => match T[k]? with
    | some (some _) => true
    | _ => false
  | _ => true
def fIs (U : String) : Vd → Tab → Re Vd := fun x T => if liv x T = true then .ok (.dat (.bool (isTy (tyN x) U))) T else .bad
def fIs2 (U1 U2 : String) : Vd → Tab → Re Vd := fun x T => if liv x T = true then .ok (.dat (.bool (isTy (tyN x) U1 || isTy (tyN x) U2))) T else .bad
/-- list + list: a new list -/
def fCat : Vd → Vd → Tab → Re Vd := fun x y T => match itemsOf x T, itemsOf y T with
  | some xs, some ys => match dats (xs ++ ys) with
    | some zs => if zs.length ≤ 100000 then .ok (.dat (.list zs)) T else .bad
    | none => .bad
  | _, _ => .bad
def fCatO : Vd → Vd → Tab → Re Vd := fun x y T => match itemsOf x T, itemsOf y T with
  | some xs, some ys => if (xs ++ ys).length ≤ 100000 then .ok (.own T.length) (T ++ [some (xs ++ ys)]) else .bad
  | _, _ => .bad
/-- list * int -/
def fRepL : Vd → Vd → Tab → Re Vd := fun x y T => match x, y with
  | .dat (.list xs), .dat (.int k) => if 0 ≤ k ∧ k ≤ 1000 ∧ xs.length ≤ 1000 then .ok (.dat (.list (List.replicate k.toNat xs).flatten)) T else .bad
  | _, _ => .bad
def fCatL (f : Vd → Vd → Tab → Re Vd) : Vd → Vd → Tab → Re Vd := fun x y T => if (isLst x && isLst y) = true then f x y T else .bad

section
variable {K : PySem.W.Frag} {F H : Hp} {as : List Addr} {T : Tab} {x : V}
theorem lst_l (rl : Rl K F as H T) : ∀ {d : Vd} {xs : List Vd}, isLst d = true → VR K F as x d → itemsOf d T = some xs → ∃ p vs, x = .ref p ∧ H p = some (.lst vs) ∧ VRs K F as vs xs
  | .dat (.list ds), xs, _, h, e => by
    cases e
    cases h with
    | lst hs ha => exact ⟨_, _, rfl, rl.ex _ _ hs, VRs.of_da ha⟩
  | .own k, xs, _, ⟨a, ha, hx⟩, e => by
    have e2 : (match T[k]? with
      | some (some xs) => some xs
      | _ => none) = some xs := e
    cases q : T[k]? with
    | none => rw [q] at e2; cases e2
    | some o =>
      rw [q] at e2
      cases o with
      | none => cases e2
      | some ys =>
        cases e2
        obtain ⟨_, vs, hH, hv⟩ := rl.own k a _ ha q
        exact ⟨a, vs, hx, hH, hv⟩
  | .scr ns, _, b, _, _ => by cases b
  | .dat (.tuple ds), _, b, _, _ => by cases b
  | .dat .none, _, b, _, _ => by cases b
  | .dat (.bool _), _, b, _, _ => by cases b
  | .dat (.int _), _, b, _, _ => by cases b
  | .dat (.str _), _, b, _, _ => by cases b
  | .dat (.dict _), _, b, _, _ => by cases b
theorem sz_of {n : Nat} (h : n ≤ 100000) : n ≤ sizeLine := Nat.le_trans h (by decide)
theorem sz1 {n : Nat} (h : n ≤ 1000) : n ≤ sizeLine := Nat.le_trans h (by decide)
theorem VRs.nil_inv {vs : List V} (h : VRs K F as vs []) : vs = [] := by cases h; rfl
theorem VRs.one {vs : List V} {d : Vd} (h : VRs K F as vs [d]) : ∃ v, vs = [v] ∧ VR K F as v d := by
  cases h with
  | cons r t => cases t; exact ⟨_, rfl, r⟩
theorem VRs.two {vs : List V} {d e : Vd} (h : VRs K F as vs [d, e]) : ∃ v u, vs = [v, u] ∧ VR K F as v d ∧ VR K F as u e := by
  cases h with
  | cons r t =>
    cases t with
    | cons r2 t => cases t; exact ⟨_, _, rfl, r, r2⟩
theorem ops_cat : OpS K rCat (fCatL fCat) := by
  intro F as H T x y d e Q ew rl hx hy po
  unfold fCatL at po
  split at po
  · rename_i hb
    rw [Bool.and_eq_true] at hb
    unfold fCat at po
    split at po
    · rename_i xs ys e1 e2
      obtain ⟨p, vs, rfl, h1, v1⟩ := lst_l rl hb.1 hx e1
      obtain ⟨q, ws, rfl, h2, v2⟩ := lst_l rl hb.2 hy e2
      split at po
      · rename_i zs hz
        split at po
        · rename_i hl
          have da := VRs.da (v1.app v2) hz
          refine ⟨p, q, vs, ws, rfl, rfl, h1, h2, sz_of (by have := da.len; rw [List.length_append] at this; omega), fun r hr => ?_⟩
          obtain ⟨rl2, g⟩ := rl.dat (o := .lst (vs ++ ws)) hr
          exact po _ _ _ g rl2 _ (Da.lst upd_same (DaAll.mono g.ex da))
        · exact po.elim
      · exact po.elim
    · exact po.elim
  · exact po.elim
theorem ops_catO : OpS K rCat (fCatL fCatO) := by
  intro F as H T x y d e Q ew rl hx hy po
  unfold fCatL at po
  split at po
  · rename_i hb
    rw [Bool.and_eq_true] at hb
    unfold fCatO at po
    split at po
    · rename_i xs ys e1 e2
      obtain ⟨p, vs, rfl, h1, v1⟩ := lst_l rl hb.1 hx e1
      obtain ⟨q, ws, rfl, h2, v2⟩ := lst_l rl hb.2 hy e2
      split at po
      · rename_i hl
        have va := v1.app v2
        refine ⟨p, q, vs, ws, rfl, rfl, h1, h2, sz_of (by have := va.len; rw [List.length_append] at this; omega), fun r hr => ?_⟩
        obtain ⟨rl2, g, hk⟩ := rl.new hr va
        exact po _ _ _ g rl2 _ ⟨r, hk, rfl⟩
      · exact po.elim
    · exact po.elim
  · exact po.elim
theorem DaAll.app : ∀ {xs ys : List PyData} {vs ws : List V}, DaAll K F vs xs → DaAll K F ws ys → DaAll K F (vs ++ ws) (xs ++ ys)
  | [], _, _, _, h, h2 => by cases h; exact h2
  | x :: xs, _, _, _, h, h2 => by
    cases h with
    | cons a b => exact .cons a (DaAll.app b h2)
theorem DaAll.rep {xs : List PyData} {vs : List V} (h : DaAll K F vs xs) : ∀ n : Nat, DaAll K F (List.replicate n vs).flatten (List.replicate n xs).flatten
  | 0 => .nil
  | n + 1 => by
    rw [List.replicate_succ, List.replicate_succ, List.flatten_cons, List.flatten_cons]
    exact DaAll.app h (DaAll.rep h n)
theorem ops_repL : OpS K rRep fRepL := by
  intro F as H T x y d e Q ew rl hx hy po
  unfold fRepL at po
  split at po
  · split at po
    · rename_i xs k hk
      cases hy
      cases hx with
      | @lst a vs ds hs ha =>
        refine ⟨a, k, vs, rfl, rfl, rl.ex _ _ hs, by omega, by omega, ?_, fun r hr => ?_⟩
        · exact Nat.le_trans (Nat.mul_le_mul (show vs.length ≤ 1000 by rw [ha.len]; exact hk.2.2) (show k.toNat ≤ 1000 by omega)) (by decide)
        · obtain ⟨rl2, g⟩ := rl.dat (o := .lst (List.replicate k.toNat vs).flatten) hr
          exact po _ _ _ g rl2 _ (Da.lst upd_same (DaAll.mono g.ex (ha.rep _)))
    · exact po.elim
  · exact po.elim
/-! built-ins by values -/
theorem cas_len : CaS K (fun xs H Q => ∃ x n, xs = [x] ∧ LenV K x H n ∧ Q (.int n) H) fLen := by
  intro F as H T vs ds Q ew rl hv po
  unfold fLen at po
  split at po
  · split at po
    · rename_i z hz
      obtain ⟨v, rfl, r⟩ := hv.one
      cases r
      exact ⟨_, z.length, rfl, ⟨sz1 hz, rfl⟩, po F as H Gr.refl rl _ (Da.int _)⟩
    · exact po.elim
  · split at po
    · rename_i d _ xs hxs
      obtain ⟨v, rfl, r⟩ := hv.one
      obtain ⟨p, vs, rfl, hs, hvs⟩ := items_l rl r hxs
      have hl := hvs.len
      refine ⟨_, xs.length, rfl, ?_, po F as H Gr.refl rl _ (Da.int _)⟩
      rcases hs with hs | hs
      · exact .inl ⟨vs, hs, hl.symm⟩
      · exact .inr ⟨vs, hs, hl.symm⟩
    · exact po.elim
  · exact po.elim
theorem bools_map : ∀ {xs : List PyData} {bs : List Bool} {vs : List V}, bools xs = some bs → DaAll K F vs xs → vs = bs.map V.bl
  | [], bs, vs, e, h => by
    cases e
    cases h
    rfl
  | x :: xs, bs, vs, e, h => by
    cases h with
    | cons a b =>
      cases x with
      | bool k =>
        have e2 : (bools xs).map (k :: ·) = some bs := e
        cases q : bools xs with
        | none => rw [q] at e2; cases e2
        | some cs =>
          rw [q] at e2
          cases e2
          cases a
          rw [bools_map q b]
          rfl
      | none => cases e
      | int _ => cases e
      | str _ => cases e
      | list _ => cases e
      | tuple _ => cases e
      | dict _ => cases e
theorem cas_all : CaS K (rAll K) fAll := by
  intro F as H T vs ds Q ew rl hv po
  unfold fAll at po
  split at po
  · split at po
    · rename_i xs bs hb
      obtain ⟨v, rfl, r⟩ := hv.one
      cases r with
      | @lst a ws _ hs ha =>
        have e := bools_map hb ha
        subst e
        exact ⟨a, bs, rfl, SqL.of (rl.ex _ _ hs), po F as H Gr.refl rl _ (Da.bl _)⟩
    · exact po.elim
  · exact po.elim
theorem cas_abs : CaS K (fun xs H Q => ∃ i, xs = [.int i] ∧ Q (.int (if i < 0 then -i else i)) H) fAbs := by
  intro F as H T vs ds Q ew rl hv po
  unfold fAbs at po
  split at po
  · obtain ⟨v, rfl, r⟩ := hv.one
    cases r
    exact ⟨_, rfl, po F as H Gr.refl rl _ (Da.int _)⟩
  · exact po.elim
theorem cas_int : CaS K (fun xs H Q => (∃ i, xs = [.int i] ∧ Q (.int i) H) ∨ ∃ k, xs = [.bl k] ∧ Q (.int (if k then 1 else 0)) H) fInt := by
  intro F as H T vs ds Q ew rl hv po
  unfold fInt at po
  split at po
  · obtain ⟨v, rfl, r⟩ := hv.one
    cases r
    exact .inl ⟨_, rfl, po F as H Gr.refl rl _ (Da.int _)⟩
  · obtain ⟨v, rfl, r⟩ := hv.one
    cases r
    exact .inr ⟨_, rfl, po F as H Gr.refl rl _ (Da.int _)⟩
  · exact po.elim
theorem cas_max : CaS K (fun xs H Q => ∃ i j, xs = [.int i, .int j] ∧ Q (.int (if j > i then j else i)) H) fMax := by
  intro F as H T vs ds Q ew rl hv po
  unfold fMax at po
  split at po
  · obtain ⟨v, u, rfl, r, r2⟩ := hv.two
    cases r
    cases r2
    exact ⟨_, _, rfl, po F as H Gr.refl rl _ (Da.int _)⟩
  · exact po.elim
theorem cas_tupleOf : CaS K (fun xs H Q => ∃ p ys, xs = [.ref p] ∧ ((SqL K H p ys ∧ ∀ l, H l = none → Q (.ref l) (upd H l (.tup ys))) ∨ (SqT K H p ys ∧ Q (.ref p) H))) fTupleOf := by
  intro F as H T vs ds Q ew rl hv po
  unfold fTupleOf at po
  split at po
  · obtain ⟨v, rfl, r⟩ := hv.one
    cases r with
    | @tup a ws _ hs ha => exact ⟨a, ws, rfl, .inr ⟨rl.ex.tup hs, po F as H Gr.refl rl _ (Da.tup hs ha)⟩⟩
  · split at po
    · rename_i hb
      split at po
      · rename_i xs hxs
        split at po
        · rename_i ys hys
          obtain ⟨v, rfl, r⟩ := hv.one
          obtain ⟨p, ws, rfl, hs, hws⟩ := lst_l rl hb r hxs
          have da := VRs.da hws hys
          refine ⟨p, ws, rfl, .inl ⟨SqL.of hs, fun l hl => ?_⟩⟩
          obtain ⟨rl2, g⟩ := rl.dat (o := .tup ws) hl
          exact po _ _ _ g rl2 _ (Da.tup (SqT.of upd_same) (DaAll.mono g.ex da))
        · exact po.elim
      · exact po.elim
    · exact po.elim
  · exact po.elim
abbrev rLo (K : PySem.W.Frag) : List V → Hp → VK → Prop := fun xs H Q => ∃ p ys, xs = [.ref p] ∧ (SqL K H p ys ∨ SqT K H p ys) ∧ ∀ l, H l = none → Q (.ref l) (upd H l (.lst ys))
theorem cas_listOf : CaS K (rLo K) fListOf := by
  intro F as H T vs ds Q ew rl hv po
  unfold fListOf at po
  split at po
  · split at po
    · rename_i xs hxs
      split at po
      · rename_i ys hys
        obtain ⟨v, rfl, r⟩ := hv.one
        obtain ⟨p, ws, rfl, hs, hws⟩ := items_l rl r hxs
        refine ⟨p, ws, rfl, hs, fun l hl => ?_⟩
        obtain ⟨rl2, g⟩ := rl.dat (o := .lst ws) hl
        exact po _ _ _ g rl2 _ (Da.lst upd_same (DaAll.mono g.ex (VRs.da hws hys)))
      · exact po.elim
    · exact po.elim
  · exact po.elim
theorem cas_listOfO : CaS K (rLo K) fListOfO := by
  intro F as H T vs ds Q ew rl hv po
  unfold fListOfO at po
  split at po
  · split at po
    · rename_i xs hxs
      obtain ⟨v, rfl, r⟩ := hv.one
      obtain ⟨p, ws, rfl, hs, hws⟩ := items_l rl r hxs
      refine ⟨p, ws, rfl, hs, fun l hl => ?_⟩
      obtain ⟨rl2, g, hk⟩ := rl.new hl hws
      exact po _ _ _ g rl2 _ ⟨l, hk, rfl⟩
    · exact po.elim
  · exact po.elim
/-! a value's type -/
theorem ty_l (rl : Rl K F as H T) : ∀ {d : Vd} {v : V}, VR K F as v d → (∀ k, d = .own k → ∃ xs, T[k]? = some (some xs)) → TyX K H v (.type (tyN d))
  | .dat .none, _, h, _ => by cases h; exact .base .non
  | .dat (.bool _), _, h, _ => by cases h; exact .base (.bl _)
  | .dat (.int _), _, h, _ => by cases h; exact .base (.int _)
  | .dat (.str _), _, h, _ => by cases h; exact .base (.str _)
  | .dat (.list _), _, h, _ => by
    cases h with
    | lst hs ha => exact .base (.lst (rl.ex _ _ hs))
  | .dat (.tuple _), _, h, _ => by
    cases h with
    | tup hs ha =>
      rcases hs with (hs | ⟨o, hs⟩) | ⟨o, its, n, h1, h2, _⟩
      · exact .base (.tup (rl.ex _ _ hs))
      · exact .fTuple (rl.ex _ _ hs)
      · exact .kTuple h1 h2
  | .dat (.dict _), _, h, _ => by cases h
  | .own k, _, ⟨a, ha, e⟩, hk => by
    subst e
    obtain ⟨xs, hx⟩ := hk k rfl
    obtain ⟨_, vs, hH, _⟩ := rl.own k a xs ha hx
    exact .base (.lst hH)
  | .scr ns, _, ⟨a, e, hs⟩, _ => by
    subst e
    rcases hs with (hs | ⟨o, hs⟩) | ⟨o, its, n, h1, h2, _⟩
    · exact .base (.lst (rl.ex _ _ hs))
    · exact .base (.frz (rl.ex _ _ hs))
    · exact .kList h1 h2
end

/-! ### isinstance -/
def okTy (U : String) : Prop := ∀ d : Vd, kitB (tyN d) U = some (isTy (tyN d) U)
theorem okTy_of {U : String} (h : ∀ t ∈ ["NoneType", "bool", "int", "str", "list", "tuple", "dict"], kitB t U = some (isTy t U)) : okTy U := fun d => h _ (by
  cases d with
  | dat x => cases x <;> simp [tyN]
  | own k => simp [tyN]
  | scr ns => simp [tyN])
theorem all7 {P : String → Prop} (h1 : P "NoneType") (h2 : P "bool") (h3 : P "int") (h4 : P "str") (h5 : P "list") (h6 : P "tuple") (h7 : P "dict") : ∀ t ∈ ["NoneType", "bool", "int", "str", "list", "tuple", "dict"], P t := fun t ht => by
  simp only [List.mem_cons, List.not_mem_nil, or_false] at ht
  rcases ht with rfl | rfl | rfl | rfl | rfl | rfl | rfl <;> assumption
theorem ok_int : okTy "int" := okTy_of (all7 (by decide +kernel) (by decide +kernel) (by decide +kernel) (by decide +kernel) (by decide +kernel) (by decide +kernel) (by decide +kernel))
theorem ok_bool : okTy "bool" := okTy_of (all7 (by decide +kernel) (by decide +kernel) (by decide +kernel) (by decide +kernel) (by decide +kernel) (by decide +kernel) (by decide +kernel))
theorem ok_str : okTy "str" := okTy_of (all7 (by decide +kernel) (by decide +kernel) (by decide +kernel) (by decide +kernel) (by decide +kernel) (by decide +kernel) (by decide +kernel))
theorem ok_list : okTy "list" := okTy_of (all7 (by decide +kernel) (by decide +kernel) (by decide +kernel) (by decide +kernel) (by decide +kernel) (by decide +kernel) (by decide +kernel))
theorem ok_tuple : okTy "tuple" := okTy_of (all7 (by decide +kernel) (by decide +kernel) (by decide +kernel) (by decide +kernel) (by decide +kernel) (by decide +kernel) (by decide +kernel))
theorem liv_k {x : Vd} {T : Tab} (h : liv x T = true) : ∀ k, x = .own k → ∃ xs, T[k]? = some (some xs) := fun k e => by
  subst e
  have h2 : (match T[k]? with
    | some (some _) => true
    | _ => false) = true := h
  split at h2
  · exact ⟨_, by assumption⟩
  · cases h2
theorem boot_isinstance : bootBuiltins "isinstance" = some (.builtin "isinstance") := by decide +kernel
section
variable {X : Cx} {cl : Cl} {W : WX} {a : Expr} {ma : ME} {pos p p1 p2 p3 : Pos} {U1 U2 : String} {x1 x2 : Str} {k1 : Nat}
theorem v_isi (hU : okTy U1) (hm : X.mg "isinstance" = none) (hm1 : X.mg x1 = none) (hv1 : bootBuiltins x1 = some (.type U1)) (ha : PE X a (rE X.K cl W ma)) (hg : Gl X "isinstance" := by rfl) (hg1 : Gl X x1 := by rfl)
    (hn : x1 ≠ "__name__" := by decide) (hd : (x1 == ("__debug__" : Str)) = false := by decide)
    (hs1 : starEach [a, .Name x1 p1] X.env = (false, eval a X.env) :: starEach [.Name x1 p1] X.env := by rfl) (hpl : (backTo pos (starEach [.Name x1 p1] X.env)).any (·.1) = false := by rfl) :
    PE X (.Call (.Name "isinstance" p) [a, .Name x1 p1] [] pos) (rE X.K cl W (m1 (fIs U1) ma)) :=
  PE.by (pe_callB call_isi hg hm boot_isinstance (pa_cons ha (pa_cons (pe_bltn (v := .ty U1) hg1 hm1 hv1 rfl hn hd) pa_nil) hs1) (by decide) (by decide) hs1 hpl) fun σ H Q h => by
    obtain ⟨F, as, ρ, T, rl, sr, po⟩ := h
    refine ⟨F, as, ρ, T, rl, sr, Po.seq po (fun d T1 F1 as1 H1 g1 rl1 po1 v vr => ?_) fun c H' h => h⟩
    unfold fIs at po1
    split at po1
    · rename_i hl
      exact ⟨v, .ty U1, _, _, _, rfl, .ty U1, ty_l rl1 vr (liv_k hl), kit_ty (hU d), po1 F1 as1 H1 Gr.refl rl1 _ (Da.bl _)⟩
    · exact po1.elim
theorem v_isi2 (hU : okTy U1) (hU2 : okTy U2) (hm : X.mg "isinstance" = none) (hm1 : X.mg x1 = none) (hv1 : bootBuiltins x1 = some (.type U1))
    (hm2 : X.mg x2 = none) (hv2 : bootBuiltins x2 = some (.type U2)) (ha : PE X a (rE X.K cl W ma)) (hg : Gl X "isinstance" := by rfl) (hg1 : Gl X x1 := by rfl) (hg2 : Gl X x2 := by rfl)
    (hn : x1 ≠ "__name__" := by decide) (hd : (x1 == ("__debug__" : Str)) = false := by decide) (hn2 : x2 ≠ "__name__" := by decide) (hd2 : (x2 == ("__debug__" : Str)) = false := by decide)
    (hs1 : starEach [a, .Tuple [.Name x1 p1, .Name x2 p2] k1 p3] X.env = (false, eval a X.env) :: starEach [.Tuple [.Name x1 p1, .Name x2 p2] k1 p3] X.env := by rfl) (hpl : (backTo pos (starEach [.Tuple [.Name x1 p1, .Name x2 p2] k1 p3] X.env)).any (·.1) = false := by rfl) :
    PE X (.Call (.Name "isinstance" p) [a, .Tuple [.Name x1 p1, .Name x2 p2] k1 p3] [] pos) (rE X.K cl W (m1 (fIs2 U1 U2) ma)) :=
  PE.by (pe_callB call_isiT hg hm boot_isinstance (pa_cons ha (pa_cons (pe_tup (pa_cons (pe_bltn (v := .ty U1) hg1 hm1 hv1 rfl hn hd) (pa_cons (pe_bltn (v := .ty U2) hg2 hm2 hv2 rfl hn2 hd2) pa_nil))) pa_nil) hs1) (by decide) (by decide) hs1 hpl) fun σ H Q h => by
    obtain ⟨F, as, ρ, T, rl, sr, po⟩ := h
    refine ⟨F, as, ρ, T, rl, sr, Po.seq po (fun d T1 F1 as1 H1 g1 rl1 po1 v vr => ?_) fun c H' h => h⟩
    unfold fIs2 at po1
    split at po1
    · rename_i hl
      refine ⟨by show 2 ≤ sizeLine; decide, fun q hq => ?_⟩
      have rl2 := rl1.junk (o := .tup [V.ty U1, V.ty U2]) hq
      refine ⟨v, q, [.ty U1, .ty U2], _, [.type U1, .type U2], _, rfl, upd_same, .cons (.ty _) (.cons (.ty _) .nil), ty_l rl2 vr (liv_k hl), ?_, po1 F1 as1 _ Gr.refl rl2 _ (Da.bl _)⟩
      refine kitAny_cons (kit_ty (hU d)) (fun e => ?_) (fun e => by rw [e]; rfl)
      rw [e, Bool.false_or]
      refine kitAny_cons (kit_ty (hU2 d)) (fun e2 => ?_) (fun e2 => e2)
      rw [e2]
      exact kitAny_nil
    · exact po1.elim
end
/-! ### displays, slices, calls: rules -/
section
variable {X : Cx} {cl : Cl} {W : WX} {a : Expr} {ma : ME} {pos p : Pos} {es : List Expr} {ms : MA}
theorem v_tup {k : Nat} (h : PA X es (rA X.K cl W ms)) : PE X (.Tuple es k pos) (rE X.K cl W (mN fTup ms)) := PE.by (pe_tup h) fun σ H Q h => by
  obtain ⟨F, as, ρ, T, rl, sr, po⟩ := h
  refine ⟨F, as, ρ, T, rl, sr, Po.seq po (fun ds T1 F1 as1 H1 g1 rl1 po1 vs vr => ?_) fun c H' h => h⟩
  unfold fTup at po1
  split at po1
  · split at po1
    · rename_i xs hx hl
      have da := VRs.da vr hx
      refine ⟨by rw [da.len]; exact sz1 hl, fun q hq => ?_⟩
      obtain ⟨rl2, g⟩ := rl1.dat (o := .tup vs) hq
      exact po1 _ _ _ g rl2 _ (Da.tup (SqT.of upd_same) (DaAll.mono g.ex da))
    · exact po1.elim
  · exact po1.elim
theorem v_lst (h : PA X es (rA X.K cl W ms)) : PE X (.List es pos) (rE X.K cl W (mN fLst ms)) := PE.by (pe_lst h) fun σ H Q h => by
  obtain ⟨F, as, ρ, T, rl, sr, po⟩ := h
  refine ⟨F, as, ρ, T, rl, sr, Po.seq po (fun ds T1 F1 as1 H1 g1 rl1 po1 vs vr => ?_) fun c H' h => h⟩
  unfold fLst at po1
  split at po1
  · split at po1
    · rename_i xs hx hl
      have da := VRs.da vr hx
      refine ⟨by rw [da.len]; exact sz1 hl, fun q hq => ?_⟩
      obtain ⟨rl2, g⟩ := rl1.dat (o := .lst vs) hq
      exact po1 _ _ _ g rl2 _ (Da.lst upd_same (DaAll.mono g.ex da))
    · exact po1.elim
  · exact po1.elim
theorem v_lstO (h : PA X es (rA X.K cl W ms)) : PE X (.List es pos) (rE X.K cl W (mN fLstO ms)) := PE.by (pe_lst h) fun σ H Q h => by
  obtain ⟨F, as, ρ, T, rl, sr, po⟩ := h
  refine ⟨F, as, ρ, T, rl, sr, Po.seq po (fun ds T1 F1 as1 H1 g1 rl1 po1 vs vr => ?_) fun c H' h => h⟩
  unfold fLstO at po1
  split at po1
  · rename_i hl
    refine ⟨by rw [vr.len]; exact sz1 hl, fun q hq => ?_⟩
    obtain ⟨rl2, g, hk⟩ := rl1.new hq vr
    exact po1 _ _ _ g rl2 _ ⟨q, hk, rfl⟩
  · exact po1.elim
/-! slices -/
def rP (K : PySem.W.Frag) (cl : Cl) (W : WX) (m : Rho → Tab → Re (Option Int)) : TO := fun σ H Q => ∃ F as ρ T, Rl K F as H T ∧ SR K F as σ ρ ∧ Po K F as (m ρ T) (fun o F' as' H' _ => Q o H') fun c H' => W (cl c) none σ H'
theorem PO.by {e : Option Expr} {t t' : TO} (h : PO X e t) (i : ∀ σ H Q, t' σ H Q → t σ H Q) : PO X e t' := ⟨fun pins s σ H Q I q => h.run pins s σ H Q I (i σ H Q q)⟩
theorem o_none : PO X none (rP X.K cl W (mPart none)) := PO.by po_none fun σ H Q h => by
  obtain ⟨F, as, ρ, T, rl, sr, po⟩ := h
  exact po F as H Gr.refl rl
theorem o_some (h : PE X a (rE X.K cl W ma)) : PO X (some a) (rP X.K cl W (mPart (some ma))) := PO.by (po_some h) fun σ H Q h => by
  obtain ⟨F, as, ρ, T, rl, sr, po⟩ := h
  refine ⟨F, as, ρ, T, rl, sr, Po.seq po (fun d T1 F1 as1 H1 g1 rl1 po1 v vr => ?_) fun c H' h => h⟩
  split at po1
  · cases vr
    exact ⟨_, rfl, po1 F1 as1 H1 Gr.refl rl1⟩
  · exact po1.elim
theorem DaAll.take {K : PySem.W.Frag} {F : Hp} : ∀ {xs : List PyData} {vs : List V} (n : Nat), DaAll K F vs xs → DaAll K F (vs.take n) (xs.take n)
  | _, _, 0, _ => .nil
  | [], _, _ + 1, h => by cases h; exact .nil
  | x :: xs, _, n + 1, h => by
    cases h with
    | cons a b => exact .cons a (DaAll.take n b)
theorem DaAll.drop {K : PySem.W.Frag} {F : Hp} : ∀ {xs : List PyData} {vs : List V} (n : Nat), DaAll K F vs xs → DaAll K F (vs.drop n) (xs.drop n)
  | _, _, 0, h => h
  | [], _, _ + 1, h => by cases h; exact .nil
  | x :: xs, _, n + 1, h => by
    cases h with
    | cons a b => exact DaAll.drop n b
theorem DaAll.cut {K : PySem.W.Frag} {F : Hp} {xs : List PyData} {vs : List V} (h : DaAll K F vs xs) (lo hi : Option Int) : DaAll K F (cutV vs lo hi) (cutG xs lo hi) := by
  unfold cutV cutG
  rw [h.len]
  exact (h.drop _).take _
theorem DaAll.ints {K : PySem.W.Frag} {F : Hp} : ∀ ns : List Int, DaAll K F (ns.map V.int) (ns.map PyData.int)
  | [] => .nil
  | n :: ns => .cons (.int n) (DaAll.ints ns)
theorem cutV_ints (ns : List Int) (lo hi : Option Int) : cutV (ns.map V.int) lo hi = (cutG ns lo hi).map V.int := by
  unfold cutV cutG
  rw [List.length_map, List.map_take, List.map_drop]
theorem cutV_all {xs : List V} {lo hi : Option Int} (h : HT.sIx xs.length 0 lo = 0 ∧ HT.sIx xs.length xs.length hi = xs.length) : cutV xs lo hi = xs := by
  unfold cutV
  rw [h.1, h.2]
  simp
theorem cutG_all {α : Type} {xs : List α} {lo hi : Option Int} (h : HT.sIx xs.length 0 lo = 0 ∧ HT.sIx xs.length xs.length hi = xs.length) : cutG xs lo hi = xs := by
  unfold cutG
  rw [h.1, h.2]
  simp
theorem v_sl {lo hi : Option Expr} {ml mh : Option ME} {p2 : Pos} (ha : PE X a (rE X.K cl W ma)) (hl : PO X lo (rP X.K cl W (mPart ml))) (hh : PO X hi (rP X.K cl W (mPart mh))) : PE X (.Subscript a (.Slice lo hi none p2) pos) (rE X.K cl W (mSl ma ml mh)) :=
  PE.by (pe_slice (sl_list.or (sl_tupA.or sl_str)) ha hl hh) fun σ H Q h => by
    obtain ⟨F, as, ρ, T, rl, sr, po⟩ := h
    refine ⟨F, as, ρ, T, rl, sr, Po.seq po (fun d T1 F1 as1 H1 g1 rl1 po1 v vr => ?_) fun c H' h => h⟩
    refine ⟨F1, as1, ρ, T1, rl1, sr.mono g1, Po.seq po1 (fun l T2 F2 as2 H2 g2 rl2 po2 => ?_) fun c H' h => h⟩
    refine ⟨F2, as2, ρ, T2, rl2, (sr.mono g1).mono g2, Po.seq po2 (fun h T3 F3 as3 H3 g3 rl3 po3 => ?_) fun c H' h => h⟩
    have vr3 := VR.mono (g2.trans g3) vr
    unfold fSl at po3
    split at po3
    · cases vr3 with
      | @lst p ws _ hs ha =>
        refine .inl ⟨p, ws, rfl, SqL.of (rl3.ex _ _ hs), fun q hq => ?_⟩
        obtain ⟨rl4, g⟩ := rl3.dat (o := .lst (cutV ws l h)) hq
        exact po3 _ _ _ g rl4 _ (Da.lst upd_same (DaAll.mono g.ex (ha.cut l h)))
    · cases vr3 with
      | @tup p ws xs hs ha =>
        refine .inr (.inl ⟨p, ws, rfl, rl3.ex.tup hs, fun e => ?_, fun e q hq => ?_⟩)
        · rw [ha.len] at e
          rw [cutG_all e] at po3
          exact po3 _ _ _ Gr.refl rl3 _ (Da.tup hs ha)
        · obtain ⟨rl4, g⟩ := rl3.dat (o := .tup (cutV ws l h)) hq
          exact po3 _ _ _ g rl4 _ (Da.tup (SqT.of upd_same) (DaAll.mono g.ex (ha.cut l h)))
    · split at po3
      · rename_i z hz
        cases vr3
        exact .inr (.inr ⟨z, rfl, sz1 hz, po3 _ _ _ Gr.refl rl3 _ (Da.str _)⟩)
      · exact po3.elim
    · rename_i ns
      obtain ⟨p, e, hs⟩ := vr3
      subst e
      refine .inl ⟨p, _, rfl, rl3.ex.seq hs, fun q hq => ?_⟩
      obtain ⟨rl4, g⟩ := rl3.dat (o := .lst (cutV (ns.map V.int) l h)) hq
      refine po3 _ _ _ g rl4 _ (Da.lst upd_same ?_)
      rw [cutV_ints]
      exact DaAll.ints _
    · exact po3.elim
/-! calls of built-ins -/
section
variable {x : Str} {e : Expr} {id Ty : String} {r : List V → Hp → VK → Prop} {f : List Vd → Tab → Re Vd}
theorem mN_op (hs : CaS X.K r f) (σ : L2.St) (H : Hp) (Q : VK) (h : rE X.K cl W (mN f ms) σ H Q) : tCB r (rA X.K cl W ms) σ H Q := by
  obtain ⟨F, as, ρ, T, rl, sr, po⟩ := h
  refine ⟨F, as, ρ, T, rl, sr, Po.seq po (fun ds T1 F1 as1 H1 g1 rl1 po1 vs vr => ?_) fun c H' h => h⟩
  exact hs F1 as1 H1 T1 vs ds Q _ rl1 vr po1
theorem v_callB (hc : CallR X (.builtin id) r) (hs : CaS X.K r f) (hm : X.mg x = none) (hv : bootBuiltins x = some (.builtin id)) (ha : PA X (e :: es) (rA X.K cl W ms)) (hg : Gl X x := by rfl) (hn : x ≠ "__name__" := by decide) (hdb : (x == ("__debug__" : Str)) = false := by decide)
    (he : starEach (e :: es) X.env = (false, eval e X.env) :: starEach es X.env := by rfl) (hpl : (backTo pos (starEach es X.env)).any (·.1) = false := by rfl) : PE X (.Call (.Name x p) (e :: es) [] pos) (rE X.K cl W (mN f ms)) :=
  PE.by (pe_callB hc hg hm hv ha hn hdb he hpl) (mN_op hs)
theorem v_callTy (hc : CallR X (.type Ty) r) (hs : CaS X.K r f) (hm : X.mg x = none) (hv : bootBuiltins x = some (.type Ty)) (ha : PA X (e :: es) (rA X.K cl W ms)) (hg : Gl X x := by rfl) (hn : x ≠ "__name__" := by decide) (hdb : (x == ("__debug__" : Str)) = false := by decide)
    (he : starEach (e :: es) X.env = (false, eval e X.env) :: starEach es X.env := by rfl) (hpl : (backTo pos (starEach es X.env)).any (·.1) = false := by rfl) : PE X (.Call (.Name x p) (e :: es) [] pos) (rE X.K cl W (mN f ms)) :=
  PE.by (pe_callTy hc hg hm hv ha hn hdb he hpl) (mN_op hs)
end
end
end Hr
set_option Elab.async false
set_option linter.all false
set_option maxRecDepth 100000
set_option maxHeartbeats 4000000
namespace Hr
open PySem PySem.Spec PyProof.Rows L2
/-! ### zip and enumerate of lists and tuples in any mix: true is a list -/
def SqB (K : PySem.W.Frag) (b : Bool) (H : Hp) (a : Addr) (xs : List V) : Prop := match b with
  | true => SqL K H a xs
  | false => SqT K H a xs
def IterB (b : Bool) (h : Heap) (it a : Addr) (i : Nat) : Prop := match b with
  | true => h.IsListIter it a i
  | false => h.IsTupleIter it a i
def IsB (b : Bool) (h : Heap) (a : Addr) (its : Array Value) : Prop := match b with
  | true => h.IsList a its
  | false => h.IsTuple a its
section
variable {X : Cx} {pins : List (Addr × Obj)} {σ : L2.St} {H : Hp} {s : Shared} {a : Addr} {xs ys : List V} {b : Bool}
theorem seqB (I : Inv X pins σ H s) (h : SqB X.K b H a xs) : ∃ its : List Value, Vals xs its ∧ IsB b s.heap a its.toArray ∧ a < s.heap.objs.size := by
  cases b with
  | true =>
    obtain ⟨its, r, p, _⟩ := I.list h
    exact ⟨its, r, p.isList, p.lt⟩
  | false =>
    obtain ⟨its, r, p, _⟩ := I.tuple h
    exact ⟨its, r, p, p.lt⟩
theorem seqB_inj (I : Inv X pins σ H s) (h : SqB X.K b H a xs) (h' : SqB X.K b H a ys) : xs = ys := by
  cases b with
  | true => exact I.list_inj h h'
  | false => exact I.tuple_inj h h'
end
theorem IterB.at {b : Bool} {h h' : Heap} {it a : Addr} {i : Nat} (x : IterB b h it a i) (k : ∀ o, h.get? it = some o → h'.get? it = some o) : IterB b h' it a i := by
  cases b with
  | true => exact Heap.IsListIter.at x k
  | false => exact Heap.IsTupleIter.at x k
theorem IsB.at {b : Bool} {h h' : Heap} {a : Addr} {its : Array Value} (x : IsB b h a its) (k : ∀ o, h.get? a = some o → h'.get? a = some o) : IsB b h' a its := by
  cases b with
  | true => exact Heap.IsList.at x k
  | false => exact Heap.IsTuple.at x k
theorem IterB.obj {b : Bool} {h : Heap} {it a : Addr} {i : Nat} (x : IterB b h it a i) : ∃ o, h.get? it = some o ∧ ∀ v, o.data ≠ .cell v := by
  cases b with
  | true =>
    obtain ⟨o, e, _, d⟩ := x
    exact ⟨o, e, fun v q => by rw [d] at q; cases q⟩
  | false =>
    obtain ⟨o, e, _, d⟩ := x
    exact ⟨o, e, fun v q => by rw [d] at q; cases q⟩
theorem drawsB {prog : Program} {w : World} {A : Around} (hh : A.handled = none) (b : Bool) (it a : Addr) (hne : a ≠ it) (its : Array Value) :
    Draws prog w A it [it, a] its.size (fun i v => its[i]? = some v) fun i h => IterB b h it a i ∧ IsB b h a its := by
  cases b with
  | true => exact Draws.list hh it a hne its
  | false => exact Draws.tuple hh it a hne its
/-- what pyIter makes of it -/
def itO (b : Bool) (a : Addr) : Obj := { cls := .type (if b then "list_iterator" else "tuple_iterator"), data := .fields #[.ref a, .int 0 0] }
theorem begB (b : Bool) (a : Addr) (its : Array Value) : Begins (.ref a) (itO b a) fun h => IsB b h a its := by
  cases b with
  | true => exact begins_list a its
  | false => exact begins_tuple a its
theorem itO_iter {b : Bool} {h : Heap} {it a : Addr} (e : h.get? it = some (itO b a)) : IterB b h it a 0 := by
  cases b with
  | true => exact ⟨_, e, rfl, rfl⟩
  | false => exact ⟨_, e, rfl, rfl⟩

def ItzB (K : PySem.W.Frag) (b1 b2 : Bool) (a1 a2 : Addr) : It where
  go := fun i H => ∃ xs ys x y, SqB K b1 H a1 xs ∧ SqB K b2 H a2 ys ∧ xs[i]? = some x ∧ ys[i]? = some y
  yld := fun i H v H' => ∃ T x y, v = .ref T ∧ H T = none ∧ H' = upd H T (.tup [x, y]) ∧ (∀ xs, SqB K b1 H a1 xs → xs[i]? = some x) ∧ ∀ ys, SqB K b2 H a2 ys → ys[i]? = some y
  stop := fun i H => ∃ xs ys, SqB K b1 H a1 xs ∧ SqB K b2 H a2 ys ∧ i = min xs.length ys.length
def zfp (N : Nat) : List Addr := [N + 4, N + 2, N + 3, N, N + 1]
theorem zfp_of {N c : Nat} (h : c ∈ zfp N) : c = N + 4 ∨ c = N + 2 ∨ c = N + 3 ∨ c = N ∨ c = N + 1 := by
  unfold zfp at h
  simpa using h
abbrev ztn (b1 b2 : Bool) (a1 a2 : Addr) (N : Nat) : Nat → Heap → Prop := fun i h =>
  IsZip h (N + 4) (N + 2) (N + 3) .none ∧ IsTupOf2 h (N + 2) (.ref N) (.ref (N + 1)) ∧ (∃ x y, IsTupOf2 h (N + 3) x y) ∧ IterB b1 h N a1 i ∧ IterB b2 h (N + 1) a2 i
theorem ztn_obj {b1 b2 : Bool} {a1 a2 : Addr} {N i : Nat} {h : Heap} (st : ztn b1 b2 a1 a2 N i h) {c : Addr} (hc : c ∈ zfp N) : ∃ o, h.get? c = some o ∧ ∀ v, o.data ≠ .cell v := by
  obtain ⟨hz, hTI, ⟨x, y, hTO⟩, h1, h2⟩ := st
  rcases zfp_of hc with e | e | e | e | e
  · subst e; exact ⟨_, hz, fun v q => nomatch q⟩
  · subst e; exact ⟨_, hTI, fun v q => nomatch q⟩
  · subst e; exact ⟨_, hTO, fun v q => nomatch q⟩
  · subst e; exact h1.obj
  · subst e; exact h2.obj
theorem sub4 {N c : Nat} (h : c ∈ [N + 4, N + 3, N, N + 1]) : c ∈ zfp N := by
  unfold zfp
  simp only [List.mem_cons, List.not_mem_nil, or_false] at h ⊢
  rcases h with e | e | e | e
  · exact .inl e
  · exact .inr (.inr (.inl e))
  · exact .inr (.inr (.inr (.inl e)))
  · exact .inr (.inr (.inr (.inr e)))
theorem turn_zipB {P : Program} {w : World} {K : PySem.W.Frag} {elts : List Expr} {kk : Nat} {tpos : Pos} {b1 b2 : Bool} {a1 a2 : Addr} {N : Nat} (l1 : a1 < N) (l2 : a2 < N) :
    Turn P w K (.Tuple elts kk tpos) (ItzB K b1 b2 a1 a2) (zfp N) (N + 4) (ztn b1 b2 a1 a2 N) where
  mem := by simp [zfp]
  obj := fun i h st c hc => ztn_obj st hc
  keep := fun i h h' st k => by
    obtain ⟨hz, hTI, ⟨x, y, hTO⟩, h1, h2⟩ := st
    have m : ∀ {j : Nat}, j ∈ zfp N → ∀ o, h.get? j = some o → h'.get? j = some o := fun hj o e => k _ hj o e
    exact ⟨m (by simp [zfp]) _ hz, m (by simp [zfp]) _ hTI, ⟨x, y, m (by simp [zfp]) _ hTO⟩, h1.at (m (by simp [zfp])), h2.at (m (by simp [zfp]))⟩
  item := by
    intro X hP hw hK hc i pins s σ H E I hf st hg
    subst hP hw hK
    obtain ⟨xs, ys, x, y, hqx, hqy, hx, hy⟩ := hg
    obtain ⟨its, rv, p1, _⟩ := seqB I hqx
    obtain ⟨its2, rv2, p2, _⟩ := seqB I hqy
    obtain ⟨u, hu, ru⟩ := rv.get hx
    obtain ⟨u2, hu2, ru2⟩ := rv2.get hy
    have W := WalksT.zipD2 (prog := X.prog) (w := X.w) (A := X.A) (zip_sep2 (N := N) (fp1 := [a1]) (fp2 := [a2]) (fun b hb => by rw [List.mem_singleton.mp hb]; exact l1) (fun b hb => by rw [List.mem_singleton.mp hb]; exact l2))
      (drawsB (show X.A.in1.handled = none from I.ok.hd hc) b1 N a1 (Nat.ne_of_lt l1) its.toArray) (drawsB (show X.A.in1.handled = none from I.ok.hd hc) b2 (N + 1) a2 (Nat.ne_of_lt (Nat.lt_succ_of_lt l2)) its2.toArray)
    have hi : i < min its.toArray.size its2.toArray.size := by
      have q1 := (List.getElem?_eq_some_iff.mp hu).1
      have q2 := (List.getElem?_eq_some_iff.mp hu2).1
      rw [List.size_toArray, List.size_toArray]
      exact Nat.lt_min.mpr ⟨q1, q2⟩
    have old : ∀ c ∈ zfp N, c < s.heap.objs.size := fun c hcm => by
      obtain ⟨o, e, _⟩ := ztn_obj st hcm
      exact Heap.lt_size e
    have sub : ∀ c, c ∉ zfp N → c ∉ [N + 4, N + 3, N, N + 1] := fun c h q => h (sub4 q)
    obtain ⟨hz, hTI, hTO, h1, h2⟩ := st
    refine W.item i s _ E hi ⟨hz, hTI, hTO, ⟨h1, p1⟩, ⟨h2, p2⟩⟩ fun T vals h' tk hp hT hTup hmid hk => ?_
    refine ⟨_, rfl, W.go elts kk tpos i T { s with heap := h', toks := tk } _ E hmid fun h'' st' hk' => ?_⟩
    obtain ⟨v1, v2, e1, e2, rfl⟩ := hp
    have e1' : u = v1 := by
      have : its[i]? = some v1 := by simpa using e1
      rw [hu] at this
      exact Option.some.inj this
    have e2' : u2 = v2 := by
      have : its2[i]? = some v2 := by simpa using e2
      rw [hu2] at this
      exact Option.some.inj this
    subst e1' e2'
    have hTup2 : h''.IsTuple T #[u, u2] := Heap.IsTuple.at hTup fun o e => hk' T o (W.apart i T h' hmid) e
    have new : ObjOk X.prog X.w (upd H T (.tup [x, y])) h'' T (.tup [x, y]) := ⟨by show 2 ≤ sizeLine; decide, [u, u2], .cons ru (.cons ru2 .nil), hTup2⟩
    have I1 : Inv X pins σ (upd H T (.tup [x, y])) { s with heap := h'', toks := tk } :=
      I.turnedNew (ch := zfp N) (fun c o hb q => hk' c o (sub c hb) (hk c o (sub c hb) q)) hf hT new
    refine ⟨.ref T, _, I1, rfl, ⟨T, x, y, rfl, I.hok.fresh hT, rfl, fun l hl => by rw [seqB_inj I hl hqx]; exact hx, fun l hl => by rw [seqB_inj I hl hqy]; exact hy⟩, ⟨st'.1, st'.2.1, st'.2.2.1, st'.2.2.2.1.1, st'.2.2.2.2.1⟩, fun c hcm => ?_⟩
    rw [upd_ne (Nat.ne_of_lt (Nat.lt_of_lt_of_le (old c hcm) hT))]
    exact (hf c hcm).1
  done := by
    intro X hP hw hK hc i pins s σ H E I hf st hg
    subst hP hw hK
    obtain ⟨xs, ys, hqx, hqy, hi⟩ := hg
    obtain ⟨its, rv, p1, _⟩ := seqB I hqx
    obtain ⟨its2, rv2, p2, _⟩ := seqB I hqy
    have W := WalksT.zipD2 (prog := X.prog) (w := X.w) (A := X.A) (zip_sep2 (N := N) (fp1 := [a1]) (fp2 := [a2]) (fun b hb => by rw [List.mem_singleton.mp hb]; exact l1) (fun b hb => by rw [List.mem_singleton.mp hb]; exact l2))
      (drawsB (show X.A.in1.handled = none from I.ok.hd hc) b1 N a1 (Nat.ne_of_lt l1) its.toArray) (drawsB (show X.A.in1.handled = none from I.ok.hd hc) b2 (N + 1) a2 (Nat.ne_of_lt (Nat.lt_succ_of_lt l2)) its2.toArray)
    have ei : min its.toArray.size its2.toArray.size = i := by
      rw [List.size_toArray, List.size_toArray, ← rv.length, ← rv2.length, hi]
    obtain ⟨hz, hTI, hTO, h1, h2⟩ := st
    refine W.done s _ E (by rw [ei]; exact ⟨hz, hTI, hTO, ⟨h1, p1⟩, ⟨h2, p2⟩⟩) fun h' tk hk => ?_
    refine ⟨rfl, I.turnedL (ch := zfp N) (fun c o hb q => hk c o (fun z => hb ?_) q) hf⟩
    exact sub4 z
  self := fun A i s Q E st h => wpAny_pyIter_zip st.1 h
def iZipB (K : PySem.W.Frag) (ta : TA) : TI := fun σ H R => ta σ H fun vs H1 => ∃ b1 b2 a1 a2 xs ys, vs = [.ref a1, .ref a2] ∧ SqB K b1 H1 a1 xs ∧ SqB K b2 H1 a2 ys ∧ R (ItzB K b1 b2 a1 a2) H1
theorem pi_zipB {X : Cx} {e e2 : Expr} {ta : TA} {p pos tpos : Pos} {elts : List Expr} {kk : Nat} (hm : X.mg "zip" = none) (ha : PA X [e, e2] ta) (hg : Gl X "zip" := by rfl)
    (hs : starEach [e, e2] X.env = (false, eval e X.env) :: starEach [e2] X.env := by rfl) (hpl : (backTo pos (starEach [e2] X.env)).any (·.1) = false := by rfl) :
    PI X (.Tuple elts kk tpos) (.Call (.Name "zip" p) [e, e2] [] pos) (iZipB X.K ta) := ⟨fun pins s σ H R I h =>
  Call_ (ld_blt I hg hm PyProof.Rows.boot_zip (PyProof.Rows.callWith_type1 (thn (ha.run pos pins s σ H _ I h) fun us s1 ⟨vs, H1, I1, r1, q1⟩ => by
    obtain ⟨b1, b2, a1, a2, xs, ys, ex, hqx, hqy, q⟩ := q1
    subst ex
    obtain ⟨w1, w2, ew, q1, q2⟩ := vals2 r1
    subst ew
    obtain rfl : w1 = Value.ref a1 := q1
    obtain rfl : w2 = Value.ref a2 := q2
    obtain ⟨its, rv, p1, l1⟩ := seqB I1 hqx
    obtain ⟨its2, rv2, p2, l2⟩ := seqB I1 hqy
    refine zip_begins2 (begB b1 a1 its.toArray) (begB b2 a2 its2.toArray) p1 p2 fun h' hz hTI hTO g1 g2 hsz hk => wpAny_pyIter_zip hz ?_
    refine ⟨_, zfp s1.heap.objs.size, _, _, H1, rfl, I1.kept (t' := s1.toks) hk, turn_zipB l1 l2, ⟨hz, hTI, ⟨_, _, hTO⟩, itO_iter g1, itO_iter g2⟩, fun c hcm => ?_, q⟩
    have hle : s1.heap.objs.size ≤ c := by
      have z := zfp_of (N := s1.heap.objs.size) (c := c) hcm
      omega
    exact I1.fpOk hle (I1.hok.fresh hle)) hs hpl))⟩
/-! enumerate -/
theorem meets_enum1 {v : Value} {o : Obj} {H : Heap → Prop} (B : Begins v o H) : Meets (Builtin.«enumerate.__new__» ⟨[.type "enumerate", v], []⟩) (fun _ R s => H s.heap ∧
    R (.ok (.ret (.ref (s.heap.push o).objs.size))) { s with heap := (s.heap.push o).push { cls := .type "enumerate", data := .fields #[.none, .bool false, .ref s.heap.objs.size, rawInt 0, .none, .none] } }) := by
  refine .of_wp fun prog w A R s h => ?_
  obtain ⟨hp, g, d, tk, os⟩ := s
  have hsub := sub_enumerate
  have q1 : ∀ {A' : Around} {E Q : Value → Shared → Prop}, Q (.ref hp.objs.size) ⟨hp.push o, g, d, tk, os⟩ → wpAny (model prog w) A' (pyIter v) Q E ⟨hp, g, d, tk, os⟩ := fun q => B.iter prog w _ _ ⟨hp, g, d, tk, os⟩ _ h.1 q
  wp_walk using q1
  refine wpAny_stack_any fun st => wpAny_pure ?_
  have r2 := h.2
  split
  · rename_i c _ _ _ _ _
    cases (c == Value.type "enumerate")
    · wp_walk using q1
      first | exact ⟨_, rfl, r2⟩ | exact r2
    · wp_walk using q1
      first | exact ⟨_, rfl, r2⟩ | exact r2
  · wp_walk using q1
    first | exact ⟨_, rfl, r2⟩ | exact r2
end Hr
set_option Elab.async false
set_option linter.all false
set_option maxRecDepth 100000
set_option maxHeartbeats 4000000
namespace Hr
open PySem PySem.Spec PyProof.Rows L2
def IteB (K : PySem.W.Frag) (b : Bool) (a : Addr) : It where
  go := fun i H => ∃ xs x, SqB K b H a xs ∧ xs[i]? = some x
  yld := fun i H v H' => ∃ T x, v = .ref T ∧ H T = none ∧ H' = upd H T (.tup [.int (i : Nat), x]) ∧ ∀ xs, SqB K b H a xs → xs[i]? = some x
  stop := fun i H => ∃ xs, SqB K b H a xs ∧ i = xs.length
abbrev etn (b : Bool) (a : Addr) (N : Nat) : Nat → Heap → Prop := fun i h => (∃ old, IsEnum h (N + 1) N ((0 : Int) + (i : Int)) old) ∧ IterB b h N a i
theorem etn_obj {b : Bool} {a : Addr} {N i : Nat} {h : Heap} (st : etn b a N i h) {c : Addr} (hc : c ∈ [N + 1, N]) : ∃ o, h.get? c = some o ∧ ∀ v, o.data ≠ .cell v := by
  obtain ⟨⟨old, he⟩, h1⟩ := st
  simp only [List.mem_cons, List.not_mem_nil, or_false] at hc
  rcases hc with e | e
  · subst e; exact ⟨_, he, fun v q => nomatch q⟩
  · subst e; exact h1.obj
theorem turn_enumB {P : Program} {w : World} {K : PySem.W.Frag} {elts : List Expr} {kk : Nat} {tpos : Pos} {b : Bool} {a : Addr} {N : Nat} (l1 : a < N) :
    Turn P w K (.Tuple elts kk tpos) (IteB K b a) [N + 1, N] (N + 1) (etn b a N) where
  mem := by simp
  obj := fun i h st c hc => etn_obj st hc
  keep := fun i h h' st k => by
    obtain ⟨⟨old, he⟩, h1⟩ := st
    exact ⟨⟨old, k (N + 1) (by simp) _ he⟩, h1.at fun o e => k N (by simp) o e⟩
  item := by
    intro X hP hw hK hc i pins s σ H E I hf st hg
    subst hP hw hK
    obtain ⟨xs, x, hqx, hx⟩ := hg
    obtain ⟨its, rv, p1, _⟩ := seqB I hqx
    obtain ⟨u, hu, ru⟩ := rv.get hx
    have W := WalksT.enumFrom (prog := X.prog) (w := X.w) (A := X.A) 0 (drawsB (show X.A.in1.handled = none from I.ok.hd hc) b N a (Nat.ne_of_lt l1) its.toArray) (N + 1) (Nat.succ_ne_self N) (fun q => by
      simp only [List.mem_cons, List.not_mem_nil, or_false] at q
      rcases q with e | e
      · exact Nat.succ_ne_self N e
      · exact Nat.ne_of_lt (Nat.lt_succ_of_lt l1) e.symm) (List.mem_cons_self ..)
    have hi : i < its.toArray.size := by
      rw [List.size_toArray]
      exact (List.getElem?_eq_some_iff.mp hu).1
    have old : ∀ c ∈ [N + 1, N], c < s.heap.objs.size := fun c hcm => by
      obtain ⟨o, e, _⟩ := etn_obj st hcm
      exact Heap.lt_size e
    obtain ⟨he, h1⟩ := st
    refine W.item i s _ E hi ⟨he, h1, p1⟩ fun T vals h' tk hp hT hTup hmid hk => ?_
    refine ⟨_, rfl, W.go elts kk tpos i T { s with heap := h', toks := tk } _ E hmid fun h'' st' hk' => ?_⟩
    obtain ⟨t, v1, e1, ev⟩ := hp
    subst ev
    have e1' : u = v1 := by
      have : its[i]? = some v1 := by simpa using e1
      rw [hu] at this
      exact Option.some.inj this
    subst e1'
    have hTup2 : h''.IsTuple T #[.int ((0 : Int) + (i : Int)) t, u] := Heap.IsTuple.at hTup fun o e => hk' T o (W.apart i T h' hmid) e
    have e0 : (0 : Int) + (i : Int) = (i : Int) := Int.zero_add _
    rw [e0] at hTup2
    have new : ObjOk X.prog X.w (upd H T (.tup [.int (i : Nat), x])) h'' T (.tup [.int (i : Nat), x]) := ⟨by show 2 ≤ sizeLine; decide, [.int (i : Nat) t, u], .cons ⟨t, rfl⟩ (.cons ru .nil), hTup2⟩
    have I1 : Inv X pins σ (upd H T (.tup [.int (i : Nat), x])) { s with heap := h'', toks := tk } :=
      I.turnedNew (ch := [N + 1, N]) (fun c o hb q => hk' c o hb (hk c o hb q)) hf hT new
    refine ⟨.ref T, _, I1, rfl, ⟨T, x, rfl, I.hok.fresh hT, rfl, fun l hl => by rw [seqB_inj I hl hqx]; exact hx⟩, ⟨st'.1, st'.2.1⟩, fun c hcm => ?_⟩
    rw [upd_ne (Nat.ne_of_lt (Nat.lt_of_lt_of_le (old c hcm) hT))]
    exact (hf c hcm).1
  done := by
    intro X hP hw hK hc i pins s σ H E I hf st hg
    subst hP hw hK
    obtain ⟨xs, hqx, hi⟩ := hg
    obtain ⟨its, rv, p1, _⟩ := seqB I hqx
    have W := WalksT.enumFrom (prog := X.prog) (w := X.w) (A := X.A) 0 (drawsB (show X.A.in1.handled = none from I.ok.hd hc) b N a (Nat.ne_of_lt l1) its.toArray) (N + 1) (Nat.succ_ne_self N) (fun q => by
      simp only [List.mem_cons, List.not_mem_nil, or_false] at q
      rcases q with e | e
      · exact Nat.succ_ne_self N e
      · exact Nat.ne_of_lt (Nat.lt_succ_of_lt l1) e.symm) (List.mem_cons_self ..)
    have ei : its.toArray.size = i := by
      rw [List.size_toArray, ← rv.length, hi]
    obtain ⟨he, h1⟩ := st
    refine W.done s _ E (by rw [ei]; exact ⟨he, h1, p1⟩) fun h' tk hk => ?_
    exact ⟨rfl, I.turnedL (ch := [N + 1, N]) (fun c o hb q => hk c o hb q) hf⟩
  self := fun A i s Q E st h => let ⟨⟨_, he⟩, _⟩ := st; wpAny_pyIter_enum he h
theorem call_enumB {prog : Program} {w : World} {A : Around} {E : Value → Shared → Prop} {s : Shared} {v : Value} {o : Obj} {H : Heap → Prop} {Q : Value → Shared → Prop} (B : Begins v o H) (h1 : H s.heap)
    (h : ∀ h', IsEnum h' (s.heap.objs.size + 1) s.heap.objs.size 0 .none → h'.get? s.heap.objs.size = some o → (∀ b u, s.heap.get? b = some u → h'.get? b = some u) → Q (.ref (s.heap.objs.size + 1)) { s with heap := h' }) :
    wpAny (model prog w) A (call (.type "enumerate") [v]) Q E s := by
  refine callType_new F.called_enumerate (by decide) (F.typeCall_enumerate_1 _) (F.newCall_enumerate_1 _) (fun obj => F.args_object_init_2 obj _) F.entry_enumerate_new (meets_enum1 B) ⟨h1, ?_⟩
  have hz : (s.heap.push o).objs.size = s.heap.objs.size + 1 := Heap.size_push ..
  have he := Heap.get?_push_size (s.heap.push o) (o := { cls := .type "enumerate", data := .fields #[.none, .bool false, .ref s.heap.objs.size, rawInt 0, .none, .none] }) rfl
  have ho : ((s.heap.push o).push { cls := .type "enumerate", data := .fields #[.none, .bool false, .ref s.heap.objs.size, rawInt 0, .none, .none] }).get? s.heap.objs.size = some o := Heap.get?_push_of_some _ (Heap.get?_push_size _ B.free)
  rw [hz] at he
  show _ ∧ _
  rw [hz]
  exact ⟨⟨_, he, rfl⟩, h _ he ho fun b u q => Heap.get?_push_of_some _ (Heap.get?_push_of_some _ q)⟩
def iEnumB (K : PySem.W.Frag) (ta : TA) : TI := fun σ H R => ta σ H fun vs H1 => ∃ b a xs, vs = [.ref a] ∧ SqB K b H1 a xs ∧ R (IteB K b a) H1
theorem pi_enumB {X : Cx} {e : Expr} {ta : TA} {p pos tpos : Pos} {elts : List Expr} {kk : Nat} (hm : X.mg "enumerate" = none) (ha : PA X [e] ta) (hg : Gl X "enumerate" := by rfl)
    (hs : starEach [e] X.env = [(false, eval e X.env)] := by rfl) : PI X (.Tuple elts kk tpos) (.Call (.Name "enumerate" p) [e] [] pos) (iEnumB X.K ta) := ⟨fun pins s σ H R I h =>
  Call_ (ld_blt I hg hm boot_enumerate (PyProof.Rows.callWith_type1 (thn (ha.run pos pins s σ H _ I h) fun us s1 ⟨vs, H1, I1, r1, q1⟩ => by
    obtain ⟨b, a, xs, ex, hqx, q⟩ := q1
    subst ex
    obtain ⟨w1, ew, q1⟩ := vals1 r1
    subst ew
    obtain rfl : w1 = Value.ref a := q1
    obtain ⟨its, rv, p1, l1⟩ := seqB I1 hqx
    refine call_enumB (begB b a its.toArray) p1 fun h' he ho hk => wpAny_pyIter_enum he ?_
    refine ⟨_, [s1.heap.objs.size + 1, s1.heap.objs.size], _, _, H1, rfl, I1.kept (t' := s1.toks) hk, turn_enumB l1, ⟨⟨_, he⟩, itO_iter ho⟩, fun c hcm => ?_, q⟩
    have hle : s1.heap.objs.size ≤ c := by
      simp only [List.mem_cons, List.not_mem_nil, or_false] at hcm
      rcases hcm with z | z
      · rw [z]; exact Nat.le_succ _
      · rw [z]; exact Nat.le_refl _
    exact I1.fpOk hle (I1.hok.fresh hle)) hs rfl))⟩
/-! a list, a tuple or a text walked -/
def iSeq (K : PySem.W.Frag) (tl : TE) : TI := fun σ H R => tl σ H fun x H1 => (∃ a xs, x = .ref a ∧ SqL K H1 a xs ∧ R (Itl K a) H1) ∨ (∃ a xs, x = .ref a ∧ SqT K H1 a xs ∧ R (Itt K a) H1)
theorem pi_seq {X : Cx} {tg l : Expr} {tl : TE} (hl : PE X l tl) : PI X tg l (iSeq X.K tl) := ⟨fun pins s σ H R I h => thn (hl.run pins s σ H _ I h) fun v s1 ⟨x, H1, I1, r1, q1⟩ => by
  have f1 : ∀ b ∈ [s1.heap.objs.size], FpOk X pins H1 b := fun b hb => by
    rw [List.mem_singleton.mp hb]
    exact I1.fpOk (Nat.le_refl _) (I1.hok.fresh (Nat.le_refl _))
  have I2 : ∀ o : Obj, Inv X pins σ H1 { s1 with heap := s1.heap.push o } := fun o => I1.kept (t' := s1.toks) fun b u e => Heap.get?_push_of_some _ e
  rcases q1 with ⟨a, xs, e, hq, q⟩ | ⟨a, xs, e, hq, q⟩
  · subst e
    cases r1
    obtain ⟨its, rv, p, _⟩ := I1.list hq
    exact wpAny_pyIter_list p.isList ⟨s1.heap.objs.size, [s1.heap.objs.size], _, _, H1, rfl, I2 _, turn_list a _, ⟨_, Heap.get?_push_size _ rfl, rfl, rfl⟩, f1, q⟩
  · subst e
    cases r1
    obtain ⟨its, rv, p, _⟩ := I1.tuple hq
    exact wpAny_pyIter_tuple (show s1.heap.IsTuple a its.toArray from p) ⟨s1.heap.objs.size, [s1.heap.objs.size], _, _, H1, rfl, I2 _, turn_tuple a _, ⟨_, Heap.get?_push_size _ rfl, rfl, rfl⟩, f1, q⟩⟩
end Hr
set_option Elab.async false
set_option linter.all false
set_option maxRecDepth 100000
set_option maxHeartbeats 4000000
namespace Hr
open PySem PySem.Spec PyProof.Rows L2
/-! ### what is walked, in the mirror -/
inductive Itv where
  | seq (x : Vd)
  | rng (lo : Int) (n : Nat)
  | zp (x y : Vd)
  | en (x : Vd)
  | str (z : Str)
inductive Xt where
  | one (d : Vd)
  | two (a b : Vd)
def pairAt (i : Nat) (xs ys : List Vd) : Option (Option Xt) := match xs[i]?, ys[i]? with
  | some a, some b => some (some (.two a b))
  | _, _ => if i = min xs.length ys.length then some none else none
def enumAt (i : Nat) (xs : List Vd) : Option (Option Xt) := match xs[i]? with
  | some a => some (some (.two (.dat (.int (i : Nat))) a))
  | none => if i = xs.length then some none else none
def nextOf (it : Itv) (i : Nat) (T : Tab) : Option (Option Xt) := match it with
  | .seq x => match itemsOf x T with
    | some xs => some ((xs[i]?).map .one)
    | none => none
  | .rng lo n => some (if i < n then some (.one (.dat (.int (lo + (i : Nat))))) else none)
  | .zp x y => match itemsOf x T, itemsOf y T with
    | some xs, some ys => pairAt i xs ys
    | _, _ => none
  | .en x => match itemsOf x T with
    | some xs => enumAt i xs
    | none => none
  | .str z => some ((z.cps[i]?).map fun c => .one (.dat (.str ⟨#[c]⟩)))
def lenOf (x : Vd) (T : Tab) : Nat := match itemsOf x T with
  | some xs => xs.length
  | none => 0
def fuelOf (it : Itv) (T : Tab) : Nat := match it with
  | .seq x => lenOf x T
  | .rng _ n => n
  | .zp x y => min (lenOf x T) (lenOf y T)
  | .en x => lenOf x T
  | .str z => z.cps.size
abbrev MI := Rho → Tab → Re Itv
def hasItems (x : Vd) (T : Tab) : Bool := match itemsOf x T with
  | some _ => true
  | none => false
def mSeq (m : ME) : MI := fun ρ T => (m ρ T).bd fun x T => if hasItems x T = true then .ok (.seq x) T else .bad
def mStr (m : ME) : MI := fun ρ T => (m ρ T).bd fun x T => match x with
  | .dat (.str z) => .ok (.str z) T
  | _ => .bad
def okR (i : Int) : Bool := decide (-(2 ^ 62) ≤ i ∧ i < 2 ^ 62)
def mRng1 (m : MA) : MI := fun ρ T => (m ρ T).bd fun ds T => match ds with
  | [.dat (.int n)] => if okR n = true then .ok (.rng 0 n.toNat) T else .bad
  | _ => .bad
def mRng2 (m : MA) : MI := fun ρ T => (m ρ T).bd fun ds T => match ds with
  | [.dat (.int a), .dat (.int b)] => if (okR a && okR b) = true then .ok (.rng a (b - a).toNat) T else .bad
  | _ => .bad
def mZip (m : MA) : MI := fun ρ T => (m ρ T).bd fun ds T => match ds with
  | [x, y] => if (hasItems x T && hasItems y T) = true then .ok (.zp x y) T else .bad
  | _ => .bad
def mEnum (m : MA) : MI := fun ρ T => (m ρ T).bd fun ds T => match ds with
  | [x] => if hasItems x T = true then .ok (.en x) T else .bad
  | _ => .bad
/-! targets -/
abbrev MG := Xt → Rho → Tab → Re Rho
abbrev MGs := List Vd → Rho → Tab → Re Rho
def gNm (i : Nat) : MG := fun x ρ T => match x with
  | .one d => .ok (ρ.set i (some d)) T
  | .two _ _ => .bad
def gTp (n : Nat) (g : MGs) : MG := fun x ρ T => match x with
  | .two a b => if n = 2 then g [a, b] ρ T else .bad
  | .one (.dat (.tuple xs)) => if xs.length = n then g (xs.map Vd.dat) ρ T else .bad
  | _ => .bad
def gNl : MGs := fun ds ρ T => match ds with
  | [] => .ok ρ T
  | _ => .bad
def gCs (g : MG) (r : MGs) : MGs := fun ds ρ T => match ds with
  | d :: ds => (g (.one d) ρ T).bd fun ρ T => r ds ρ T
  | _ => .bad
/-- a[i] = d, a list of one's own -/
def gSb (a i : ME) : MG := fun x ρ T => match x with
  | .one d => (a ρ T).bd fun o T => (i ρ T).bd fun n T => match o, n with
    | .own k, .dat (.int j) => match T[k]? with
      | some (some xs) => match ixN xs.length j with
        | some m => .ok ρ (T.set k (some (xs.set m d)))
        | none => .bad
      | _ => .bad
    | _, _ => .bad
  | _ => .bad
/-! statements -/
def sSkip : MS := fun ρ T => .ok (.nx ρ) T
def sSeq (a b : MS) : MS := fun ρ T => (a ρ T).bd fun fl T => match fl with
  | .nx ρ => b ρ T
  | .rt d => .ok (.rt d) T
def sAsg (m : ME) (g : MG) : MS := fun ρ T => (m ρ T).bd fun d T => (g (.one d) ρ T).bd fun ρ T => .ok (.nx ρ) T
/-- a, b = x, y: no tuple is seen -/
def sMul (n : Nat) (m : MA) (g : MGs) : MS := fun ρ T => (m ρ T).bd fun ds T => if ds.length = n then (g ds ρ T).bd fun ρ T => .ok (.nx ρ) T else .bad
def sPar (i j : Nat) (m : MA) : MS := fun ρ T => (m ρ T).bd fun ds T => match ds with
  | [x, y] => .ok (.nx ((ρ.set i (some x)).set j (some y))) T
  | _ => .bad
def sRet (m : ME) : MS := fun ρ T => (m ρ T).bd fun d T => .ok (.rt d) T
def sIf (c : ME) (a b : MS) : MS := fun ρ T => (c ρ T).bd fun x T => match x with
  | .dat (.bool true) => a ρ T
  | .dat (.bool false) => b ρ T
  | _ => .bad
def sDrop (m : ME) : MS := fun ρ T => (m ρ T).bd fun _ T => .ok (.nx ρ) T
def sApp (a e : ME) : MS := fun ρ T => (a ρ T).bd fun o T => match o with
  | .own k => if liv (.own k) T = true then (e ρ T).bd fun d T => match T[k]? with
      | some (some xs) => if xs.length ≤ 100000 then .ok (.nx ρ) (T.set k (some (xs ++ [d]))) else .bad
      | _ => .bad
    else .bad
  | _ => .bad
def sRaise (c : Nat) : MS := fun _ T => .er c T
def loop (it : Itv) (g : MG) (body : MS) : Nat → Nat → Rho → Tab → Re Fl
  | 0, i, ρ, T => match nextOf it i T with
    | some none => .ok (.nx ρ) T
    | _ => .bad
  | n + 1, i, ρ, T => match nextOf it i T with
    | some none => .ok (.nx ρ) T
    | some (some x) => (g x ρ T).bd fun ρ T => (body ρ T).bd fun fl T => match fl with
      | .nx ρ => loop it g body n (i + 1) ρ T
      | .rt d => .ok (.rt d) T
    | none => .bad
def sFor (m : MI) (g : MG) (body : MS) : MS := fun ρ T => (m ρ T).bd fun it T => loop it g body (fuelOf it T) 0 ρ T
def wloop (c : ME) (body : MS) : Nat → Rho → Tab → Re Fl
  | 0, _, _ => .bad
  | n + 1, ρ, T => (c ρ T).bd fun x T => match x with
    | .dat (.bool true) => (body ρ T).bd fun fl T => match fl with
      | .nx ρ => wloop c body n ρ T
      | .rt d => .ok (.rt d) T
    | .dat (.bool false) => .ok (.nx ρ) T
    | _ => .bad
def sWhile (c : ME) (body : MS) : MS := fun ρ T => wloop c body 100 ρ T
/-! comprehensions: the new list stands at the place k of the table; no error leaves them -/
def Re.ne {α : Type} (r : Re α) : Re α := match r with
  | .er _ _ => .bad
  | r => r
@[simp] theorem ne_ok {α : Type} (a : α) (T : Tab) : (Re.ok a T).ne = .ok a T := rfl
def lcEnd (k : Nat) (T : Tab) : Re Vd := match T[k]? with
  | some (some acc) => match dats acc with
    | some xs => if closed k T = true then .ok (.dat (.list xs)) (T.take k) else .bad
    | none => .bad
  | _ => .bad
def lcPut (k : Nat) (next : Tab → Re Vd) (d : Vd) (T : Tab) : Re Vd := match T[k]? with
  | some (some acc) => if acc.length ≤ 100000 then next (T.set k (some (acc ++ [d]))) else .bad
  | _ => .bad
def lcEl (el : ME) (k : Nat) (next : Tab → Re Vd) (ρ : Rho) (b : Vd) (T : Tab) : Re Vd := match b with
  | .dat (.bool true) => (el ρ T).ne.bd (lcPut k next)
  | .dat (.bool false) => next T
  | _ => .bad
def lcStep (bnd : Xt → Rho → Option Rho) (tt el : ME) (k : Nat) (x : Xt) (ρ : Rho) (T : Tab) (next : Tab → Re Vd) : Re Vd := match bnd x ρ with
  | some ρ1 => (tt ρ1 T).ne.bd (lcEl el k next ρ1)
  | none => .bad
def lcl (it : Itv) (bnd : Xt → Rho → Option Rho) (tt el : ME) (k : Nat) : Nat → Nat → Rho → Tab → Re Vd
  | 0, i, _, T => match nextOf it i T with
    | some none => lcEnd k T
    | _ => .bad
  | n + 1, i, ρ, T => match nextOf it i T with
    | some none => lcEnd k T
    | some (some x) => lcStep bnd tt el k x ρ T fun T => lcl it bnd tt el k n (i + 1) ρ T
    | none => .bad
def bnd1 (i : Nat) : Xt → Rho → Option Rho := fun x ρ => match x with
  | .one d => some (ρ.set i (some d))
  | _ => none
def bnd2 (i j : Nat) : Xt → Rho → Option Rho := fun x ρ => match x with
  | .two a b => some ((ρ.set i (some a)).set j (some b))
  | .one (.dat (.tuple [a, b])) => some ((ρ.set i (some (.dat a))).set j (some (.dat b)))
  | _ => none
def mLc1 (m : MI) (i : Nat) (tt el : ME) : ME := fun ρ T => (m ρ T).bd fun it T => lcl it (bnd1 i) tt el T.length (fuelOf it T) 0 (ρ.set i none) (T ++ [some []])
def mLc2 (m : MI) (i j : Nat) (tt el : ME) : ME := fun ρ T => (m ρ T).bd fun it T => lcl it (bnd2 i j) tt el T.length (fuelOf it T) 0 ((ρ.set j none).set i none) (T ++ [some []])

/-! ### iterators and their mirrors -/
def XR (K : PySem.W.Frag) (F : Hp) (as : List Addr) (H : Hp) (v : V) : Xt → Prop
  | .one d => VR K F as v d
  | .two a b => ∃ p x y, v = .ref p ∧ H p = some (.tup [x, y]) ∧ VR K F as x a ∧ VR K F as y b
structure ItR (K : PySem.W.Frag) (F : Hp) (as : List Addr) (J : It) (it : Itv) : Prop where
  go : ∀ (F' : Hp) (as' : List Addr) (H : Hp) (T : Tab) (i : Nat) (x : Xt), Gr F as F' as' → Rl K F' as' H T → nextOf it i T = some (some x) → J.go i H ∧ ∀ v H', J.yld i H v H' → Rl K F' as' H' T ∧ XR K F' as' H' v x
  stop : ∀ (F' : Hp) (as' : List Addr) (H : Hp) (T : Tab) (i : Nat), Gr F as F' as' → Rl K F' as' H T → nextOf it i T = some none → J.stop i H
theorem ItR.mono {K : PySem.W.Frag} {F F' : Hp} {as as' : List Addr} {J : It} {it : Itv} (g : Gr F as F' as') (h : ItR K F as J it) : ItR K F' as' J it :=
  ⟨fun F2 as2 H T i x g2 => h.go F2 as2 H T i x (g.trans g2), fun F2 as2 H T i g2 => h.stop F2 as2 H T i (g.trans g2)⟩
def rI (K : PySem.W.Frag) (cl : Cl) (W : WX) (m : MI) : TI := fun σ H R => ∃ F as ρ T, Rl K F as H T ∧ SR K F as σ ρ ∧ Po K F as (m ρ T) (fun it F' as' H' _ => ∀ J, ItR K F' as' J it → R J H') fun c H' => W (cl c) none σ H'
/-- a list, not a tuple -/
def kindB : Vd → Bool
  | .dat (.tuple _) => false
  | _ => true
section
variable {K : PySem.W.Frag} {F F' H : Hp} {as as' : List Addr} {T : Tab} {v : V} {p p1 p2 : Addr}
theorem items_B (rl : Rl K F as H T) : ∀ {d : Vd} {xs : List Vd}, VR K F as v d → itemsOf d T = some xs → ∃ p vs, v = .ref p ∧ SqB K (kindB d) H p vs ∧ VRs K F as vs xs
  | .dat (.tuple ds), xs, h, e => by
    cases e
    cases h with
    | tup hs ha => exact ⟨_, _, rfl, rl.ex.tup hs, VRs.of_da ha⟩
  | .scr ns, xs, ⟨a, hx, hs⟩, e => by
    obtain ⟨p, vs, h1, h2, h3⟩ := items_l rl (d := .scr ns) ⟨a, hx, hs⟩ e
    cases e
    refine ⟨a, _, hx, rl.ex.seq hs, ?_⟩
    clear hs h1 h2 h3
    induction ns with
    | nil => exact .nil
    | cons n ns ih => exact .cons (Da.int n) ih
  | .dat (.list ds), xs, h, e => by
    obtain ⟨p, vs, h1, h2, h3⟩ := lst_l rl (d := .dat (.list ds)) rfl h e
    exact ⟨p, vs, h1, SqL.of h2, h3⟩
  | .own k, xs, h, e => by
    obtain ⟨p, vs, h1, h2, h3⟩ := lst_l rl (d := .own k) rfl h e
    exact ⟨p, vs, h1, SqL.of h2, h3⟩
  | .dat .none, _, _, e => by cases e
  | .dat (.bool _), _, _, e => by cases e
  | .dat (.int _), _, _, e => by cases e
  | .dat (.str _), _, _, e => by cases e
  | .dat (.dict _), _, _, e => by cases e
theorem items_at {F0 : Hp} {as0 : List Addr} {x : Vd} {xs : List Vd} (g : Gr F0 as0 F as) (rl : Rl K F as H T) (h : VR K F0 as0 (.ref p) x) (e : itemsOf x T = some xs) : ∃ vs, SqB K (kindB x) H p vs ∧ VRs K F as vs xs := by
  obtain ⟨q, vs, h1, h2, h3⟩ := items_B rl (VR.mono g h) e
  cases h1
  exact ⟨vs, h2, h3⟩
theorem nx_seq {x : Vd} {i : Nat} {r : Option Xt} (h : nextOf (.seq x) i T = some r) : ∃ xs, itemsOf x T = some xs ∧ r = (xs[i]?).map .one := by
  have h2 : (match itemsOf x T with
    | some xs => some ((xs[i]?).map .one)
    | none => none) = some r := h
  split at h2
  · exact ⟨_, by assumption, (Option.some.inj h2).symm⟩
  · cases h2
theorem none_len {α β : Type} {xs : List α} {ys : List β} {i : Nat} (h : xs[i]? = none) (e : ys.length = xs.length) : ys.length ≤ i := by
  rw [e]
  exact List.getElem?_eq_none_iff.mp h
theorem itr_seq {x : Vd} (h : VR K F as (.ref p) x) : ItR K F as (match kindB x with
  | true => Itl K p
  | false => Itt K p) (.seq x) := by
  constructor
  · intro F' as' H T i xt g rl e
    obtain ⟨xs, ex, er⟩ := nx_seq e
    obtain ⟨vs, hs, hv⟩ := items_at g rl h ex
    obtain ⟨d, hd, exd⟩ : ∃ d, xs[i]? = some d ∧ xt = .one d := by
      cases q : xs[i]? with
      | none => rw [q] at er; cases er
      | some d => rw [q] at er; exact ⟨d, rfl, Option.some.inj er⟩
    subst exd
    obtain ⟨v, h1, h2⟩ := hv.get hd
    cases hk : kindB x with
    | true =>
      rw [hk] at hs
      refine ⟨⟨vs, v, hs, h1⟩, fun u H' y => ?_⟩
      obtain ⟨rfl, y2⟩ := y
      have y3 := y2 vs hs
      rw [h1] at y3
      cases y3
      exact ⟨rl, h2⟩
    | false =>
      rw [hk] at hs
      refine ⟨⟨vs, v, hs, h1⟩, fun u H' y => ?_⟩
      obtain ⟨rfl, y2⟩ := y
      have y3 := y2 vs hs
      rw [h1] at y3
      cases y3
      exact ⟨rl, h2⟩
  · intro F' as' H T i g rl e
    obtain ⟨xs, ex, er⟩ := nx_seq e
    obtain ⟨vs, hs, hv⟩ := items_at g rl h ex
    have hn : xs[i]? = none := by
      cases q : xs[i]? with
      | none => rfl
      | some d => rw [q] at er; cases er
    cases hk : kindB x with
    | true =>
      rw [hk] at hs
      exact ⟨vs, hs, none_len hn hv.len⟩
    | false =>
      rw [hk] at hs
      exact ⟨vs, hs, none_len hn hv.len⟩
theorem itr_rng {lo : Int} {n : Nat} : ItR K F as (Itr lo n) (.rng lo n) := by
  constructor
  · intro F' as' H T i xt g rl e
    have e2 : some (if i < n then some (Xt.one (.dat (.int (lo + (i : Nat))))) else none) = some (some xt) := e
    by_cases hi : i < n
    · rw [if_pos hi] at e2
      cases e2
      exact ⟨hi, fun v H' y => by
        obtain ⟨rfl, rfl⟩ := y
        exact ⟨rl, Da.int _⟩⟩
    · rw [if_neg hi] at e2
      cases e2
  · intro F' as' H T i g rl e
    have e2 : some (if i < n then some (Xt.one (.dat (.int (lo + (i : Nat))))) else none) = some none := e
    by_cases hi : i < n
    · rw [if_pos hi] at e2
      cases e2
    · exact Nat.le_of_not_lt hi
theorem itr_str {z : Str} : ItR K F as (Its z) (.str z) := by
  constructor
  · intro F' as' H T i xt g rl e
    have e2 : some ((z.cps[i]?).map fun c => Xt.one (.dat (.str ⟨#[c]⟩))) = some (some xt) := e
    cases q : z.cps[i]? with
    | none => rw [q] at e2; cases e2
    | some c =>
      rw [q] at e2
      cases e2
      have hi : i < z.cps.size := by
        obtain ⟨h, _⟩ := Array.getElem?_eq_some_iff.mp q
        exact h
      refine ⟨hi, fun v H' y => ?_⟩
      obtain ⟨rfl, c', h1, rfl⟩ := y
      rw [q] at h1
      cases h1
      exact ⟨rl, Da.str _⟩
  · intro F' as' H T i g rl e
    have e2 : some ((z.cps[i]?).map fun c => Xt.one (.dat (.str ⟨#[c]⟩))) = some none := e
    cases q : z.cps[i]? with
    | none => exact Array.getElem?_eq_none_iff.mp q
    | some c => rw [q] at e2; cases e2
theorem nx_zp {x y : Vd} {i : Nat} {r : Option Xt} (h : nextOf (.zp x y) i T = some r) : ∃ xs ys, itemsOf x T = some xs ∧ itemsOf y T = some ys ∧ pairAt i xs ys = some r := by
  have h2 : (match itemsOf x T, itemsOf y T with
    | some xs, some ys => pairAt i xs ys
    | _, _ => none) = some r := h
  split at h2
  · exact ⟨_, _, by assumption, by assumption, h2⟩
  · cases h2
theorem itr_zp {x y : Vd} (h : VR K F as (.ref p1) x) (h' : VR K F as (.ref p2) y) : ItR K F as (ItzB K (kindB x) (kindB y) p1 p2) (.zp x y) := by
  constructor
  · intro F' as' H T i xt g rl e
    obtain ⟨xs, ys, ex, ey, ep⟩ := nx_zp e
    obtain ⟨vs, hs, hv⟩ := items_at g rl h ex
    obtain ⟨ws, hs2, hv2⟩ := items_at g rl h' ey
    unfold pairAt at ep
    split at ep
    · rename_i a b ha hb
      cases ep
      obtain ⟨u, h1, h2⟩ := hv.get ha
      obtain ⟨u2, h3, h4⟩ := hv2.get hb
      refine ⟨⟨vs, ws, u, u2, hs, hs2, h1, h3⟩, fun v H' yl => ?_⟩
      obtain ⟨q, x', y', rfl, hq, rfl, y1, y2⟩ := yl
      have e1 := y1 vs hs
      rw [h1] at e1
      cases e1
      have e2 := y2 ws hs2
      rw [h3] at e2
      cases e2
      exact ⟨rl.junk hq, q, u, u2, rfl, upd_same, h2, h4⟩
    · split at ep <;> cases ep
  · intro F' as' H T i g rl e
    obtain ⟨xs, ys, ex, ey, ep⟩ := nx_zp e
    obtain ⟨vs, hs, hv⟩ := items_at g rl h ex
    obtain ⟨ws, hs2, hv2⟩ := items_at g rl h' ey
    unfold pairAt at ep
    split at ep
    · cases ep
    · split at ep
      · rename_i hi
        exact ⟨vs, ws, hs, hs2, by rw [hv.len, hv2.len]; exact hi⟩
      · cases ep
theorem nx_en {x : Vd} {i : Nat} {r : Option Xt} (h : nextOf (.en x) i T = some r) : ∃ xs, itemsOf x T = some xs ∧ enumAt i xs = some r := by
  have h2 : (match itemsOf x T with
    | some xs => enumAt i xs
    | none => none) = some r := h
  split at h2
  · exact ⟨_, by assumption, h2⟩
  · cases h2
theorem itr_en {x : Vd} (h : VR K F as (.ref p) x) : ItR K F as (IteB K (kindB x) p) (.en x) := by
  constructor
  · intro F' as' H T i xt g rl e
    obtain ⟨xs, ex, ep⟩ := nx_en e
    obtain ⟨vs, hs, hv⟩ := items_at g rl h ex
    unfold enumAt at ep
    split at ep
    · rename_i a ha
      cases ep
      obtain ⟨u, h1, h2⟩ := hv.get ha
      refine ⟨⟨vs, u, hs, h1⟩, fun v H' yl => ?_⟩
      obtain ⟨q, x', rfl, hq, rfl, y1⟩ := yl
      have e1 := y1 vs hs
      rw [h1] at e1
      cases e1
      exact ⟨rl.junk hq, q, _, u, rfl, upd_same, Da.int _, h2⟩
    · split at ep <;> cases ep
  · intro F' as' H T i g rl e
    obtain ⟨xs, ex, ep⟩ := nx_en e
    obtain ⟨vs, hs, hv⟩ := items_at g rl h ex
    unfold enumAt at ep
    split at ep
    · cases ep
    · split at ep
      · rename_i hi
        exact ⟨vs, hs, by rw [hv.len]; exact hi⟩
      · cases ep
theorem has_items {x : Vd} (h : hasItems x T = true) : ∃ xs, itemsOf x T = some xs := by
  unfold hasItems at h
  split at h
  · exact ⟨_, by assumption⟩
  · cases h
end
theorem PI.by {X : Cx} {tg e : Expr} {t t' : TI} (h : PI X tg e t) (i : ∀ σ H R, t' σ H R → t σ H R) : PI X tg e t' := ⟨fun pins s σ H R I q => h.run pins s σ H R I (i σ H R q)⟩
section
variable {X : Cx} {cl : Cl} {W : WX} {a : Expr} {ma : ME} {tg : Expr} {pos p tpos : Pos} {elts : List Expr} {kk : Nat}
theorem i_seq (h : PE X a (rE X.K cl W ma)) : PI X tg a (rI X.K cl W (mSeq ma)) := PI.by (pi_seq h) fun σ H R h => by
  obtain ⟨F, as, ρ, T, rl, sr, po⟩ := h
  refine ⟨F, as, ρ, T, rl, sr, Po.seq po (fun d T1 F1 as1 H1 g1 rl1 po1 v vr => ?_) fun c H' h => h⟩
  split at po1
  · rename_i hh
    obtain ⟨xs, ex⟩ := has_items hh
    obtain ⟨q, vs, rfl, hs, hv⟩ := items_B rl1 vr ex
    have r := po1 F1 as1 H1 Gr.refl rl1 _ (itr_seq vr)
    cases hk : kindB d with
    | true =>
      rw [hk] at hs r
      exact .inl ⟨q, vs, rfl, hs, r⟩
    | false =>
      rw [hk] at hs r
      exact .inr ⟨q, vs, rfl, hs, r⟩
  · exact po1.elim
theorem i_str (h : PE X a (rE X.K cl W ma)) : PI X tg a (rI X.K cl W (mStr ma)) := PI.by (pi_str h) fun σ H R h => by
  obtain ⟨F, as, ρ, T, rl, sr, po⟩ := h
  refine ⟨F, as, ρ, T, rl, sr, Po.seq po (fun d T1 F1 as1 H1 g1 rl1 po1 v vr => ?_) fun c H' h => h⟩
  split at po1
  · cases vr
    exact ⟨_, rfl, po1 F1 as1 H1 Gr.refl rl1 _ itr_str⟩
  · exact po1.elim
theorem okR_of {i : Int} (h : okR i = true) : -(2 ^ 62) ≤ i ∧ i < 2 ^ 62 := of_decide_eq_true h
theorem i_rng1 {ms : MA} (hm : X.mg "range" = none) (ha : PA X [a] (rA X.K cl W ms)) (hg : Gl X "range" := by rfl) (hs : starEach [a] X.env = [(false, eval a X.env)] := by rfl) :
    PI X tg (.Call (.Name "range" p) [a] [] pos) (rI X.K cl W (mRng1 ms)) := PI.by (pi_range1 hg hm ha hs) fun σ H R h => by
  obtain ⟨F, as, ρ, T, rl, sr, po⟩ := h
  refine ⟨F, as, ρ, T, rl, sr, Po.seq po (fun ds T1 F1 as1 H1 g1 rl1 po1 vs vr => ?_) fun c H' h => h⟩
  split at po1
  · split at po1
    · rename_i n hn
      obtain ⟨v, rfl, r⟩ := vr.one
      cases r
      exact ⟨n, rfl, (okR_of hn).1, (okR_of hn).2, po1 F1 as1 H1 Gr.refl rl1 _ itr_rng⟩
    · exact po1.elim
  · exact po1.elim
theorem i_rng2 {b : Expr} {ms : MA} (hm : X.mg "range" = none) (ha : PA X [a, b] (rA X.K cl W ms)) (hg : Gl X "range" := by rfl) (hs : starEach [a, b] X.env = [(false, eval a X.env), (false, eval b X.env)] := by rfl) (hs2 : starEach [b] X.env = [(false, eval b X.env)] := by rfl) :
    PI X tg (.Call (.Name "range" p) [a, b] [] pos) (rI X.K cl W (mRng2 ms)) := PI.by (pi_range2 hg hm ha hs hs2) fun σ H R h => by
  obtain ⟨F, as, ρ, T, rl, sr, po⟩ := h
  refine ⟨F, as, ρ, T, rl, sr, Po.seq po (fun ds T1 F1 as1 H1 g1 rl1 po1 vs vr => ?_) fun c H' h => h⟩
  split at po1
  · split at po1
    · rename_i n m hn
      rw [Bool.and_eq_true] at hn
      obtain ⟨v, u, rfl, r, r2⟩ := vr.two
      cases r
      cases r2
      exact ⟨n, m, rfl, ⟨(okR_of hn.1).1, (okR_of hn.1).2, (okR_of hn.2).1, (okR_of hn.2).2⟩, po1 F1 as1 H1 Gr.refl rl1 _ itr_rng⟩
    · exact po1.elim
  · exact po1.elim
theorem i_zip {e2 : Expr} {ms : MA} (hm : X.mg "zip" = none) (ha : PA X [a, e2] (rA X.K cl W ms)) (hg : Gl X "zip" := by rfl)
    (hs : starEach [a, e2] X.env = (false, eval a X.env) :: starEach [e2] X.env := by rfl) (hpl : (backTo pos (starEach [e2] X.env)).any (·.1) = false := by rfl) :
    PI X (.Tuple elts kk tpos) (.Call (.Name "zip" p) [a, e2] [] pos) (rI X.K cl W (mZip ms)) := PI.by (pi_zipB hm ha hg hs hpl) fun σ H R h => by
  obtain ⟨F, as, ρ, T, rl, sr, po⟩ := h
  refine ⟨F, as, ρ, T, rl, sr, Po.seq po (fun ds T1 F1 as1 H1 g1 rl1 po1 vs vr => ?_) fun c H' h => h⟩
  split at po1
  · split at po1
    · rename_i x y hh
      rw [Bool.and_eq_true] at hh
      obtain ⟨v, u, rfl, r, r2⟩ := vr.two
      obtain ⟨xs, ex⟩ := has_items hh.1
      obtain ⟨ys, ey⟩ := has_items hh.2
      obtain ⟨q, vs, rfl, hs, hv⟩ := items_B rl1 r ex
      obtain ⟨q2, vs2, rfl, hs2, hv2⟩ := items_B rl1 r2 ey
      exact ⟨_, _, q, q2, vs, vs2, rfl, hs, hs2, po1 F1 as1 H1 Gr.refl rl1 _ (itr_zp r r2)⟩
    · exact po1.elim
  · exact po1.elim
theorem i_enum {ms : MA} (hm : X.mg "enumerate" = none) (ha : PA X [a] (rA X.K cl W ms)) (hg : Gl X "enumerate" := by rfl) (hs : starEach [a] X.env = [(false, eval a X.env)] := by rfl) :
    PI X (.Tuple elts kk tpos) (.Call (.Name "enumerate" p) [a] [] pos) (rI X.K cl W (mEnum ms)) := PI.by (pi_enumB hm ha hg hs) fun σ H R h => by
  obtain ⟨F, as, ρ, T, rl, sr, po⟩ := h
  refine ⟨F, as, ρ, T, rl, sr, Po.seq po (fun ds T1 F1 as1 H1 g1 rl1 po1 vs vr => ?_) fun c H' h => h⟩
  split at po1
  · split at po1
    · rename_i x hh
      obtain ⟨v, rfl, r⟩ := vr.one
      obtain ⟨xs, ex⟩ := has_items hh
      obtain ⟨q, vs, rfl, hs, hv⟩ := items_B rl1 r ex
      exact ⟨_, q, vs, rfl, hs, po1 F1 as1 H1 Gr.refl rl1 _ (itr_en r)⟩
    · exact po1.elim
  · exact po1.elim
end
/-! ### targets -/
def rG (K : PySem.W.Frag) (cl : Cl) (W : WX) (g : MG) : TG := fun v σ H Q => ∃ F as ρ T x, Rl K F as H T ∧ SR K F as σ ρ ∧ XR K F as H v x ∧ Po K F as (g x ρ T) (fun ρ' F' as' H' _ => ∀ σ', SR K F' as' σ' ρ' → Q σ' H') fun c H' => ∀ σ', W (cl c) none σ' H'
def rGs (K : PySem.W.Frag) (cl : Cl) (W : WX) (g : MGs) : TGs := fun vs σ H Q => ∃ F as ρ T ds, Rl K F as H T ∧ SR K F as σ ρ ∧ VRs K F as vs ds ∧ Po K F as (g ds ρ T) (fun ρ' F' as' H' _ => ∀ σ', SR K F' as' σ' ρ' → Q σ' H') fun c H' => ∀ σ', W (cl c) none σ' H'
theorem PG.by {X : Cx} {e : Expr} {t t' : TG} (h : PG X e t) (i : ∀ v σ H Q, t' v σ H Q → t v σ H Q) : PG X e t' := ⟨fun pins s σ H v u Q I r q => h.run pins s σ H v u Q I r (i v σ H Q q)⟩
theorem PGs.by {X : Cx} {e : List Expr} {t t' : TGs} (h : PGs X e t) (i : ∀ v σ H Q, t' v σ H Q → t v σ H Q) : PGs X e t' := ⟨fun pins s σ H v u Q I r q => h.run pins s σ H v u Q I r (i v σ H Q q)⟩
section
variable {X : Cx} {cl : Cl} {W : WX} {pos : Pos}
theorem g_nm (i : Nat) {x : Str} (hN : X.N.Nodup) (hi : X.N[i]? = some x := by rfl) (hx : Loc X.env.scope x := by first | exact .inl rfl | exact .inr rfl) (hf : X.fn x = true ∨ X.env.scope.names.lookup x = some .local := by first | exact .inl rfl | exact .inr rfl) :
    PG X (.Name x pos) (rG X.K cl W (gNm i)) := PG.by (pg_name hN hi hx hf) fun v σ H Q h => by
  obtain ⟨F, as, ρ, T, x, rl, sr, xr, po⟩ := h
  cases x with
  | one d => exact po F as H Gr.refl rl _ (sr.set i xr)
  | two a b => exact po.elim
theorem g_nl : PGs X [] (rGs X.K cl W gNl) := PGs.by pgs_nil fun v σ H Q h => by
  obtain ⟨F, as, ρ, T, ds, rl, sr, vr, po⟩ := h
  cases ds with
  | nil => exact ⟨vr.nil_inv, po F as H Gr.refl rl _ sr⟩
  | cons d ds => exact po.elim
theorem g_cs {e : Expr} {es : List Expr} {g : MG} {gs : MGs} (h1 : PG X e (rG X.K cl W g)) (h2 : PGs X es (rGs X.K cl W gs)) (h : (assignEach (e :: es) X.env).map (·.2) = assign e X.env :: (assignEach es X.env).map (·.2) := by rfl) :
    PGs X (e :: es) (rGs X.K cl W (gCs g gs)) := PGs.by (pgs_cons h1 h2 h) fun v σ H Q h => by
  obtain ⟨F, as, ρ, T, ds, rl, sr, vr, po⟩ := h
  cases ds with
  | nil => exact po.elim
  | cons d ds =>
    cases vr with
    | @cons v _ vs _ r rr =>
      refine ⟨v, vs, rfl, F, as, ρ, T, .one d, rl, sr, r, Po.seq po (fun ρ1 T1 F1 as1 H1 g1 rl1 po1 σ1 sr1 => ?_) fun c H' h => h⟩
      exact ⟨F1, as1, ρ1, T1, ds, rl1, sr1, VRs.mono g1 rr, po1⟩
theorem g_tp {es : List Expr} {k : Nat} {g : MGs} {n : Nat} (hc : X.calm = true) (h : PGs X es (rGs X.K cl W g))
    (hn : (assignEach es X.env).length = n := by rfl) (hst : (assignEach es X.env).findIdx? (·.1) = none := by rfl) : PG X (.Tuple es k pos) (rG X.K cl W (gTp n g)) := PG.by (pg_tup hc h hn hst) fun v σ H Q h => by
  obtain ⟨F, as, ρ, T, x, rl, sr, xr, po⟩ := h
  unfold gTp at po
  split at po
  · split at po
    · rename_i a b hn
      obtain ⟨p, x, y, rfl, hp, r1, r2⟩ := xr
      exact ⟨p, [x, y], rfl, SqT.of hp, hn.symm, F, as, ρ, T, [a, b], rl, sr, .cons r1 (.cons r2 .nil), po⟩
    · exact po.elim
  · split at po
    · rename_i xs hl
      cases xr with
      | @tup p vs _ hs ha => exact ⟨p, vs, rfl, rl.ex.tup hs, by rw [ha.len, hl], F, as, ρ, T, xs.map Vd.dat, rl, sr, VRs.of_da ha, po⟩
    · exact po.elim
  · exact po.elim
abbrev SubAs (X : Cx) (o i : Expr) (pos : Pos) : Prop := ∀ v, assign (.Subscript o i pos) X.env v = do
  let ov ← holding [v] (eval o X.env)
  let iv ← holding [v, ov] (eval i X.env)
  standAt pos
  holding [v, ov, iv] (setItem ov iv v)
  release [v, ov, iv] []
theorem g_sb {o i : Expr} {mo mi : ME} (ho : PE X o (rE X.K cl W mo)) (hi : PE X i (rE X.K cl W mi)) (ha : SubAs X o i pos := by intro _; rfl) : PG X (.Subscript o i pos) (rG X.K cl W (gSb mo mi)) :=
  PG.by (pg_sub ho hi set_list ha) fun v σ H Q h => by
    obtain ⟨F, as, ρ, T, x, rl, sr, xr, po⟩ := h
    cases x with
    | two a b => exact po.elim
    | one d =>
      refine ⟨F, as, ρ, T, rl, sr, Po.seq po (fun o1 T1 F1 as1 H1 g1 rl1 po1 u ur => ?_) fun c H' h => h σ⟩
      refine ⟨F1, as1, ρ, T1, rl1, sr.mono g1, Po.seq po1 (fun n T2 F2 as2 H2 g2 rl2 po2 w wr => ?_) fun c H' h => h σ⟩
      split at po2
      · rename_i k j
        split at po2
        · rename_i xs hx
          split at po2
          · rename_i m hm
            obtain ⟨a, ha, rfl⟩ := VR.mono g2 ur
            cases wr
            obtain ⟨_, vs, hH, hv⟩ := rl2.own k a xs ha hx
            have vr2 := VR.mono (g1.trans g2) (show VR X.K F as v d from xr)
            refine ⟨a, vs, j, m, rfl, rfl, hH, by rw [hv.len]; exact hm, ?_⟩
            exact po2 F2 as2 _ Gr.refl (rl2.put ha hx (VRs.set vr2 m hv)) σ (sr.mono (g1.trans g2))
          · exact po2.elim
        · exact po2.elim
      · exact po2.elim
end
/-! ### statements -/
section
variable {X : Cx} {cl : Cl} {W : WX} {pos : Pos} {a b : Expr} {ma mb : ME} {st : Stmt} {rest body orelse : List Stmt} {ms mt : MS} {tg : Expr} {g : MG}
theorem s_nil : PSs X [] (rS X.K cl W sSkip) := PSs.by pss_nil fun D σ H h => by
  obtain ⟨F, as, ρ, T, rl, sr, po⟩ := h
  exact po F as H Gr.refl rl σ sr
theorem s_one (h : PS X st (rS X.K cl W ms)) : PSs X [st] (rS X.K cl W ms) := pss_one h
theorem rS_seq {D : Ends} {σ : L2.St} {H : Hp} (h : rS X.K cl W (sSeq ms mt) D σ H) : rS X.K cl W ms { D with nx := rS X.K cl W mt D } σ H := by
  obtain ⟨F, as, ρ, T, rl, sr, po⟩ := h
  refine ⟨F, as, ρ, T, rl, sr, Po.seq po (fun fl T1 F1 as1 H1 g1 rl1 po1 => ?_) fun c H' h => h⟩
  cases fl with
  | nx ρ1 => exact fun σ1 sr1 => ⟨F1, as1, ρ1, T1, rl1, sr1, po1⟩
  | rt d => exact po1 F1 as1 H1 Gr.refl rl1
theorem s_cons (h1 : PS X st (rS X.K cl W ms)) (h2 : PSs X rest (rS X.K cl W mt)) : PSs X (st :: rest) (rS X.K cl W (sSeq ms mt)) := PSs.by (pss_cons h1 h2) fun D σ H h => rS_seq h
theorem rS_asg {D : Ends} {σ : L2.St} {H : Hp} (h : rS X.K cl W (sAsg ma g) D σ H) : tAsg (rE X.K cl W ma) (rG X.K cl W g) D σ H := by
  obtain ⟨F, as, ρ, T, rl, sr, po⟩ := h
  refine ⟨F, as, ρ, T, rl, sr, Po.seq po (fun d T1 F1 as1 H1 g1 rl1 po1 v vr => ?_) fun c H' h => h σ⟩
  refine ⟨F1, as1, ρ, T1, .one d, rl1, sr.mono g1, vr, Po.seq po1 (fun ρ1 T2 F2 as2 H2 g2 rl2 po2 σ2 sr2 => ?_) fun c H' h => h⟩
  exact po2 F2 as2 H2 Gr.refl rl2 σ2 sr2
theorem s_asg (he : PE X a (rE X.K cl W ma)) (hg : PG X tg (rG X.K cl W g)) (hs : swapsWithSole [tg] a pos.line X.env = pure false := by rfl) (hw : swappedStores [tg] a X.env = pure none := by rfl)
    (h1 : (assignEach [tg] X.env).map (·.2) = [assign tg X.env] := by rfl) : PS X (.Assign [tg] a pos) (rS X.K cl W (sAsg ma g)) := PS.by (ps_asg he hg hs hw h1) fun D σ H h => rS_asg h
theorem s_mul {es ts : List Expr} {k k2 : Nat} {tp ep : Pos} {m : MA} {gs : MGs} {n : Nat} (hc : X.calm = true) (he : PA X es (rA X.K cl W m)) (hg : PGs X ts (rGs X.K cl W gs)) (hn : (assignEach ts X.env).length = n := by rfl) (hst : (assignEach ts X.env).findIdx? (·.1) = none := by rfl)
    (hs : swapsWithSole [.Tuple ts k tp] (.Tuple es k2 ep) pos.line X.env = pure false := by rfl) (hw : swappedStores [.Tuple ts k tp] (.Tuple es k2 ep) X.env = pure none := by rfl)
    (h1 : (assignEach [.Tuple ts k tp] X.env).map (·.2) = [assign (.Tuple ts k tp) X.env] := by rfl) (hz : n ≤ 1000 := by decide) : PS X (.Assign [.Tuple ts k tp] (.Tuple es k2 ep) pos) (rS X.K cl W (sMul n m gs)) :=
  PS.by (ps_asg (pe_tup he) (pg_tup hc hg hn hst) hs hw h1) fun D σ H h => by
    obtain ⟨F, as, ρ, T, rl, sr, po⟩ := h
    refine ⟨F, as, ρ, T, rl, sr, Po.seq po (fun ds T1 F1 as1 H1 g1 rl1 po1 vs vr => ?_) fun c H' h => h σ⟩
    split at po1
    · rename_i hl
      refine ⟨by rw [vr.len, hl]; exact sz1 hz, fun p hp => ?_⟩
      have rl2 := rl1.junk (o := .tup vs) hp
      refine ⟨p, vs, rfl, SqT.of upd_same, by rw [vr.len, hl], F1, as1, ρ, T1, ds, rl2, sr.mono g1, vr, Po.seq po1 (fun ρ1 T2 F2 as2 H2 g2 rl2 po2 σ2 sr2 => ?_) fun c H' h => h⟩
      exact po2 F2 as2 H2 Gr.refl rl2 σ2 sr2
    · exact po1.elim
theorem s_par {i j : Nat} {x y : Str} {m : MA} {px py pt : Pos} {kt k2 : Nat} {pt2 : Pos} (hc : X.calm = true) (hN : X.N.Nodup) (hi : X.N[i]? = some x) (hj : X.N[j]? = some y) (hij : i ≠ j)
    (hx : X.env.scope.names.lookup x = some .local) (hy : X.env.scope.names.lookup y = some .local) (ha : PA X [a, b] (rA X.K cl W m))
    (hw : swappedStores [.Tuple [.Name x px, .Name y py] kt pt] (.Tuple [a, b] k2 pt2) X.env = pure (some [x, y]))
    (hs : swapsWithSole [.Tuple [.Name x px, .Name y py] kt pt] (.Tuple [a, b] k2 pt2) pos.line X.env = pure false := by rfl) :
    PS X (.Assign [.Tuple [.Name x px, .Name y py] kt pt] (.Tuple [a, b] k2 pt2) pos) (rS X.K cl W (sPar i j m)) := PS.by (ps_par hc hN hi hj hij hx hy ha hw hs) fun D σ H h => by
  obtain ⟨F, as, ρ, T, rl, sr, po⟩ := h
  refine ⟨F, as, ρ, T, rl, sr, Po.seq po (fun ds T1 F1 as1 H1 g1 rl1 po1 vs vr => ?_) fun c H' h => h σ⟩
  split at po1
  · obtain ⟨v, u, rfl, r1, r2⟩ := vr.two
    exact ⟨v, u, rfl, po1 F1 as1 H1 Gr.refl rl1 _ (((sr.mono g1).set i r1).set j r2)⟩
  · exact po1.elim
theorem s_ret (he : PE X a (rE X.K cl W ma)) : PS X (.Return (some a) pos) (rS X.K cl W (sRet ma)) := PS.by (ps_ret he) fun D σ H h => by
  obtain ⟨F, as, ρ, T, rl, sr, po⟩ := h
  refine ⟨F, as, ρ, T, rl, sr, Po.seq po (fun d T1 F1 as1 H1 g1 rl1 po1 v vr => ?_) fun c H' h => h σ⟩
  exact po1 F1 as1 H1 Gr.refl rl1 v vr
theorem s_if (hc : PT X a (rT X.K cl W ma)) (ha : PSs X body (rS X.K cl W ms)) (hb : PSs X orelse (rS X.K cl W mt)) : PS X (.If a body orelse pos) (rS X.K cl W (sIf ma ms mt)) := PS.by (ps_if hc ha hb) fun D σ H h => by
  obtain ⟨F, as, ρ, T, rl, sr, po⟩ := h
  refine ⟨F, as, ρ, T, rl, sr, Po.seq po (fun d T1 F1 as1 H1 g1 rl1 po1 => ?_) fun c H' h => h σ⟩
  split at po1
  · exact ⟨true, rfl, iteT ⟨F1, as1, ρ, T1, rl1, sr.mono g1, po1⟩⟩
  · exact ⟨false, rfl, iteF ⟨F1, as1, ρ, T1, rl1, sr.mono g1, po1⟩⟩
  · exact po1.elim
theorem s_drop (he : PE X a (rE X.K cl W ma)) (hs : swapsWith a none pos.line X.env = pure false := by rfl) : PS X (.Expr a pos) (rS X.K cl W (sDrop ma)) := PS.by (ps_expr he hs) fun D σ H h => by
  obtain ⟨F, as, ρ, T, rl, sr, po⟩ := h
  refine ⟨F, as, ρ, T, rl, sr, Po.seq po (fun d T1 F1 as1 H1 g1 rl1 po1 v vr => ?_) fun c H' h => h σ⟩
  exact po1 F1 as1 H1 Gr.refl rl1 σ (sr.mono g1)
end
end Hr
set_option Elab.async false
set_option linter.all false
set_option maxRecDepth 100000
set_option maxHeartbeats 4000000
namespace Hr
open PySem PySem.Spec PyProof.Rows L2
section
variable {X : Cx} {cl : Cl} {W : WX} {pos apos cpos : Pos} {a e iter : Expr} {ma me : ME} {st : Stmt} {rest body orelse : List Stmt} {ms mt : MS} {tg : Expr} {g : MG} {mi : MI}
/-! x.append(e) -/
theorem s_app (ha : PE X a (rE X.K cl W ma)) (he : PE X e (rE X.K cl W me)) (hs : swapsWith (.Call (.Attribute a "append" apos) [e] [] cpos) none pos.line X.env = pure false := by rfl)
    (hbase : attributeBase a "append" X.env (eval a X.env) = eval a X.env := by rfl)
    (hfew : ((backTo cpos (starEach [e] X.env)).all (fun x => !x.1) && (backToKw cpos (keywordEach [] X.env)).all (fun x => x.1.isSome)
      && decide (([e] : List Expr).length + ([] : List Keyword).length + (if ([] : List Keyword).isEmpty then 0 else 1) < 30)) = true := by rfl)
    (hline : (apos.endLine == cpos.line) = true := by rfl) (h1 : starEach [e] X.env = (false, eval e X.env) :: starEach [] X.env := by rfl) (hplain : (backTo cpos (starEach [] X.env)).any (·.1) = false := by rfl) :
    PS X (.Expr (.Call (.Attribute a "append" apos) [e] [] cpos) pos) (rS X.K cl W (sApp ma me)) :=
  PS.by (ps_expr (pe_bm PySem.F.plainAttrs_list PySem.F.slot_list_append PySem.F.type_list_append mt_append ha (pa_cons he pa_nil h1) hbase hfew hline h1 hplain) hs) fun D σ H h => by
    obtain ⟨F, as, ρ, T, rl, sr, po⟩ := h
    refine ⟨F, as, ρ, T, rl, sr, Po.seq po (fun o T1 F1 as1 H1 g1 rl1 po1 v vr => ?_) fun c H' h => h σ⟩
    split at po1
    · rename_i k
      split at po1
      · rename_i hl
        obtain ⟨xs, hx⟩ := liv_k hl k rfl
        obtain ⟨p, hp, rfl⟩ := vr
        obtain ⟨_, vs, hH, _⟩ := rl1.own k p xs hp hx
        refine ⟨.inl ⟨rfl, vs, SqL.of hH⟩, F1, as1, ρ, T1, rl1, sr.mono g1, Po.seq po1 (fun d T2 F2 as2 H2 g2 rl2 po2 u ur => ?_) fun c H' h => h σ⟩
        split at po2
        · split at po2
          · rename_i ys hy hn
            have hp2 := g2.pre k p hp
            obtain ⟨_, ws, hH2, hv2⟩ := rl2.own k p ys hp2 hy
            refine ⟨p, ws, u, rfl, rfl, hH2, by rw [hv2.len]; exact Nat.lt_of_le_of_lt hn (by decide), ?_⟩
            exact po2 F2 as2 _ Gr.refl (rl2.put hp2 hy (hv2.app (.cons ur .nil))) σ ((sr.mono g1).mono g2)
          · exact po2.elim
        · exact po2.elim
      · exact po1.elim
    · exact po1.elim
/-! raise; loops -/
theorem rS_for {D : Ends} {σ : L2.St} {H : Hp} (h : rS X.K cl W (sFor mi g ms) D σ H) : tFor (rI X.K cl W mi) (rG X.K cl W g) (rS X.K cl W ms) D σ H := by
  obtain ⟨F, as, ρ, T, rl, sr, po⟩ := h
  refine ⟨F, as, ρ, T, rl, sr, Po.seq po (fun it T1 F1 as1 H1 g1 rl1 po1 J hJ => ?_) fun c H' h => h σ⟩
  refine ⟨fun i n σ H => ∃ F as ρ T, ItR X.K F as J it ∧ Rl X.K F as H T ∧ SR X.K F as σ ρ ∧ Po X.K F as (loop it g ms n i ρ T) (fun fl F' as' H' _ => flQ X.K D fl F' as' H') fun c H' => ∀ σ', W (cl c) none σ' H', ⟨_, F1, as1, ρ, T1, hJ, rl1, sr.mono g1, po1⟩, ?_⟩
  rintro i n σ H ⟨F, as, ρ, T, hJ, rl, sr, po⟩
  have stop : nextOf it i T = some none → Po X.K F as (.ok (.nx ρ) T : Re Fl) (fun fl F' as' H' _ => flQ X.K D fl F' as' H') (fun c H' => ∀ σ', W (cl c) none σ' H') → J.stop i H ∧ D.nx σ H :=
    fun e po => ⟨hJ.stop F as H T i Gr.refl rl e, po F as H Gr.refl rl σ sr⟩
  cases n with
  | zero =>
    have po2 : Po X.K F as (match nextOf it i T with
      | some none => .ok (.nx ρ) T
      | _ => .bad : Re Fl) _ _ := po
    split at po2
    · exact .inl (stop (by assumption) po2)
    · exact po2.elim
  | succ n =>
    have po2 : Po X.K F as (match nextOf it i T with
      | some none => .ok (.nx ρ) T
      | some (some x) => (g x ρ T).bd fun ρ T => (ms ρ T).bd fun fl T => match fl with
        | .nx ρ => loop it g ms n (i + 1) ρ T
        | .rt d => .ok (.rt d) T
      | none => .bad : Re Fl) _ _ := po
    split at po2
    · exact .inl (stop (by assumption) po2)
    · rename_i x hx
      obtain ⟨hgo, hy⟩ := hJ.go F as H T i x Gr.refl rl hx
      refine .inr ⟨hgo, fun σ' H' => ∃ F as ρ T, ItR X.K F as J it ∧ Rl X.K F as H' T ∧ SR X.K F as σ' ρ ∧ Po X.K F as (loop it g ms n (i + 1) ρ T) (fun fl F' as' H' _ => flQ X.K D fl F' as' H') fun c H' => ∀ σ', W (cl c) none σ' H', fun σ' H' h => ⟨n, Nat.lt_succ_self n, h⟩, fun v H' y => ?_⟩
      obtain ⟨rl', xr⟩ := hy v H' y
      refine ⟨F, as, ρ, T, x, rl', sr, xr, Po.seq po2 (fun ρ1 T1 F1 as1 H1 g1 rl1 po1 σ1 sr1 => ?_) fun c H' h => h⟩
      refine ⟨F1, as1, ρ1, T1, rl1, sr1, Po.seq po1 (fun fl T2 F2 as2 H2 g2 rl2 po2 => ?_) fun c H' h => h⟩
      cases fl with
      | nx ρ2 => exact fun σ2 sr2 => ⟨F2, as2, ρ2, T2, hJ.mono (g1.trans g2), rl2, sr2, po2⟩
      | rt d => exact po2 F2 as2 H2 Gr.refl rl2
    · exact po2.elim
theorem s_for (hp : PassesOwn (model X.prog X.w) X.A X.env X.xe) (hc : X.calm = true) (hi : PI X tg iter (rI X.K cl W mi)) (hg : PG X tg (rG X.K cl W g)) (hb : PSs X body (rS X.K cl W ms))
    (hs : ∀ x, foldedSetIterable iter X.env x = pure x := by intro _; rfl) : PS X (.For tg iter body [] pos) (rS X.K cl W (sFor mi g ms)) := PS.by (ps_for hp hc hi hg hb hs) fun D σ H h => rS_for h
theorem s_while (hp : PassesOwn (model X.prog X.w) X.A X.env X.xe) (hc : PT X e (rT X.K cl W me)) (hb : PSs X body (rS X.K cl W ms)) : PS X (.While e body [] pos) (rS X.K cl W (sWhile me ms)) := PS.by (ps_while hp hc hb) fun D σ H h => by
  obtain ⟨F, as, ρ, T, rl, sr, po⟩ := h
  refine ⟨fun n σ H => ∃ F as ρ T, Rl X.K F as H T ∧ SR X.K F as σ ρ ∧ Po X.K F as (wloop me ms n ρ T) (fun fl F' as' H' _ => flQ X.K D fl F' as' H') fun c H' => ∀ σ', W (cl c) none σ' H', ⟨100, F, as, ρ, T, rl, sr, po⟩, ?_⟩
  rintro n σ H ⟨F, as, ρ, T, rl, sr, po⟩
  cases n with
  | zero => exact po.elim
  | succ n =>
    refine ⟨F, as, ρ, T, rl, sr, Po.seq po (fun d T1 F1 as1 H1 g1 rl1 po1 => ?_) fun c H' h => h σ⟩
    split at po1
    · refine ⟨true, rfl, iteT ⟨fun σ' H' => ∃ F as ρ T, Rl X.K F as H' T ∧ SR X.K F as σ' ρ ∧ Po X.K F as (wloop me ms n ρ T) (fun fl F' as' H' _ => flQ X.K D fl F' as' H') fun c H' => ∀ σ', W (cl c) none σ' H', fun σ' H' h => ⟨n, Nat.lt_succ_self n, h⟩, ?_⟩⟩
      refine ⟨F1, as1, ρ, T1, rl1, sr.mono g1, Po.seq po1 (fun fl T2 F2 as2 H2 g2 rl2 po2 => ?_) fun c H' h => h⟩
      cases fl with
      | nx ρ2 => exact fun σ2 sr2 => ⟨F2, as2, ρ2, T2, rl2, sr2, po2⟩
      | rt d => exact po2 F2 as2 H2 Gr.refl rl2
    · exact ⟨false, rfl, iteF (po1 F1 as1 H1 Gr.refl rl1 σ (sr.mono g1))⟩
    · exact po1.elim
/-! raise -/
structure ErC (K : PySem.W.Frag) (mg : Str → Option Value) (cl : Cl) (x : Str) (c : Nat) : Prop where
  ex : ∃ C, cl c = .ref C ∧ mg x = some (.ref C) ∧ PySem.W.excIn K C [.type "ValueError", .type "Exception", .type "BaseException", .type "object"] "ValueError.__new__" = true ∧ PySem.W.keepIn K (.ref C) = true ∧
    PySem.W.subIn K (.ref C) (.type "BaseException") = some true ∧ PySem.W.typeIn K (.ref C) = some (.type "type")
theorem pmk_own0 {x : Str} {p : Pos} {C : Addr} (q : PySem.W.excIn X.K C [.type "ValueError", .type "Exception", .type "BaseException", .type "object"] "ValueError.__new__" = true) (gC : X.mg x = some (.ref C))
    (kC : PySem.W.keepIn X.K (.ref C) = true) (r : Raises X (.ref C)) (hg : Gl X x) (hdb : (x == ("__debug__" : Str)) = false := by decide) :
    PMk X (.Call (.Name x p) [] [] pos) (fun _ H Q => Q (.ref C) none H) := fun pins s σ H Q I h =>
  wpAny_Call_Name_kw (ld_glob I hg gC (PySem.W.callWith_K0 I.kIn kC (by
    obtain ⟨bm, N, nm, qn, bs, hdct, sn, sub, ab, col, dd, k0, k1, k2, k3, k5, mN, hC, hN, hni, T⟩ := exc_obj I.kIn q
    exact wpAny_call_exc_subT PySem.F.excBase_ValueError T hC hN hni (fun h' e hm => mk_of I hm r h (I.hok.gone hm.new)) (Nat.zero_le _))) hdb)
theorem s_raise {x : Str} {p p2 : Pos} {c : Nat} (hc : X.calm = true) (tk : Takes X W) (E : ErC X.K X.mg cl x c) (hg : Gl X x := by rfl) (hdb : (x == ("__debug__" : Str)) = false := by decide) :
    PS X (.Raise (some (.Call (.Name x p) [] [] p2)) none pos) (rS X.K cl W (sRaise c)) := by
  obtain ⟨C, hC, gC, q, kC, h1, h2⟩ := E.ex
  refine PS.by (ps_raise hc tk (pmk_own0 q gC kC (raises_own h1 h2) hg hdb)) fun D σ H h => ?_
  obtain ⟨F, as, ρ, T, rl, sr, po⟩ := h
  have := po F as H Gr.refl rl σ
  rw [hC] at this
  exact this
/-! comprehensions -/
theorem Po.seqO {α β : Type} {K : PySem.W.Frag} {F F0 : Hp} {as as0 : List Addr} {r : Re α} {k : α → Tab → Re β} {q : β → Hp → List Addr → Hp → Tab → Prop} {q1 : α → Hp → List Addr → Hp → Tab → Prop} {e e1 : Nat → Hp → Prop} (po : Po K F as (r.ne.bd k) q e) (gr : Gr F as F0 as0)
    (h : ∀ a T1 F1 as1 H1, Gr F0 as0 F1 as1 → Rl K F1 as1 H1 T1 → Po K F as (k a T1) q e → q1 a F1 as1 H1 T1) : Po K F0 as0 r q1 e1 := by
  cases r with
  | ok a T' => exact fun F1 as1 H1 g1 rl => h a T' F1 as1 H1 g1 rl po
  | er c T' => exact po.elim
  | bad => exact po
abbrev W0 : WX := fun _ _ _ _ => False
theorem lc_red {it : Itv} {J : It} {bnd : Xt → Rho → Option Rho} {tt el : ME} {g : TG} {vs : List Nat} {F : Hp} {as : List Addr} {ρ : Rho} {T : Tab} {σ : L2.St} {H : Hp} {Q : VK} {ew : Nat → Hp → Prop} {D : Addr}
    (hJ : ItR X.K F as J it) (rl : Rl X.K F as H T) (sr : SR X.K F as (wipe σ vs) ρ)
    (hg : ∀ F' as' H' x v ρ1, SR X.K F' as' (wipe σ vs) ρ → XR X.K F' as' H' v x → Ext F' H' → bnd x ρ = some ρ1 → ∀ Qg : L2.St → Hp → Prop, (∀ σ', SR X.K F' as' σ' ρ1 → wipe σ' vs = wipe σ vs → Qg σ' H') → g v (wipe σ vs) H' Qg)
    (hD : H D = none) (n : Nat) (po : Po X.K F as (lcl it bnd tt el T.length n 0 ρ (T ++ [some []])) (fun d F' as' H' _ => ∀ v, VR X.K F' as' v d → Q v H') ew) :
    ∃ Wl : Nat → Nat → Hp → Prop, (∃ m, Wl 0 m (upd H D (.lst []))) ∧ ∀ i m H, Wl i m H →
      (J.stop i H ∧ Q (.ref D) H) ∨ (J.go i H ∧ ∃ Nx : Hp → Prop, (∀ H', Nx H' → ∃ m', m' < m ∧ Wl (i + 1) m' H') ∧ ∀ x H', J.yld i H x H' → g x (wipe σ vs) H' fun σ2 H2 => wipe σ2 vs = wipe σ vs ∧ rT X.K cl W0 tt σ2 H2 fun b H3 =>
        if b = true then rE X.K cl W0 el σ2 H3 fun y H4 => ∃ acc, H4 D = some (.lst acc) ∧ acc.length < sizeLine ∧ Nx (upd H4 D (.lst (acc ++ [y]))) else Nx H3) := by
  obtain ⟨rl0, g0, hk0⟩ := rl.new hD (vs := []) (xs := []) .nil
  refine ⟨fun i m H' => ∃ F' as' T', Gr F as F' as' ∧ as'[T.length]? = some D ∧ Rl X.K F' as' H' T' ∧
    Po X.K F as (lcl it bnd tt el T.length m i ρ T') (fun d F' as' H' _ => ∀ v, VR X.K F' as' v d → Q v H') ew, ⟨n, F, _, _, g0, hk0, rl0, po⟩, ?_⟩
  rintro i m H' ⟨F', as', T', gr, hk, rl', po'⟩
  have stop : nextOf it i T' = some none → Po X.K F as (lcEnd T.length T') (fun d F' as' H' _ => ∀ v, VR X.K F' as' v d → Q v H') ew → J.stop i H' ∧ Q (.ref D) H' := fun e po => by
    refine ⟨hJ.stop F' as' H' T' i gr rl' e, ?_⟩
    unfold lcEnd at po
    split at po
    · rename_i acc hacc
      split at po
      · rename_i xs hxs
        split at po
        · rename_i hcl
          obtain ⟨F2, g2, rl2, da⟩ := rl'.freeze hk hacc hxs
          have e3 : (T'.set T.length none).take T.length = T'.take T.length := List.take_set_of_le (Nat.le_refl _)
          have hcl2 : closed T.length (T'.set T.length none) = true := by
            unfold closed at hcl ⊢
            rw [e3]
            exact hcl
          have rl3 := rl2.cut T.length hcl2
          rw [e3] at rl3
          exact po F2 (as'.take T.length) H' ((gr.trans g2).cut (Nat.le_of_eq rl.len)) rl3 _ da
        · exact po.elim
      · exact po.elim
    · exact po.elim
  cases m with
  | zero =>
    have po2 : Po X.K F as (match nextOf it i T' with
      | some none => lcEnd T.length T'
      | _ => .bad) (fun d F' as' H' _ => ∀ v, VR X.K F' as' v d → Q v H') ew := po'
    split at po2
    · exact .inl (stop (by assumption) po2)
    · exact po2.elim
  | succ m =>
    have po2 : Po X.K F as (match nextOf it i T' with
      | some none => lcEnd T.length T'
      | some (some x) => lcStep bnd tt el T.length x ρ T' fun T1 => lcl it bnd tt el T.length m (i + 1) ρ T1
      | none => .bad) (fun d F' as' H' _ => ∀ v, VR X.K F' as' v d → Q v H') ew := po'
    split at po2
    · exact .inl (stop (by assumption) po2)
    · rename_i x hx
      obtain ⟨hgo, hy⟩ := hJ.go F' as' H' T' i x gr rl' hx
      refine .inr ⟨hgo, fun H' => ∃ F' as' T', Gr F as F' as' ∧ as'[T.length]? = some D ∧ Rl X.K F' as' H' T' ∧ Po X.K F as (lcl it bnd tt el T.length m (i + 1) ρ T') (fun d F' as' H' _ => ∀ v, VR X.K F' as' v d → Q v H') ew,
        fun H' h => ⟨m, Nat.lt_succ_self m, h⟩, fun v H2 y => ?_⟩
      obtain ⟨rl2, xr⟩ := hy v H2 y
      unfold lcStep at po2
      split at po2
      · rename_i ρ1 hb
        refine hg F' as' H2 x v ρ1 (sr.mono gr) xr rl2.ex hb _ fun σ2 sr2 hw => ⟨hw, F', as', ρ1, T', rl2, sr2, Po.seqO po2 gr fun b T3 F3 as3 H3 g3 rl3 po3 => ?_⟩
        unfold lcEl at po3
        split at po3
        · refine ⟨true, rfl, iteT ⟨F3, as3, ρ1, T3, rl3, sr2.mono g3, Po.seqO po3 (gr.trans g3) fun d T4 F4 as4 H4 g4 rl4 po4 u ur => ?_⟩⟩
          unfold lcPut at po4
          split at po4
          · split at po4
            · rename_i acc hacc hn
              have hk4 := (g3.trans g4).pre _ _ hk
              obtain ⟨_, ws, hH4, hv4⟩ := rl4.own _ D acc hk4 hacc
              exact ⟨ws, hH4, by rw [hv4.len]; exact Nat.lt_of_le_of_lt hn (by decide), F4, as4, _, (gr.trans g3).trans g4, hk4, rl4.put hk4 hacc (hv4.app (.cons ur .nil)), po4⟩
            · exact po4.elim
          · exact po4.elim
        · exact ⟨false, rfl, iteF ⟨F3, as3, T3, gr.trans g3, g3.pre _ _ hk, rl3, po3⟩⟩
        · exact po3.elim
      · exact po2.elim
    · exact po2.elim
end
end Hr
set_option Elab.async false
set_option linter.all false
set_option maxRecDepth 100000
set_option maxHeartbeats 4000000
namespace Hr
open PySem PySem.Spec PyProof.Rows L2
section
variable {X : Cx} {cl : Cl} {W : WX} {pos apos cpos : Pos} {a e iter elt tg : Expr} {ma me tt el : ME} {mi : MI} {ifs : List Expr} {scope : Scope}
/-! comprehensions: the rules -/
theorem SR.wipe1 {K : PySem.W.Frag} {F : Hp} {as : List Addr} {σ : L2.St} {ρ : Rho} (h : SR K F as σ ρ) (i : Nat) : SR K F as (L2.wipe σ [i]) (ρ.set i none) := SR.wipe h i
theorem SR.wipe2 {K : PySem.W.Frag} {F : Hp} {as : List Addr} {σ : L2.St} {ρ : Rho} (h : SR K F as σ ρ) (i j : Nat) : SR K F as (L2.wipe σ [i, j]) ((ρ.set j none).set i none) := SR.wipe (SR.wipe h j) i
theorem wipe_set1 (σ : L2.St) (i : Nat) (v : V) : wipe ((wipe σ [i]).set i (some v)) [i] = wipe σ [i] := by
  show ((σ.set i none).set i (some v)).set i none = σ.set i none
  rw [List.set_set, List.set_set]
theorem wipe_set2 (σ : L2.St) {i j : Nat} (h : i ≠ j) (v u : V) : wipe (((wipe σ [i, j]).set i (some v)).set j (some u)) [i, j] = wipe σ [i, j] := by
  show (((((σ.set j none).set i none).set i (some v)).set j (some u)).set j none).set i none = (σ.set j none).set i none
  rw [List.set_set, List.set_set, List.set_comm (some v) none h, List.set_set, List.set_set]
theorem ro_lc1 {i : Nat} (σ : L2.St) (H : Hp) (Q : VK) (h : rE X.K cl W (mLc1 mi i tt el) σ H Q) : tLc (rI X.K cl W mi) (gName i) (rT X.K cl W0 tt) (rE X.K cl W0 el) [i] σ H Q := by
  obtain ⟨F, as, ρ, T, rl, sr, po⟩ := h
  refine ⟨F, as, ρ, T, rl, sr, Po.seq po (fun it T1 F1 as1 H1 g1 rl1 po1 J hJ D hD => ?_) fun c H' h => h⟩
  refine lc_red (g := gName i) (vs := [i]) hJ rl1 ((sr.mono g1).wipe1 i) (fun F' as' H' x v ρ1 sr2 xr hx hb Qg hq => ?_) hD _ po1
  cases x with
  | one d =>
    cases hb
    exact hq _ (sr2.set i xr) (wipe_set1 σ i v)
  | two a b => cases hb
theorem ro_lc2 {i j : Nat} (hij : i ≠ j) (σ : L2.St) (H : Hp) (Q : VK) (h : rE X.K cl W (mLc2 mi i j tt el) σ H Q) : tLc (rI X.K cl W mi) (gTup X.K 2 (gCons (gName i) (gCons (gName j) gNil))) (rT X.K cl W0 tt) (rE X.K cl W0 el) [i, j] σ H Q := by
  obtain ⟨F, as, ρ, T, rl, sr, po⟩ := h
  refine ⟨F, as, ρ, T, rl, sr, Po.seq po (fun it T1 F1 as1 H1 g1 rl1 po1 J hJ D hD => ?_) fun c H' h => h⟩
  refine lc_red (g := gTup X.K 2 (gCons (gName i) (gCons (gName j) gNil))) (vs := [i, j]) hJ rl1 ((sr.mono g1).wipe2 i j) (fun F' as' H' x v ρ1 sr2 xr hx hb Qg hq => ?_) hD _ po1
  cases x with
  | two a b =>
    cases hb
    obtain ⟨p, y, z, rfl, hp, r1, r2⟩ := xr
    exact ⟨p, [y, z], rfl, SqT.of hp, rfl, y, [z], rfl, z, [], rfl, rfl, hq _ ((sr2.set i r1).set j r2) (wipe_set2 σ hij y z)⟩
  | one d =>
    unfold bnd2 at hb
    split at hb
    · rename_i q
      cases q
    · rename_i a b q
      cases q
      cases hb
      cases xr with
      | @tup p vs _ hs ha =>
        cases ha with
        | @cons y ys _ _ r1 ha =>
          cases ha with
          | @cons z zs _ _ r2 ha =>
            cases ha
            refine ⟨p, [y, z], rfl, ?_, rfl, y, [z], rfl, z, [], rfl, rfl, hq _ ((sr2.set i (show VR X.K F' as' y (.dat a) from r1)).set j (show VR X.K F' as' z (.dat b) from r2)) (wipe_set2 σ hij y z)⟩
            exact hx.tup hs
    · cases hb
abbrev BlkC (X : Cx) (scope : Scope) (P : Cx → Prop) : Prop := ∀ (s : Shared) (H : Hp) (C : Addr) (cs : List (Str × Addr)) (fp : List Addr), P (X.blk s H scope (compEnvC scope cs C X.env) fp)
theorem v_lc1 {i : Nat} {x : Str} (hc : X.calm = true) (hN : X.N.Nodup) (hi : PI X tg iter (rI X.K cl W mi)) (ok : BlkOk X.N X.env.scope scope [(x, i)]) (hg : ∀ (s : Shared) (H : Hp) (C : Addr) (cs : List (Str × Addr)) (fp : List Addr), PG (X.blk s H scope (compEnvC scope cs C X.env) fp) tg (gName i))
    (ht : ∀ (s : Shared) (H : Hp) (C : Addr) (cs : List (Str × Addr)) (fp : List Addr), PTs (X.blk s H scope (compEnvC scope cs C X.env) fp) ifs (rT X.K cl W0 tt)) (he : ∀ (s : Shared) (H : Hp) (C : Addr) (cs : List (Str × Addr)) (fp : List Addr), PE (X.blk s H scope (compEnvC scope cs C X.env) fp) elt (rE X.K cl W0 el)) (hs : ∀ x, foldedSetIterable iter X.env x = pure x := by intro _; rfl) :
    PE X (.ListComp elt [⟨tg, iter, ifs, 0⟩] scope pos) (rE X.K cl W (mLc1 mi i tt el)) := PE.by (pe_lc hc hN hi ok hg ht he hs) ro_lc1
theorem v_lc2 {i j : Nat} {x y : Str} (hij : i ≠ j) (hc : X.calm = true) (hN : X.N.Nodup) (hi : PI X tg iter (rI X.K cl W mi)) (ok : BlkOk X.N X.env.scope scope [(x, i), (y, j)]) (hg : ∀ (s : Shared) (H : Hp) (C : Addr) (cs : List (Str × Addr)) (fp : List Addr), PG (X.blk s H scope (compEnvC scope cs C X.env) fp) tg (gTup X.K 2 (gCons (gName i) (gCons (gName j) gNil))))
    (ht : ∀ (s : Shared) (H : Hp) (C : Addr) (cs : List (Str × Addr)) (fp : List Addr), PTs (X.blk s H scope (compEnvC scope cs C X.env) fp) ifs (rT X.K cl W0 tt)) (he : ∀ (s : Shared) (H : Hp) (C : Addr) (cs : List (Str × Addr)) (fp : List Addr), PE (X.blk s H scope (compEnvC scope cs C X.env) fp) elt (rE X.K cl W0 el)) (hs : ∀ x, foldedSetIterable iter X.env x = pure x := by intro _; rfl) :
    PE X (.ListComp elt [⟨tg, iter, ifs, 0⟩] scope pos) (rE X.K cl W (mLc2 mi i j tt el)) := PE.by (pe_lc hc hN hi ok hg ht he hs) (ro_lc2 hij)
theorem tAsg_by {te te' : TE} {g g' : TG} (h1 : ∀ σ H Q, te' σ H Q → te σ H Q) (h2 : ∀ v σ H Q, g' v σ H Q → g v σ H Q) (mono : ∀ σ H (Q Q' : VK), (∀ v H, Q v H → Q' v H) → te' σ H Q → te' σ H Q') (D : Ends) (σ : L2.St) (H : Hp) (h : tAsg te' g' D σ H) : tAsg te g D σ H :=
  h1 _ _ _ (mono σ H _ _ (fun v H1 q => h2 v σ H1 _ q) h)
theorem rE_mono {m : ME} {K : PySem.W.Frag} (σ : L2.St) (H : Hp) (Q Q' : VK) (hq : ∀ v H, Q v H → Q' v H) (h : rE K cl W m σ H Q) : rE K cl W m σ H Q' := by
  obtain ⟨F, as, ρ, T, rl, sr, po⟩ := h
  exact ⟨F, as, ρ, T, rl, sr, Po.imp po (fun d F' as' H' T' h v vr => hq v H' (h v vr)) fun c H' h => h⟩
theorem gName_of {i : Nat} (v : V) (σ : L2.St) (H : Hp) (Q : L2.St → Hp → Prop) (h : rG X.K cl W (gNm i) v σ H Q) : gName i v σ H Q := by
  obtain ⟨F, as, ρ, T, x, rl, sr, xr, po⟩ := h
  cases x with
  | one d => exact po F as H Gr.refl rl _ (sr.set i xr)
  | two a b => exact po.elim
theorem s_setLc1 {i n : Nat} {x y : Str} {py spos : Pos} (hc : X.calm = true) (hN : X.N.Nodup) (hy : X.N[n]? = some y) (hyl : X.env.scope.names.lookup y = some .local) (hsw : swapsWith (.ListComp elt [⟨tg, iter, ifs, 0⟩] scope pos) (some (.Name y py)) spos.line X.env = pure true)
    (hi : PI X tg iter (rI X.K cl W mi)) (ok : BlkOk X.N X.env.scope scope [(x, i)]) (hg : ∀ (s : Shared) (H : Hp) (C : Addr) (cs : List (Str × Addr)) (fp : List Addr), PG (X.blk s H scope (compEnvC scope cs C X.env) fp) tg (gName i))
    (ht : ∀ (s : Shared) (H : Hp) (C : Addr) (cs : List (Str × Addr)) (fp : List Addr), PTs (X.blk s H scope (compEnvC scope cs C X.env) fp) ifs (rT X.K cl W0 tt)) (he : ∀ (s : Shared) (H : Hp) (C : Addr) (cs : List (Str × Addr)) (fp : List Addr), PE (X.blk s H scope (compEnvC scope cs C X.env) fp) elt (rE X.K cl W0 el)) (hs : ∀ x, foldedSetIterable iter X.env x = pure x := by intro _; rfl) :
    PS X (.Assign [.Name y py] (.ListComp elt [⟨tg, iter, ifs, 0⟩] scope pos) spos) (rS X.K cl W (sAsg (mLc1 mi i tt el) (gNm n))) :=
  PS.by (ps_setLc hc hN hy hyl hsw hi ok hg ht he hs) fun D σ H h => tAsg_by ro_lc1 gName_of rE_mono D σ H (rS_asg h)
theorem s_setLc2 {i j n : Nat} {x z y : Str} {py spos : Pos} (hij : i ≠ j) (hc : X.calm = true) (hN : X.N.Nodup) (hy : X.N[n]? = some y) (hyl : X.env.scope.names.lookup y = some .local) (hsw : swapsWith (.ListComp elt [⟨tg, iter, ifs, 0⟩] scope pos) (some (.Name y py)) spos.line X.env = pure true)
    (hi : PI X tg iter (rI X.K cl W mi)) (ok : BlkOk X.N X.env.scope scope [(x, i), (z, j)]) (hg : ∀ (s : Shared) (H : Hp) (C : Addr) (cs : List (Str × Addr)) (fp : List Addr), PG (X.blk s H scope (compEnvC scope cs C X.env) fp) tg (gTup X.K 2 (gCons (gName i) (gCons (gName j) gNil))))
    (ht : ∀ (s : Shared) (H : Hp) (C : Addr) (cs : List (Str × Addr)) (fp : List Addr), PTs (X.blk s H scope (compEnvC scope cs C X.env) fp) ifs (rT X.K cl W0 tt)) (he : ∀ (s : Shared) (H : Hp) (C : Addr) (cs : List (Str × Addr)) (fp : List Addr), PE (X.blk s H scope (compEnvC scope cs C X.env) fp) elt (rE X.K cl W0 el)) (hs : ∀ x, foldedSetIterable iter X.env x = pure x := by intro _; rfl) :
    PS X (.Assign [.Name y py] (.ListComp elt [⟨tg, iter, ifs, 0⟩] scope pos) spos) (rS X.K cl W (sAsg (mLc2 mi i j tt el) (gNm n))) :=
  PS.by (ps_setLc hc hN hy hyl hsw hi ok hg ht he hs) fun D σ H h => tAsg_by (ro_lc2 hij) gName_of rE_mono D σ H (rS_asg h)
theorem ts_nil : PTs X [] (rT X.K cl W (mC (.bool true))) := by
  refine ⟨fun pins s σ H Q I h => pts_nil.run pins s σ H Q I ?_⟩
  obtain ⟨F, as, ρ, T, rl, sr, po⟩ := h
  obtain ⟨b, e, q⟩ := po F as H Gr.refl rl
  cases e
  exact q
theorem ts_one {c : Expr} (h : PT X c (rT X.K cl W ma)) : PTs X [c] (rT X.K cl W ma) := pts_one h
end
/-! ### defs -/
def spOf (K : PySem.W.Frag) (cl : Cl) (n : Nat) (f : List Vd → Tab → Re Vd) : Sp := fun vs H Q E => vs.length = n ∧ ∃ F as T ds, Rl K F as H T ∧ VRs K F as vs ds ∧
  Po K F as (f ds T) (fun d F' as' H' _ => ∀ v, VR K F' as' v d → Q v H') fun c H' => E (cl c) none H'
/-- a body run at the parameters' values: n slots -/
def mFn (n : Nat) (b : MS) : List Vd → Tab → Re Vd := fun ds T => (b (ds.map some ++ List.replicate (n - ds.length) none) T).bd fun fl T => match fl with
  | .nx _ => .ok (.dat .none) T
  | .rt d => .ok d T
/-- what a def hands back: the table's new entries are dropped -/
def fCut (f : List Vd → Tab → Re Vd) : List Vd → Tab → Re Vd := fun ds T => match f ds T with
  | .ok d T' => if (closed T.length T' && below T.length d) = true then .ok d (T'.take T.length) else .bad
  | r => r
/-- .. a list is frozen first -/
def fFrz (f : List Vd → Tab → Re Vd) : List Vd → Tab → Re Vd := fun ds T => match f ds T with
  | .ok (.own k) T' => match T'[k]? with
    | some (some xs) => match dats xs with
      | some ys => if (decide (T.length ≤ k) && closed T.length T') = true then .ok (.dat (.list ys)) (T'.take T.length) else .bad
      | none => .bad
    | _ => .bad
  | .ok (.dat x) T' => if closed T.length T' = true then .ok (.dat x) (T'.take T.length) else .bad
  | .ok _ _ => .bad
  | r => r
theorem start_sr {K : PySem.W.Frag} {F : Hp} {as : List Addr} {vs : List V} {ds : List Vd} {N : List Str} (h : VRs K F as vs ds) : SR K F as (L2.start N vs) (ds.map some ++ List.replicate (N.length - ds.length) none) := by
  have hl := h.len
  refine ⟨by unfold L2.start; simp [hl], fun i d e => ?_⟩
  unfold L2.start
  by_cases hi : i < ds.length
  · rw [List.getElem?_append_left (by simpa using hi), List.getElem?_map] at e
    cases q : ds[i]? with
    | none => rw [q] at e; cases e
    | some c =>
      rw [q] at e
      cases e
      obtain ⟨v, h1, h2⟩ := h.get q
      exact ⟨v, by rw [List.getElem?_append_left (by simpa [hl] using hi), List.getElem?_map, h1] <;> rfl, h2⟩
  · rw [List.getElem?_append_right (by simpa using hi), List.getElem?_replicate] at e
    split at e <;> cases e
section
variable {P : Program} {w : World} {K : PySem.W.Frag} {mg : Str → Option Value} {base : Heap} {cl : Cl} {x qual : Str} {params : Arguments} {body : List Stmt} {scope : Scope} {f : Addr} {fd : FuncData}
theorem fn_ok {N ps : List Str} {k : Nat} {b : MS} (F : FunD K x qual params body scope [] [] f fd) (S : FnScope N ps scope)
    (hb : ∀ (cdv : Value) (A : Around) (outer : List Env) (s : Shared) (H : Hp) (E : XK), Room k (A.deeper (envOfC qual scope s.heap.objs.size f cdv)) →
      PSs (cxOf (L2.CX P w) P w K mg base N qual scope f cdv A outer s H E) body (rS K cl (fun c d _ H => E c d H) b)) :
    FnOk P w K mg base (L2.CX P w) (k + 1) f fd ps (spOf K cl ps.length (mFn N.length b)) := by
  refine F.ok S (fun vs H Q E h => h.1) fun cdv A outer s H vs Q E hr h => ⟨_, hb cdv A outer s H E hr, ?_⟩
  obtain ⟨hl, F', as, T, ds, rl, vr, po⟩ := h
  refine ⟨F', as, _, T, rl, start_sr vr, Po.seq po (fun fl T1 F1 as1 H1 g1 rl1 po1 => ?_) fun c H' h σ' => h⟩
  cases fl with
  | nx ρ => exact fun σ' _ => po1 F1 as1 H1 Gr.refl rl1 _ Da.non
  | rt d => exact fun v vr => po1 F1 as1 H1 Gr.refl rl1 v vr
theorem sp_cut {n : Nat} {m : List Vd → Tab → Re Vd} (vs : List V) (H : Hp) (Q : VK) (E : XK) (h : spOf K cl n (fCut m) vs H Q E) : spOf K cl n m vs H Q E := by
  obtain ⟨hl, F, as, T, ds, rl, vr, po⟩ := h
  refine ⟨hl, F, as, T, ds, rl, vr, ?_⟩
  unfold fCut at po
  cases q : m ds T with
  | ok d T' =>
    rw [q] at po
    intro F' as' H' g rl' v vr'
    by_cases c : (closed T.length T' && below T.length d) = true
    · simp only [c, if_true] at po
      rw [Bool.and_eq_true] at c
      exact po F' _ H' (g.cut (Nat.le_of_eq rl.len)) (rl'.cut _ c.1) v (VR.cut vr' c.2)
    · simp only [c, if_false] at po
      exact po.elim
  | er c T' => rw [q] at po; exact po
  | bad => rw [q] at po; exact po
theorem sp_frz {n : Nat} {m : List Vd → Tab → Re Vd} (vs : List V) (H : Hp) (Q : VK) (E : XK) (h : spOf K cl n (fFrz m) vs H Q E) : spOf K cl n m vs H Q E := by
  obtain ⟨hl, F, as, T, ds, rl, vr, po⟩ := h
  refine ⟨hl, F, as, T, ds, rl, vr, ?_⟩
  unfold fFrz at po
  cases q : m ds T with
  | ok d T' =>
    rw [q] at po
    intro F' as' H' g rl' v vr'
    cases d with
    | own k =>
      simp only at po
      split at po
      · rename_i xs hx
        split at po
        · rename_i ys hy
          split at po
          · rename_i c
            rw [Bool.and_eq_true] at c
            have hk : T.length ≤ k := of_decide_eq_true c.1
            obtain ⟨a, ha, rfl⟩ := vr'
            obtain ⟨F2, g2, rl2, da⟩ := rl'.freeze ha hx hy
            have e3 : (T'.set k none).take T.length = T'.take T.length := List.take_set_of_le hk
            have c2 : closed T.length (T'.set k none) = true := by
              unfold closed
              rw [e3]
              exact c.2
            have rl3 := rl2.cut T.length c2
            rw [e3] at rl3
            exact po F2 _ H' ((g.trans g2).cut (Nat.le_of_eq rl.len)) rl3 _ da
          · exact po.elim
        · exact po.elim
      · exact po.elim
    | dat x =>
      simp only at po
      split at po
      · rename_i c
        exact po F' _ H' (g.cut (Nat.le_of_eq rl.len)) (rl'.cut _ c) v vr'
      · exact po.elim
    | scr ns => exact po.elim
  | er c T' => rw [q] at po; exact po
  | bad => rw [q] at po; exact po
end
/-- a def of the module and what it does -/
structure Cal (P : Program) (w : World) (K : PySem.W.Frag) (mg : Str → Option Value) (base : Heap) (cl : Cl) (x : Str) (ps : List Str) (lv : Nat) (f : List Vd → Tab → Re Vd) : Prop where
  ex : ∃ a fd, mg x = some (.ref a) ∧ PySem.W.keepIn K (.ref a) = true ∧ Binds K fd ps [] ∧ FnOk P w K mg base (L2.CX P w) lv a fd ps (spOf K cl ps.length f)
theorem Cal.up {P : Program} {w : World} {K : PySem.W.Frag} {mg : Str → Option Value} {base : Heap} {cl : Cl} {x : Str} {ps : List Str} {lv lv' : Nat} {f : List Vd → Tab → Re Vd} (C : Cal P w K mg base cl x ps lv f) (h : lv ≤ lv') : Cal P w K mg base cl x ps lv' f := by
  obtain ⟨a, fd, h1, h2, h3, h4⟩ := C.ex
  exact ⟨a, fd, h1, h2, h3, h4.mono h⟩
/-- a call: as many arguments as there are parameters -/
def fCall (n : Nat) (f : List Vd → Tab → Re Vd) : List Vd → Tab → Re Vd := fun ds T => if ds.length = n then f ds T else .bad
section
variable {X : Cx} {cl : Cl} {W : WX} {pos p : Pos} {e : Expr} {es : List Expr} {ms : MA} {x : Str} {ps : List Str} {lv : Nat} {f : List Vd → Tab → Re Vd}
theorem v_call {n : Nat} (C : Cal X.prog X.w X.K X.mg X.base cl x ps lv f) (hr : Room lv X.A) (tk : Takes X W) (ha : PA X (e :: es) (rA X.K cl W ms)) (hg : Gl X x := by rfl) (hdb : (x == ("__debug__" : Str)) = false := by decide)
    (he : starEach (e :: es) X.env = (false, eval e X.env) :: starEach es X.env := by rfl) (hpl : (backTo pos (starEach es X.env)).any (·.1) = false := by rfl) (hn : ps.length = n := by rfl) : PE X (.Call (.Name x p) (e :: es) [] pos) (rE X.K cl W (mN (fCall n f) ms)) := by
  subst hn
  obtain ⟨a, fd, hm, hk, hb, G⟩ := C.ex
  refine PE.by (pe_callS G hr hg hm hk hb (fun σ => passAt tk σ) ha hdb he hpl) fun σ H Q h => ?_
  obtain ⟨F, as, ρ, T, rl, sr, po⟩ := h
  refine ⟨F, as, ρ, T, rl, sr, Po.seq po (fun ds T1 F1 as1 H1 g1 rl1 po1 vs vr => ?_) fun c H' h => h⟩
  unfold fCall at po1
  split at po1
  · rename_i hl
    exact ⟨by rw [vr.len, hl], F1, as1, T1, ds, rl1, vr, po1⟩
  · exact po1.elim
/-- without arguments: no error leaves it -/
def mCall0 (f : List Vd → Tab → Re Vd) : ME := fun _ T => (f [] T).ne
theorem v_call0 (C : Cal X.prog X.w X.K X.mg X.base cl x [] lv f) (hr : Room lv X.A) (hg : Gl X x := by rfl) (hdb : (x == ("__debug__" : Str)) = false := by decide) : PE X (.Call (.Name x p) [] [] pos) (rE X.K cl W (mCall0 f)) := by
  obtain ⟨a, fd, hm, hk, hb, G⟩ := C.ex
  refine PE.by (pe_call0 G hr hg hm hk hb .nil passL hdb) fun σ H Q h => ?_
  obtain ⟨F, as, ρ, T, rl, sr, po⟩ := h
  refine ⟨rfl, F, as, T, [], rl, .nil, ?_⟩
  unfold mCall0 at po
  cases q : f [] T with
  | ok d T' => rw [q] at po; exact po
  | er c T' => rw [q] at po; exact po.elim
  | bad => rw [q] at po; exact po.elim
end
end Hr
set_option Elab.async false
set_option linter.all false
set_option maxRecDepth 100000
set_option maxHeartbeats 4000000
namespace Hr
open PySem PySem.Spec PyProof.Rows L2
/-! ### tuple * int -/
theorem tup_mul_one (l : Addr) (items : Array Value) (n : Nat) (dd : Option Addr) (sl : Array (Option Value)) (u : Tok) :
    Meets (Builtin.«tuple.__mul__» ⟨[.ref l, .int 1 u], []⟩) (fun _ R s => s.heap.get? l = some { cls := .type "tuple", dict := dd, data := .seq items n, slots := sl } ∧ R (.ok (.ret (Value.ref l))) s) := by
  refine .of_wp fun prog w A R s h => ?_
  obtain ⟨hp, g, d, tk, os⟩ := s
  obtain ⟨hl, h⟩ := h
  have f1 := AutoSeq1.idx_int
  wp_walk using wpAny_loadPart' hl
  exact ⟨_, rfl, h⟩
theorem tup_mul_zero (l : Addr) (items : Array Value) (n : Nat) (dd : Option Addr) (sl : Array (Option Value)) (u : Tok) (hne : items.isEmpty = false) :
    Meets (Builtin.«tuple.__mul__» ⟨[.ref l, .int 0 u], []⟩) (fun _ R s => s.heap.get? l = some { cls := .type "tuple", dict := dd, data := .seq items n, slots := sl } ∧
      R (.ok (.ret (Value.ref s.heap.objs.size))) { s with heap := s.heap.push { cls := Value.type "tuple", data := Data.seq #[] }, toks := s.toks }) := by
  refine .of_wp fun prog w A R s h => ?_
  obtain ⟨hp, g, d, tk, os⟩ := s
  obtain ⟨hl, h⟩ := h
  have f1 := AutoSeq1.idx_int
  have c1 : (items.isEmpty || ((0 : Int) == 1)) = false := by rw [hne]; rfl
  wp_walk using wpAny_loadPart' hl
  repeat (first
    | (refine wpAny_ite_false (decide_eq_false (by rw [c1]; exact Bool.false_ne_true)) ?_; wp_walk using wpAny_loadPart' hl))
  exact ⟨_, rfl, h⟩

def rRep01 (K : PySem.W.Frag) : R2 := fun x y H Q => ∃ l k xs, x = .ref l ∧ y = .int k ∧ SqT K H l xs ∧ xs ≠ [] ∧ 0 ≤ k ∧ k ≤ 1000 ∧ xs.length ≤ 1000 ∧ (k = 1 → Q (.ref l) H) ∧ (k ≠ 1 → ∀ p, H p = none → Q (.ref p) (upd H p (.tup (List.replicate k.toNat xs).flatten)))
theorem op_rep01 {X : Cx} : OpR X (binaryOp .Mult) (rRep01 X.K) := by
  intro pins s σ H x y v u Q I rx ry h
  obtain ⟨l, k, xs, rfl, rfl, hT, hne, h1, h2, hz, q1, q2⟩ := h
  by_cases c2 : 2 ≤ k
  · exact op_repT pins s σ H _ _ v u Q I rx ry ⟨l, k, xs, rfl, rfl, hT, hne, c2, h2, hz, q2 (by omega)⟩
  · cases rx
    obtain ⟨t, rfl⟩ := ry
    obtain ⟨its, r, ⟨⟨cls, dd, data, sl⟩, ho, hc, n, hd⟩, hs⟩ := I.tuple hT
    simp only at hc hd
    subst hc hd
    have hi : its.toArray.isEmpty = false := by
      cases its with
      | nil =>
        cases r
        exact absurd rfl hne
      | cons a b => rfl
    by_cases c1 : k = 1
    · subst c1
      refine wpAny_binaryOp_repeat_ref (T := "tuple") (U := "int") (by decide) ⟨_, ho, rfl⟩ (fun s' => typeIs_int s' 1 t) noFill_tuple_mul F.fills_int_mul F.slot_int_rmul repeat_tuple F.slot_int_index.lookup
        (call_meets F.slot_int_rmul (typeIs_int s 1 t) F.entry_int_rmul (F.args_int_rmul_2 _ _) (int_rmul_tuple 1 t l its.toArray n dd sl)
          ⟨ho, rfl, ⟨_, ho, rfl⟩, call_meets F.slot_tuple_mul ⟨_, ho, rfl⟩ F.entry_tuple_mul (F.args_tuple_mul_2 _ _) (tup_mul_one l its.toArray n dd sl t) ⟨ho, ?_⟩⟩)
      exact ⟨.ref l, H, I, rfl, q1 rfl⟩
    · have c0 : k = 0 := by omega
      subst c0
      refine wpAny_binaryOp_repeat_ref (T := "tuple") (U := "int") (by decide) ⟨_, ho, rfl⟩ (fun s' => typeIs_int s' 0 t) noFill_tuple_mul F.fills_int_mul F.slot_int_rmul repeat_tuple F.slot_int_index.lookup
        (call_meets F.slot_int_rmul (typeIs_int s 0 t) F.entry_int_rmul (F.args_int_rmul_2 _ _) (int_rmul_tuple 0 t l its.toArray n dd sl)
          ⟨ho, rfl, ⟨_, ho, rfl⟩, call_meets F.slot_tuple_mul ⟨_, ho, rfl⟩ F.entry_tuple_mul (F.args_tuple_mul_2 _ _) (tup_mul_zero l its.toArray n dd sl t hi) ⟨ho, ?_⟩⟩)
      refine ⟨.ref s.heap.objs.size, _, I.laid (t' := s.toks) (o := .tup []) (fun b ob q => Heap.get?_push_of_some _ q) (Nat.le_refl _) ?_, rfl, q2 (by decide) _ (I.hok.fresh (Nat.le_refl _))⟩
      exact ⟨Nat.zero_le _, [], .nil, IsTup.new _ _⟩
def fRepT : Vd → Vd → Tab → Re Vd := fun x y T => match x, y with
  | .dat (.tuple xs), .dat (.int k) => if (!xs.isEmpty && decide (0 ≤ k ∧ k ≤ 1000 ∧ xs.length ≤ 1000)) = true then .ok (.dat (.tuple (List.replicate k.toNat xs).flatten)) T else .bad
  | _, _ => .bad
theorem ops_repT {K : PySem.W.Frag} : OpS K (rRep01 K) fRepT := by
  intro F as H T x y d e Q ew rl hx hy po
  unfold fRepT at po
  split at po
  · split at po
    · rename_i xs k hk
      rw [Bool.and_eq_true] at hk
      obtain ⟨h0, h1, h2⟩ : 0 ≤ k ∧ k ≤ 1000 ∧ xs.length ≤ 1000 := of_decide_eq_true hk.2
      cases hy
      cases hx with
      | @tup l vs _ hs ha =>
        refine ⟨l, k, vs, rfl, rfl, rl.ex.tup hs, fun e => ?_, h0, h1, by rw [ha.len]; exact h2, fun e => ?_, fun _ p hp => ?_⟩
        · rw [e] at ha
          cases ha
          exact absurd hk.1 (by decide)
        · subst e
          have e1 : (List.replicate (1 : Int).toNat xs).flatten = xs := by
            show (List.replicate 1 xs).flatten = xs
            simp
          rw [e1] at po
          exact po F as H Gr.refl rl _ (Da.tup hs ha)
        · obtain ⟨rl2, g⟩ := rl.dat (o := .tup (List.replicate k.toNat vs).flatten) hp
          exact po _ _ _ g rl2 _ (Da.tup (SqT.of upd_same) (DaAll.mono g.ex (ha.rep _)))
    · exact po.elim
  · exact po.elim
/-! ### odds and ends -/
section
variable {X : Cx} {cl : Cl} {W : WX} {pos : Pos} {a b : Expr} {ma mb : ME} {rest : List Expr}
/-- a name of the module that holds data -/
theorem v_g {x : Str} {u : Value} {v : V} {d : PyData} (hm : X.mg x = some u) (r : RelV v u) (hx : ∀ F, Da X.K F v d) (hg : Gl X x := by rfl) (hd : (x == ("__debug__" : Str)) = false := by decide) : PE X (.Name x pos) (rE X.K cl W (mC d)) := v_c (pe_glob hg hm r hd) hx
def fNeg : Vd → Tab → Re Vd := fun x T => match x with
  | .dat (.int i) => .ok (.dat (.int (-i))) T
  | _ => .bad
theorem v_neg (ha : PE X a (rE X.K cl W ma)) : PE X (.UnaryOp .USub a pos) (rE X.K cl W (m1 fNeg ma)) := PE.by (pe_un un_neg ha) fun σ H Q h => by
  obtain ⟨F, as, ρ, T, rl, sr, po⟩ := h
  refine ⟨F, as, ρ, T, rl, sr, Po.seq po (fun d T1 F1 as1 H1 g1 rl1 po1 v vr => ?_) fun c H' h => h⟩
  unfold fNeg at po1
  split at po1
  · cases vr
    exact ⟨_, rfl, po1 F1 as1 H1 Gr.refl rl1 _ (Da.int _)⟩
  · exact po1.elim
/-- a or b, a list -/
def mOrL (a b : ME) : ME := fun ρ T => (a ρ T).bd fun x T => match itemsOf x T with
  | some [] => b ρ T
  | some (_ :: _) => .ok x T
  | none => .bad
theorem v_orL (ha : PE X a (rE X.K cl W ma)) (hb : PE X (.BoolOp .Or (b :: rest) pos) (rE X.K cl W mb)) : PE X (.BoolOp .Or (a :: b :: rest) pos) (rE X.K cl W (mOrL ma mb)) := PE.by (pe_orT ha hb) fun σ H Q h => by
  obtain ⟨F, as, ρ, T, rl, sr, po⟩ := h
  refine ⟨F, as, ρ, T, rl, sr, Po.seq po (fun d T1 F1 as1 H1 g1 rl1 po1 v vr => ?_) fun c H' h => h⟩
  have tru : ∀ {xs : List Vd}, itemsOf d T1 = some xs → TruV X.K v H1 (!xs.isEmpty) := fun {xs} e => by
    obtain ⟨p, vs, rfl, hs, hv⟩ := items_l rl1 vr e
    have e2 : vs.isEmpty = xs.isEmpty := by
      cases hv <;> rfl
    rcases hs with hs | hs
    · exact .inl ⟨vs, hs, by rw [e2]⟩
    · exact .inr (.inl ⟨vs, hs, by rw [e2]⟩)
  split at po1
  · rename_i e
    exact ⟨false, tru e, iteF ⟨F1, as1, ρ, T1, rl1, sr.mono g1, po1⟩⟩
  · rename_i e
    exact ⟨true, tru e, iteT (po1 F1 as1 H1 Gr.refl rl1 v vr)⟩
  · exact po1.elim
/-- {k: n, ..}[e], written text keys and numbers, three of them -/
def dicAt (kvs : List (Str × Int)) (z : Str) : Option V := valV (mergeK [] (kvs.map fun q => ((Sum.inr q.1 : Key), V.int q.2))) (Sum.inr z)
def fDic (kvs : List (Str × Int)) : Vd → Tab → Re Vd := fun x T => match x with
  | .dat (.str z) => match dicAt kvs z with
    | some (.int n) => .ok (.dat (.int n)) T
    | _ => .bad
  | _ => .bad
theorem v_dic3 {k1 k2 k3 : Str} {n1 n2 n3 : Int} {j1 j2 j3 j4 j5 j6 : Nat} {p1 p2 p3 p4 p5 p6 dp : Pos} (hu : X.A.units + 1 < cLine) (ha : PE X a (rE X.K cl W ma)) (hs : NoSl a := by exact fun _ _ => rfl) :
    PE X (.Subscript (.Dict [some (.Constant (.str k1) j1 p1), some (.Constant (.str k2) j2 p2), some (.Constant (.str k3) j3 p3)] [.Constant (.int n1) j4 p4, .Constant (.int n2) j5 p5, .Constant (.int n3) j6 p6] dp) a pos) (rE X.K cl W (m1 (fDic [(k1, n1), (k2, n2), (k3, n3)]) ma)) :=
  PE.by (pe_dget hu (pe_disp (pps_cons pe_str pe_int (pps_cons pe_str pe_int (pps_cons pe_str pe_int pps_nil))) rfl rfl (fun z => by cases z) (show 3 ≤ 15 by decide)) ha hs) fun σ H Q h => by
    obtain ⟨F, as, ρ, T, rl, sr, po⟩ := h
    intro p hp
    refine ⟨upd_same, [(Sum.inr k1, .int n1), (Sum.inr k2, .int n2), (Sum.inr k3, .int n3)], rfl, (show 3 ≤ 15 by decide), ?_⟩
    rw [upd_upd]
    obtain ⟨rl0, g0⟩ := rl.dat (o := .dK (mergeK [] [(Sum.inr k1, .int n1), (Sum.inr k2, .int n2), (Sum.inr k3, .int n3)])) hp
    refine ⟨_, as, ρ, T, rl0, sr.mono g0, Po.seq (Po.grow g0 po) (fun d T1 F1 as1 H1 g1 rl1 po1 v vr => ?_) fun c H' h => h⟩
    unfold fDic at po1
    split at po1
    · rename_i z
      split at po1
      · rename_i n hz
        cases vr
        have hd := rl1.ex _ _ (g1.ex _ _ (upd_same (H := F) (a := p) (o := .dK (mergeK [] [(Sum.inr k1, .int n1), (Sum.inr k2, .int n2), (Sum.inr k3, .int n3)]))))
        refine ⟨p, .int n, rfl, ?_, po1 F1 as1 H1 Gr.refl rl1 _ (Da.int _)⟩
        have := DGet.k (k := Sum.inr z) hd
        have e : valV (mergeK [] [(Sum.inr k1, .int n1), (Sum.inr k2, .int n2), (Sum.inr k3, .int n3)]) (Sum.inr z : Key) = some (V.int n) := hz
        rw [e] at this
        exact this
      · exact po1.elim
    · exact po1.elim
end
end Hr
set_option Elab.async false
set_option linter.all false
set_option maxRecDepth 100000
set_option maxHeartbeats 4000000
namespace Hr
open PySem PySem.Spec PyProof.Rows L2
/-! ### try, with two clauses that each name the error -/
section
variable {X : Cx} {pins : List (Addr × Obj)} {σ : L2.St} {H : Hp} {s : Shared} {D : Ends}
/-- the error at a over the ground B, noted by nobody or by this frame; I: the state without it -/
structure Air (X : Cx) (pins : List (Addr × Obj)) (σ : L2.St) (H : Hp) (a : Addr) (cls : Value) (d : Option Addr) (B : Heap) (s : Shared) : Prop where
  fly : HandSPX.FlyingZ B (X.env :: X.outer) a (Zc cls d) s.heap
  inv : ∀ s', HandSPX.FlyingZ B (X.env :: X.outer) a (Zc cls d) s'.heap → s.heap.UpToSlots s'.heap → s'.os = s.os → AllBare s'.gens → Inv X pins σ H s'
  self : Inv X pins σ H s
  na : H a = none
theorem Air.apart {a : Addr} {cls : Value} {d : Option Addr} {B : Heap} {s' : Shared} (x : Air X pins σ H a cls d B s) (hf : X.env.frame = some X.env.locals) (fl : HandSPX.FlyingZ B (X.env :: X.outer) a (Zc cls d) s'.heap) :
    ∃ oe vs, s'.heap.get? a = some oe ∧ Zc cls d oe ∧ oe.data = .fields vs ∧ a ≠ X.env.locals ∧ a ∉ X.fs := by
  obtain ⟨oe, vs, he, hz, hd⟩ := fl.there
  have out : a ∉ frs (X.env :: X.outer) := fun hm => by
    obtain ⟨_, o', e', hnf⟩ := fl.2.2.1.mem hm
    rw [he] at e'
    cases e'
    exact hnf _ hd
  refine ⟨oe, vs, he, hz, hd, fun z => out (List.mem_filterMap.mpr ⟨X.env, List.mem_cons_self, by rw [hf, z]⟩), fun hm => ?_⟩
  obtain ⟨e, he, q⟩ := List.mem_filterMap.mp hm
  exact out (List.mem_filterMap.mpr ⟨e, List.mem_cons_of_mem _ he, q⟩)
/-- what a clause that takes the error wishes; the slot i is the error's name -/
abbrev cEnds (D : Ends) (i : Nat) : Ends := { nx := fun σ' H' => D.nx (σ'.set i none) H', rt := D.rt, bk := fun σ' H' => D.bk (σ'.set i none) H', ct := fun σ' H' => D.ct (σ'.set i none) H' }
theorem one_clause {a : Addr} {cls : Value} {d : Option Addr} {B : Heap} {x n : Str} {c : Value} {i : Nat} {suite : List Stmt} {b₀ : Stmt} {np pos' : Pos} {ts : Addr → Value → Option Addr → TS} {b : Bool} {more : List ExceptHandler}
    (x0 : Air X pins σ H a cls d B s) (hf : X.env.frame = some X.env.locals) (hN : X.N.Nodup) (hi : X.N[i]? = some n) (hln : X.env.kindOf n = some .local) (hc : Names X x c)
    (hsu : ∀ (a : Addr) (oe : Obj) (cls : Value) (d : Option Addr) (pn : List (Addr × Obj)), Zc cls d oe → (∃ vs, oe.data = .fields vs) → PSs (X.suite a ((a, oe) :: pn)) (b₀ :: suite) (ts a cls d))
    (hb : PySem.W.exmOne X.K cls c = some b) (yes : b = true → ts a cls d (cEnds D i) (σ.set i (some (.ref a))) H)
    (no : b = false → wpAny (model X.prog X.w) X.A (handleBy (.ref a) X.env more) (SP X pins D) X.xe s) :
    wpAny (model X.prog X.w) X.A (handleBy (.ref a) X.env (.ExceptHandler (some (.Name x np)) (some n) (b₀ :: suite) pos' :: more)) (SP X pins D) X.xe s := by
  obtain ⟨oe, vs, he, hz, hd, nL, nF⟩ := x0.apart hf x0.fly
  have S := x0.self.suite he hd x0.na nL nF
  refine wpAny_handleBy_cons (codeAny_handlers_test ?_) (by intro q; cases q)
  have look : ∀ {Q E : Value → Shared → Prop}, Q c s → wpAny (model X.prog X.w) (X.A.mark (some (.ref a))) (eval (.Name x np) X.env) Q E s := fun {Q E} q => by
    obtain ⟨hg, hdb, hm | ⟨hm, hv, hnn⟩⟩ := hc
    · exact ld_glob (X := X.suite a ((a, oe) :: (X.pn ++ pins))) S hg hm q hdb
    · exact ld_blt (X := X.suite a ((a, oe) :: (X.pn ++ pins))) S hg hm hv q hnn hdb
  have ty : PySem.W.Looks (model X.prog X.w) s.heap (typeOf (.ref a)) cls := fun A Q E s k q => wpAny_typeOf_ref (k _ _ he) (by rw [hz.1]; exact q)
  refine look ((PySem.W.exm_one (M := model X.prog X.w) x0.self.kIn ty hb).here ?_)
  cases b with
  | false => exact no rfl
  | true =>
    refine codeAny_handlers_suite_as (HandSPX.lands_againZ x0.fly fun h4 fl4 up4 => ?_)
    have J := x0.inv { s with heap := h4 } fl4 up4 rfl x0.self.bare
    obtain ⟨oe4, vs4, he4, hz4, hd4, _, _⟩ := x0.apart (s' := { s with heap := h4 }) hf fl4
    refine store_ok (X := X.suite a ((a, oe4) :: (X.pn ++ pins))) (v := .ref a) (J.suite he4 hd4 x0.na nL nF) hN hi (.inl hln) rfl (fun s5 S5 => ?_) (.inr hln)
    refine wpAny_mono ((hsu a oe4 cls d (X.pn ++ pins) hz4 ⟨_, hd4⟩).run [] s5 _ H _ S5 (yes rfl)) (fun f s6 hsp => ?_) (fun _ _ z => False.elim z)
    have fin : ∀ {σ6 : L2.St} {H6 : Hp} {Q : Shared → Prop}, Inv (X.suite a ((a, oe4) :: (X.pn ++ pins))) [] σ6 H6 s6 → (∀ s7, Inv X pins (σ6.set i none) H6 s7 → Q s7) →
        wpAny (model X.prog X.w) X.A (do bindName X.env n .none; unbindBehindTheSuite X.env n pos') (fun _ s7 => Q s7) X.xe s6 := fun {σ6 H6 Q} S6 hq => gone_ok (S6.unsuite x0.self.ok) hN hi hln hq
    cases f with
    | next => let ⟨_, _, S6, q6⟩ := hsp; exact fin S6 fun s7 J7 => ⟨_, _, J7, q6⟩
    | brk => let ⟨_, _, S6, q6⟩ := hsp; exact fin S6 fun s7 J7 => ⟨_, _, J7, q6⟩
    | cont => let ⟨_, _, S6, q6⟩ := hsp; exact fin S6 fun s7 J7 => ⟨_, _, J7, q6⟩
    | ret u => let ⟨_, _, _, S6, r6, q6⟩ := hsp; exact fin S6 fun s7 J7 => ⟨_, _, _, J7, r6, q6⟩
end
section
variable {X : Cx} {body s1 s2 : List Stmt} {b1 b2 : Stmt} {x1 x2 n1 n2 : Str} {c1 c2 : Value} {i1 i2 : Nat} {p1 p2 q1 q2 pos : Pos} {tb : WX → TS} {t1 t2 : Addr → Value → Option Addr → TS}
/-- one of the two takes it -/
def w2 (K : PySem.W.Frag) (c1 c2 : Value) (i1 i2 : Nat) (t1 t2 : Addr → Value → Option Addr → TS) (D : Ends) : WX := fun cls d σ H =>
  (PySem.W.exmOne K cls c1 = some true ∧ ∀ a, H a = none → t1 a cls d (cEnds D i1) (σ.set i1 (some (.ref a))) H) ∨
  (PySem.W.exmOne K cls c1 = some false ∧ PySem.W.exmOne K cls c2 = some true ∧ ∀ a, H a = none → t2 a cls d (cEnds D i2) (σ.set i2 (some (.ref a))) H)
theorem ps_try2 (hs : X.stack = X.env :: X.outer) (hf : X.env.frame = some X.env.locals) (hN : X.N.Nodup) (h1 : X.N[i1]? = some n1) (l1 : X.env.kindOf n1 = some .local) (e1 : Names X x1 c1)
    (h2 : X.N[i2]? = some n2) (l2 : X.env.kindOf n2 = some .local) (e2 : Names X x2 c2)
    (hb : ∀ (W : WX) (pn : List (Addr × Obj)) (xe : Value → Shared → Prop), Takes (X.tr pn xe) W → PassesOwn (model X.prog X.w) X.A X.env xe → PSs (X.tr pn xe) body (tb W))
    (u1 : ∀ (a : Addr) (oe : Obj) (cls : Value) (d : Option Addr) (pn : List (Addr × Obj)), Zc cls d oe → (∃ vs, oe.data = .fields vs) → PSs (X.suite a ((a, oe) :: pn)) (b1 :: s1) (t1 a cls d))
    (u2 : ∀ (a : Addr) (oe : Obj) (cls : Value) (d : Option Addr) (pn : List (Addr × Obj)), Zc cls d oe → (∃ vs, oe.data = .fields vs) → PSs (X.suite a ((a, oe) :: pn)) (b2 :: s2) (t2 a cls d)) :
    PS X (.Try body [.ExceptHandler (some (.Name x1 p1)) (some n1) (b1 :: s1) q1, .ExceptHandler (some (.Name x2 p2)) (some n2) (b2 :: s2) q2] [] [] pos) (fun D σ H => tb (w2 X.K c1 c2 i1 i2 t1 t2 D) D σ H) := by
  refine ⟨fun pins s σ H D I h => wpAny_Try_except (wpAny_mono ((hb (w2 X.K c1 c2 i1 i2 t1 t2 D) (X.pn ++ pins) _ (fun u s' xx => ?_) PassesOwn.looking).run [] s σ H D (I.toTry _) h) (fun f s1 hsp => ?_) fun e s1 he => he)⟩
  · have ok := I.ok
    obtain ⟨a, B, sI, pins', σ', H', cls, d, rfl, J', nb, up, sky, na, os, ag, w⟩ := xx
    have J : Inv X pins σ' H' sI := J'.ofTry ok
    have sky' : Sky B (X.env :: X.outer) a (Zc cls d) X.env.locals s'.heap := by rw [← hs]; exact sky
    show wpAny (model X.prog X.w) X.A (noteFrame (.ref a) X.env) _ _ _
    refine Sky.land Zc.steady (by rw [ok.frames, hs]) hf sky' fun h3 fl3 up3 => ?_
    have air : Air X pins σ' H' a cls d B { s' with heap := h3 } := ⟨fl3, fun s4 fl4 up4 os4 ag4 => J.landed nb fl4.1 ((up.trans up3).trans up4) (os4.trans os) ag4, J.landed nb fl3.1 (up.trans up3) os ag, na⟩
    rcases w with ⟨w1, w2⟩ | ⟨w1, w2, w3⟩
    · exact one_clause air hf hN h1 l1 e1 u1 w1 (fun _ => w2 a na) (fun q => by cases q)
    · exact one_clause air hf hN h1 l1 e1 u1 w1 (fun q => by cases q) (fun _ => one_clause air hf hN h2 l2 e2 u2 w2 (fun _ => w3 a na) (fun q => by cases q))
  · have ok := I.ok
    cases f with
    | next => let ⟨_, _, J', q⟩ := hsp; exact wpAny_execs_nil ⟨_, _, J'.ofTry ok, q⟩
    | brk => let ⟨_, _, J', q⟩ := hsp; exact ⟨_, _, J'.ofTry ok, q⟩
    | cont => let ⟨_, _, J', q⟩ := hsp; exact ⟨_, _, J'.ofTry ok, q⟩
    | ret u => let ⟨_, _, _, J', r, q⟩ := hsp; exact ⟨_, _, _, J'.ofTry ok, r, q⟩
end
/-- what the classes of the program's errors say -/
structure ErT (K : PySem.W.Frag) (mg : Str → Option Value) (cl : Cl) (x0 x1 : Str) (C0 C1 : Addr) : Prop where
  c0 : cl 0 = .ref C0
  c1 : cl 1 = .ref C1
  g0 : mg x0 = some (.ref C0)
  g1 : mg x1 = some (.ref C1)
  m00 : PySem.W.exmOne K (.ref C0) (.ref C0) = some true
  m10 : PySem.W.exmOne K (.ref C1) (.ref C0) = some false
  m11 : PySem.W.exmOne K (.ref C1) (.ref C1) = some true
  e0 : ExcC K C0
  e1 : ExcC K C1
  v0 : PySem.W.kitOne K (.ref C0) (.type "ValueError") = some true
  v1 : PySem.W.kitOne K (.ref C1) (.type "ValueError") = some true
/-- told = [m, isinstance(e, ValueError)], e in slot ie -/
def tTell (K : PySem.W.Frag) (m : Str) (ie it : Nat) (a : Addr) (cls : Value) (d : Option Addr) : TS := fun D σ H => ∃ C, cls = .ref C ∧ d = none ∧ ExcC K C ∧
  tAsg (tLst (tCons (tC (.str m)) (tCons (tCB (rIsE K C a) (tCons (tVar ie) (tCons (tC (.ty "ValueError")) tNil))) tNil))) (gName it) D σ H
theorem boot_ValueError : bootBuiltins "ValueError" = some (.type "ValueError") := by decide +kernel
section
variable {X : Cx} {cl : Cl} {W : WX} {e : Expr} {m : ME}
theorem s_tell {it ie : Nat} {told er ms : Str} {a : Addr} {oe : Obj} {cls : Value} {d : Option Addr} {pn : List (Addr × Obj)} {j : Nat} {p1 p2 p3 p4 p5 p6 p7 pos : Pos} (hz : Zc cls d oe) (hf : ∃ vs, oe.data = .fields vs)
    (hN : X.N.Nodup) (hi : X.N[it]? = some told) (hx : X.env.scope.names.lookup told = some .local) (hie : X.N[ie]? = some er) (hxe : X.env.scope.names.lookup er = some .local) (hg : Gl X "isinstance") (hm : X.mg "isinstance" = none) (hg2 : Gl X "ValueError") (hm2 : X.mg "ValueError" = none)
    (hde : (er == ("__debug__" : Str)) = false := by decide) (hce : (er == ("__classdict__" : Str)) = false := by decide) (hkd : X.env.kindOf er = some .local := by rfl) (hpl : (backTo p6 (starEach [.Name "ValueError" p5] X.env)).any (·.1) = false := by rfl) :
    PSs (X.suite a ((a, oe) :: pn)) [.Assign [.Name told p1] (.List [.Constant (.str ms) j p2, .Call (.Name "isinstance" p3) [.Name er p4, .Name "ValueError" p5] [] p6] p7) pos] (tTell X.K ms ie it a cls d) := by
  refine ⟨fun pins s σ H D I h => ?_⟩
  obtain ⟨C, rfl, rfl, hC, h⟩ := h
  exact (pss_one (ps_set (X := X.suite a ((a, oe) :: pn)) (i := it) hN hi (.inl hx)
    (pe_lst (pa_cons pe_str (pa_cons (pe_callB (call_isE hC hz hf) hg hm boot_isinstance (pa_cons (pe_var hie (.inl hxe) hde hce) (pa_cons (pe_bltn (v := .ty "ValueError") hg2 hm2 boot_ValueError rfl) pa_nil)) (by decide) (by decide) rfl hpl) pa_nil))) rfl (.inr hx))).run pins s σ H D I h
def tellD (m : Str) : PyData := .list [.str m, .bool true]
def sTry2 (it i1 i2 : Nat) (m1 m2 : Str) (m : ME) : MS := fun ρ T => match m ρ T with
  | .ok d T' => .ok (.nx (ρ.set it (some d))) T'
  | .er c T' => if (decide (i1 < ρ.length) && decide (i2 < ρ.length)) = false then .bad else if c = 0 then .ok (.nx (((ρ.set i1 none).set it (some (.dat (tellD m1)))).set i1 none)) T' else if c = 1 then .ok (.nx (((ρ.set i2 none).set it (some (.dat (tellD m2)))).set i2 none)) T' else .bad
  | .bad => .bad
theorem SR.any {K : PySem.W.Frag} {F : Hp} {as : List Addr} {σ : L2.St} {ρ : Rho} (h : SR K F as σ ρ) (i : Nat) (v : Option V) : SR K F as (σ.set i v) (ρ.set i none) := ⟨by simp [h.1], fun j c e => by
  by_cases hj : i = j
  · subst hj
    by_cases hlt : i < ρ.length
    · rw [List.getElem?_set_self hlt] at e
      cases e
    · rw [List.getElem?_eq_none (by simpa using hlt)] at e
      cases e
  · rw [List.getElem?_set_ne hj] at e ⊢
    exact h.2 j c e⟩
theorem tell_ok {D : Ends} {F' : Hp} {as' : List Addr} {H' : Hp} {T' : Tab} {σ : L2.St} {ρ : Rho} {ie it : Nat} {ms : Str} {a C : Addr} (hC : ExcC X.K C) (hv : PySem.W.kitOne X.K (.ref C) (.type "ValueError") = some true) (rl : Rl X.K F' as' H' T') (sr : SR X.K F' as' σ ρ) (hl : ie < σ.length)
    (po : Po X.K F' as' (.ok (.nx (((ρ.set ie none).set it (some (.dat (tellD ms)))).set ie none)) T') (fun fl F' as' H' _ => flQ X.K D fl F' as' H') fun c H' => ∀ σ', W (cl c) none σ' H') :
    tTell X.K ms ie it a (.ref C) none (cEnds D ie) (σ.set ie (some (.ref a))) H' := by
  refine ⟨C, rfl, rfl, hC, ?_⟩
  refine ⟨.ref a, by rw [List.getElem?_set_self hl], .ty "ValueError", .type "ValueError", true, rfl, fun u h => h, hv, by show 2 ≤ sizeLine; decide, fun p hp => ?_⟩
  obtain ⟨rl2, g2⟩ := rl.dat (o := .lst [V.str ms, V.bl true]) hp
  exact po _ _ _ g2 rl2 _ ((((sr.mono g2).any ie (some (.ref a))).set it (show VR X.K _ as' (.ref p) (.dat (tellD ms)) from Da.lst upd_same (.cons (.str ms) (.cons (.bl true) .nil)))).any ie none)
theorem s_try2 {it i1 i2 : Nat} {told n1 n2 x0 x1 ms1 ms2 : Str} {C0 C1 : Addr} {j1 j2 : Nat} {a1 a2 a3 a4 b1 b2 b3 b4 b5 b6 b7 b8 b9 c1 c2 c3 c4 c5 c6 c7 c8 c9 : Pos} (E : ErT X.K X.mg cl x0 x1 C0 C1)
    (hs : X.stack = X.env :: X.outer) (hf : X.env.frame = some X.env.locals) (hN : X.N.Nodup) (h0 : X.N[it]? = some told) (l0 : X.env.scope.names.lookup told = some .local) (h1 : X.N[i1]? = some n1) (l1 : X.env.scope.names.lookup n1 = some .local)
    (h2 : X.N[i2]? = some n2) (l2 : X.env.scope.names.lookup n2 = some .local) (hm : X.mg "isinstance" = none) (hm2 : X.mg "ValueError" = none)
    (he : ∀ (W : WX) (pn : List (Addr × Obj)) (xe : Value → Shared → Prop), Takes (X.tr pn xe) W → PassesOwn (model X.prog X.w) X.A X.env xe → PE (X.tr pn xe) e (rE X.K cl W m)) (g0 : Gl X x0) (g1 : Gl X x1) (hg : Gl X "isinstance") (hg2 : Gl X "ValueError")
    (k1 : X.env.kindOf n1 = some .local) (k2 : X.env.kindOf n2 = some .local)
    (hsw : swapsWith e (some (.Name told a1)) a2.line X.env = pure false)
    (hp1 : (backTo b6 (starEach [.Name "ValueError" b5] X.env)).any (·.1) = false) (hp2 : (backTo c6 (starEach [.Name "ValueError" c5] X.env)).any (·.1) = false)
    (d0 : (x0 == ("__debug__" : Str)) = false := by decide) (d1 : (x1 == ("__debug__" : Str)) = false := by decide)
    (dn1 : (n1 == ("__debug__" : Str)) = false := by decide) (cn1 : (n1 == ("__classdict__" : Str)) = false := by decide) (dn2 : (n2 == ("__debug__" : Str)) = false := by decide) (cn2 : (n2 == ("__classdict__" : Str)) = false := by decide) :
    PS X (.Try [.Assign [.Name told a1] e a2] [.ExceptHandler (some (.Name x0 a3)) (some n1) [.Assign [.Name told b1] (.List [.Constant (.str ms1) j1 b2, .Call (.Name "isinstance" b3) [.Name n1 b4, .Name "ValueError" b5] [] b6] b7) b8] b9,
      .ExceptHandler (some (.Name x1 a4)) (some n2) [.Assign [.Name told c1] (.List [.Constant (.str ms2) j2 c2, .Call (.Name "isinstance" c3) [.Name n2 c4, .Name "ValueError" c5] [] c6] c7) c8] c9] [] [] pos) (rS X.K cl W (sTry2 it i1 i2 ms1 ms2 m)) := by
  refine PS.by (ps_try2 (tb := fun W => tAsg (rE X.K cl W m) (gName it)) (t1 := tTell X.K ms1 i1 it) (t2 := tTell X.K ms2 i2 it) hs hf hN h1 k1 ⟨g0, d0, .inl E.g0⟩ h2 k2 ⟨g1, d1, .inl E.g1⟩
    (fun W pn xe tk hp => pss_one (ps_set (X := X.tr pn xe) hN h0 (.inl l0) (he W pn xe tk hp) hsw (.inr l0)))
    (fun a oe cls d pn hz hv => s_tell hz hv hN h0 l0 h1 l1 hg hm hg2 hm2 dn1 cn1 k1 hp1)
    (fun a oe cls d pn hz hv => s_tell hz hv hN h0 l0 h2 l2 hg hm hg2 hm2 dn2 cn2 k2 hp2)) fun D σ H h => ?_
  obtain ⟨F, as, ρ, T, rl, sr, po⟩ := h
  refine ⟨F, as, ρ, T, rl, sr, ?_⟩
  unfold sTry2 at po
  cases q : m ρ T with
  | ok d T' =>
    rw [q] at po
    exact fun F' as' H' g rl' v vr => po F' as' H' g rl' _ ((sr.mono g).set it vr)
  | er c T' =>
    rw [q] at po
    intro F' as' H' g rl'
    simp only at po
    by_cases hb : (decide (i1 < ρ.length) && decide (i2 < ρ.length)) = false
    · simp only [hb, if_true] at po
      exact po.elim
    · rw [if_neg hb] at po
      have hb2 := (Bool.and_eq_true _ _).mp (by simpa using hb : (decide (i1 < ρ.length) && decide (i2 < ρ.length)) = true)
      have l1' : i1 < σ.length := by rw [sr.1]; exact of_decide_eq_true hb2.1
      have l2' : i2 < σ.length := by rw [sr.1]; exact of_decide_eq_true hb2.2
      have po := Po.grow g po
      by_cases h0 : c = 0
      · subst h0
        rw [if_pos rfl] at po
        refine .inl ⟨by rw [E.c0]; exact E.m00, fun a _ => ?_⟩
        rw [E.c0]
        exact tell_ok E.e0 E.v0 rl' (sr.mono g) l1' po
      · rw [if_neg h0] at po
        by_cases h1 : c = 1
        · subst h1
          rw [if_pos rfl] at po
          refine .inr ⟨by rw [E.c1]; exact E.m10, by rw [E.c1]; exact E.m11, fun a _ => ?_⟩
          rw [E.c1]
          exact tell_ok E.e1 E.v1 rl' (sr.mono g) l2' po
        · rw [if_neg h1] at po
          exact po.elim
  | bad => rw [q] at po; exact po.elim
end
end Hr
set_option Elab.async false
set_option linter.all false
set_option maxRecDepth 100000
set_option maxHeartbeats 4000000
namespace Hr
open PySem PySem.Spec PyProof.Rows L2
/-! ### calls by keywords alone -/
def pick {α : Type} (perm : List Nat) (l : List α) : List α := perm.filterMap fun i => l[i]?
theorem pick_rel {α β : Type} {R : α → β → Prop} {l : List α} {l' : List β} (h : Paired R l l') : ∀ perm : List Nat, Paired R (pick perm l) (pick perm l')
  | [] => .nil
  | i :: r => by
    have ih := pick_rel h r
    unfold pick at ih ⊢
    rw [List.filterMap_cons, List.filterMap_cons]
    have get : ∀ {l : List α} {l' : List β} (i : Nat), Paired R l l' → (l[i]? = none ∧ l'[i]? = none) ∨ ∃ a b, l[i]? = some a ∧ l'[i]? = some b ∧ R a b := fun {l l'} i h => by
      induction h generalizing i with
      | nil => exact .inl ⟨by simp, by simp⟩
      | @cons a b l l' q t ih =>
        cases i with
        | zero => exact .inr ⟨a, b, by simp, by simp, q⟩
        | succ i => simpa using ih i
    rcases get i h with ⟨e1, e2⟩ | ⟨a, b, e1, e2, q⟩
    · simp only [e1, e2]
      exact ih
    · simp only [e1, e2]
      exact .cons q ih
structure CalK (P : Program) (w : World) (K : PySem.W.Frag) (mg : Str → Option Value) (base : Heap) (cl : Cl) (x : Str) (ps ks : List Str) (perm : List Nat) (lv : Nat) (f : List Vd → Tab → Re Vd) : Prop where
  ex : ∃ a fd, mg x = some (.ref a) ∧ PySem.W.keepIn K (.ref a) = true ∧ (∀ (s : Shared) (ws : List Value), ws.length = ks.length → BindsTo s fd ⟨[], ks.zip ws⟩ (ps.zip (pick perm ws))) ∧ FnOk P w K mg base (L2.CX P w) lv a fd ps (spOf K cl ps.length f)
theorem FunD.bindsK {K : PySem.W.Frag} {x qual : Str} {params : Arguments} {body : List Stmt} {scope : Scope} {f : Addr} {fd : FuncData} {ps ks : List Str} {perm : List Nat} (F : FunD K x qual params body scope [] [] f fd)
    (h : ∀ (kV doc pm : Value) (an : Option Addr) (cdv ct : Value) (ws : List Value), ws.length = ks.length → bindArgs (PySem.W.fnOf x qual params body scope .none kV doc pm an cdv ct) ⟨[], ks.zip ws⟩ = pure (ps.zip (pick perm ws)))
    (s : Shared) (ws : List Value) (hl : ws.length = ks.length) : BindsTo s fd ⟨[], ks.zip ws⟩ (ps.zip (pick perm ws)) := by
  obtain ⟨oc, od, dV, kV, doc, pm, an, cdv, ct, osl, rfl, lk, hcd, hD, hK⟩ := F.ex
  rcases hD with ⟨_, rfl⟩ | ⟨e, _⟩
  · exact .of_eq (h kV doc pm an cdv ct ws hl)
  · exact absurd rfl e
theorem Cal.key {P : Program} {w : World} {K : PySem.W.Frag} {mg : Str → Option Value} {base : Heap} {cl : Cl} {x : Str} {params : Arguments} {body : List Stmt} {scope : Scope} {ps ks : List Str} {perm : List Nat} {lv : Nat} {f : List Vd → Tab → Re Vd}
    {a : Addr} {fd : FuncData} (F : FunD K x x params body scope [] [] a fd) (hm : mg x = some (.ref a)) (G : FnOk P w K mg base (L2.CX P w) lv a fd ps (spOf K cl ps.length f))
    (h : ∀ (kV doc pm : Value) (an : Option Addr) (cdv ct : Value) (ws : List Value), ws.length = ks.length → bindArgs (PySem.W.fnOf x x params body scope .none kV doc pm an cdv ct) ⟨[], ks.zip ws⟩ = pure (ps.zip (pick perm ws))) :
    CalK P w K mg base cl x ps ks perm lv f := ⟨a, fd, hm, F.kp, FunD.bindsK F h, G⟩
def fCallK (n : Nat) (perm : List Nat) (f : List Vd → Tab → Re Vd) : List Vd → Tab → Re Vd := fun ds T => if ds.length = n ∧ (pick perm ds).length = n then f (pick perm ds) T else .bad
section
variable {X : Cx} {cl : Cl} {W : WX} {pos p : Pos} {kws : List Keyword} {ms : MA} {m : ME} {e : Expr} {x : Str} {ps ks : List Str} {perm : List Nat} {lv : Nat} {f : List Vd → Tab → Re Vd} {nm : Option Str} {kpos : Pos}
theorem k_nil : PK X [] (rA X.K cl W mNil) := by
  refine ⟨fun pos pins s σ H Q I h => pk_nil.run pos pins s σ H Q I ?_⟩
  obtain ⟨F, as, ρ, T, rl, sr, po⟩ := h
  exact po F as H Gr.refl rl [] .nil
theorem k_cons (ha : PE X e (rE X.K cl W m)) (hr : PK X kws (rA X.K cl W ms)) : PK X (⟨nm, e, kpos⟩ :: kws) (rA X.K cl W (mCons m ms)) := by
  refine ⟨fun pos pins s σ H Q I h => (pk_cons ha hr).run pos pins s σ H Q I ?_⟩
  obtain ⟨F, as, ρ, T, rl, sr, po⟩ := h
  refine ⟨F, as, ρ, T, rl, sr, Po.seq po (fun d T1 F1 as1 H1 g1 rl1 po1 v vr => ?_) fun c H' h => h⟩
  refine ⟨F1, as1, ρ, T1, rl1, sr.mono g1, Po.seq po1 (fun e T2 F2 as2 H2 g2 rl2 po2 vs vrs => ?_) fun c H' h => h⟩
  exact po2 F2 as2 H2 Gr.refl rl2 _ (.cons (VR.mono g2 vr) vrs)
theorem v_callK0 {n : Nat} (C : CalK X.prog X.w X.K X.mg X.base cl x ps ks perm lv f) (hr : Room lv X.A) (tk : Takes X W) (hkw : PK X kws (rA X.K cl W ms)) (hn : ps.length = ks.length := by rfl) (hn2 : ps.length = n := by rfl) (hg : Gl X x := by rfl)
    (hall : (backToKw pos (keywordEach kws X.env)).all (·.1.isSome) = true := by rfl) (hks : (backToKw pos (keywordEach kws X.env)).filterMap (·.1) = ks := by rfl)
    (hpl : ((backTo pos (starEach [] X.env)).any (·.1) || (backToKw pos (keywordEach kws X.env)).any (·.1.isNone)) = false := by rfl) (hdb : (x == ("__debug__" : Str)) = false := by decide) :
    PE X (.Call (.Name x p) [] kws pos) (rE X.K cl W (mN (fCallK n perm f) ms)) := by
  subst hn2
  obtain ⟨a, fd, hm, hk, hb, G⟩ := C.ex
  refine ⟨fun pins s σ H Q I h => ?_⟩
  refine wpAny_Call_Name_kw (ld_glob I hg hm ?_ hdb)
  obtain ⟨F, as, ρ, T, rl, sr, po⟩ := h
  have h2 : rA X.K cl W ms σ H (fun zs H2 => zs.length = ps.length ∧ spOf X.K cl ps.length f (pick perm zs) H2 Q (WE W σ)) := by
    refine ⟨F, as, ρ, T, rl, sr, Po.seq po (fun ds T1 F1 as1 H1 g1 rl1 po1 vs vr => ?_) fun c H' h => h⟩
    unfold fCallK at po1
    split at po1
    · rename_i hl
      have vr2 : VRs X.K F1 as1 (pick perm vs) (pick perm ds) := pick_rel vr perm
      exact ⟨by rw [vr.len, hl.1], by rw [vr2.len, hl.2], F1, as1, T1, _, rl1, vr2, po1⟩
    · exact po1.elim
  refine PySem.W.callWith_KW0 (h₀ := X.base) I.ok.mod.kin hk hall (thn (hkw.run pos pins s σ H _ I h2) fun ws s2 ⟨zs, H2, I2, rz, hl, q2⟩ => ⟨I2.kIn, ?_⟩) hpl
  rw [hks]
  have hlw : ws.length = ks.length := by rw [← rz.length, hl, hn]
  refine wpAny_call (codeAny_mono (G.run X.A X.stack s2 H2 ⟨[], ks.zip ws⟩ (pick perm ws) (pick perm zs) Q (WE W σ) hr I2.env0 (hb s2 ws hlw) (pick_rel rz perm) q2) fun r s' hq => ?_)
  cases r with
  | error e => exact passAt tk σ pins H2 s2 e s' I2 hq
  | ok fl =>
    cases fl with
    | ret u => exact I2.after hq
    | next => exact False.elim hq
    | brk => exact False.elim hq
    | cont => exact False.elim hq
/-! a call without arguments that touches nothing of the caller's -/
def mCallX (f : List Vd → Tab → Re Vd) : ME := fun _ T => match f [] [] with
  | .ok (.dat d) _ => .ok (.dat d) (T.map fun _ => none)
  | _ => .bad
theorem v_callX (C : Cal X.prog X.w X.K X.mg X.base cl x [] lv f) (hr : Room lv X.A) (hg : Gl X x := by rfl) (hdb : (x == ("__debug__" : Str)) = false := by decide) : PE X (.Call (.Name x p) [] [] pos) (rE X.K cl W (mCallX f)) := by
  obtain ⟨a, fd, hm, hk, hb, G⟩ := C.ex
  refine PE.by (pe_call0 G hr hg hm hk hb .nil passL hdb) fun σ H Q h => ?_
  obtain ⟨F, as, ρ, T, rl, sr, po⟩ := h
  have rl0 : Rl X.K H [] H [] := ⟨Ext.refl H, rfl, .nil, fun k a e => by simp at e, fun k a xs e => by simp at e⟩
  refine ⟨rfl, H, [], [], [], rl0, .nil, ?_⟩
  unfold mCallX at po
  cases q : f [] [] with
  | er c T' => rw [q] at po; exact po.elim
  | bad => rw [q] at po; exact po.elim
  | ok d T' =>
    rw [q] at po
    cases d with
    | own k => exact po.elim
    | scr ns => exact po.elim
    | dat d =>
      intro F' as' H' g rl' v vr
      refine po F' as H' ⟨rl.ex.trans g.ex, fun _ _ e => e⟩ ⟨rl'.ex, by rw [rl.len, List.length_map], rl.nd, fun k a e => ?_, fun k a xs e t => ?_⟩ v vr
      · obtain ⟨o, ho⟩ := rl.there k a e
        exact ⟨o, rl'.ex a o (g.ex a o ho)⟩
      · rw [List.getElem?_map] at t
        cases hq : T[k]? with
        | none => rw [hq] at t; cases t
        | some u => rw [hq] at t; cases t
end
end Hr
set_option Elab.async false
set_option linter.all false
set_option maxRecDepth 100000
set_option maxHeartbeats 4000000
namespace Hr
open PySem PySem.Spec PyProof.Rows L2
def N_is_number : List Str := ["thing"]
def m_is_number : MS := sRet (mAnd (m1 (fIs "int") (mVar 0)) (mNot (m1 (fIs "bool") (mVar 0))))
def f_is_number : List Vd → Tab → Re Vd := fCut (mFn 1 m_is_number)
def N_is_from : List Str := ["thing", "least"]
def m_is_from : MS := sRet (mAnd (mN (fCall 1 f_is_number) (mCons (mVar 0) (mNil))) (m2 fGe (mVar 0) (mVar 1)))
def f_is_from : List Vd → Tab → Re Vd := fCut (mFn 2 m_is_from)
def N_is_within : List Str := ["thing", "least", "most"]
def m_is_within : MS := sRet (mAnd (mN (fCall 1 f_is_number) (mCons (mVar 0) (mNil))) (mChain fLe fLe (mVar 1) (mVar 0) (mVar 2)))
def f_is_within : List Vd → Tab → Re Vd := fCut (mFn 3 m_is_within)
def N_is_long : List Str := ["thing", "length"]
def m_is_long : MS := sRet (mAnd (m1 (fIs "tuple") (mVar 0)) (m2 (fEq false) (mN fLen (mCons (mVar 0) (mNil))) (mVar 1)))
def f_is_long : List Vd → Tab → Re Vd := fCut (mFn 2 m_is_long)
def N_tupled : List Str := ["value", "own"]
def m_tupled (rec : List Vd → Tab → Re Vd) : MS := sRet (mIf (m1 (fIs2 "list" "tuple") (mVar 0)) (mN fTupleOf (mCons (mLc1 (mSeq (mVar 0)) 1 (mC (.bool true)) (mN (fCall 1 rec) (mCons (mVar 1) (mNil)))) (mNil))) (mVar 0))
def f_tupled : Nat → List Vd → Tab → Re Vd
  | 0 => fun _ _ => .bad
  | n + 1 => fCut (mFn 2 (m_tupled (f_tupled n)))
def N_is_word : List Str := ["thing", "sign"]
def m_is_word : MS := sRet (mAnd (m1 (fIs "str") (mVar 0)) (mAnd (mChain fLe fLe (mC (.int 1)) (mN fLen (mCons (mVar 0) (mNil))) (mC (.int 12))) (mN fAll (mCons (mLc1 (mStr (mVar 0)) 1 (mC (.bool true)) (m2 fSign (mVar 1) (mC (.str "abcdefghijklmnopqrstuvwxyz0123456789")))) (mNil)))))
def f_is_word : List Vd → Tab → Re Vd := fCut (mFn 2 m_is_word)
def N_is_key : List Str := ["thing"]
def m_is_key : MS := sRet (mOr (mN (fCall 1 f_is_word) (mCons (mVar 0) (mNil))) (mAnd (m1 (fIs "str") (mVar 0)) (mAnd (m2 (fEq false) (mSl (mVar 0) none (some (mC (.int 1)))) (mC (.str "@"))) (mN (fCall 1 f_is_word) (mCons (mSl (mVar 0) (some (mC (.int 1))) none) (mNil))))))
def f_is_key : List Vd → Tab → Re Vd := fCut (mFn 1 m_is_key)
def N_is_single : List Str := ["thing"]
def m_is_single : MS := sSeq (sIf (mOr (mNot (m1 (fIs "tuple") (mVar 0))) (mOr (m2 fLt (mN fLen (mCons (mVar 0) (mNil))) (mC (.int 2))) (mOr (mNot (m1 (fIs "str") (m2 fIx (mVar 0) (mC (.int 0))))) (mNot (mN (fCall 1 f_is_key) (mCons (m2 fIx (mVar 0) (mC (.int 1))) (mNil))))))) (sRet (mC (.bool false))) (sSkip)) (sRet (mOr (mAnd (m2 (fEq false) (m2 fIx (mVar 0) (mC (.int 0))) (mC (.str "drop"))) (m2 (fEq false) (mN fLen (mCons (mVar 0) (mNil))) (mC (.int 2)))) (mAnd (m2 (fEq false) (m2 fIx (mVar 0) (mC (.int 0))) (mC (.str "put"))) (mAnd (m2 (fEq false) (mN fLen (mCons (mVar 0) (mNil))) (mC (.int 3))) (mN (fCall 1 f_is_word) (mCons (m2 fIx (mVar 0) (mC (.int 2))) (mNil)))))))
def f_is_single : List Vd → Tab → Re Vd := fCut (mFn 1 m_is_single)
def N_is_record : List Str := ["thing"]
def m_is_record : MS := sSeq (sIf (mOr (mNot (m1 (fIs "tuple") (mVar 0))) (mOr (m2 (fEq false) (mN fLen (mCons (mVar 0) (mNil))) (mC (.int 0))) (mNot (m1 (fIs "str") (m2 fIx (mVar 0) (mC (.int 0))))))) (sRet (mC (.bool false))) (sSkip)) (sSeq (sIf (m2 (fEq false) (m2 fIx (mVar 0) (mC (.int 0))) (mC (.str "blank"))) (sRet (m2 (fEq false) (mN fLen (mCons (mVar 0) (mNil))) (mC (.int 1)))) (sSkip)) (sRet (mAnd (m2 fGt (mN fLen (mCons (mVar 0) (mNil))) (mC (.int 2))) (mAnd (mN (fCall 1 f_is_single) (mCons (mSl (mVar 0) none (some (m1 fNeg (mC (.int 2))))) (mNil))) (mAnd (mN (fCall 2 f_is_from) (mCons (m2 fIx (mVar 0) (m1 fNeg (mC (.int 2)))) (mCons (mC (.int 0)) (mNil)))) (mN (fCall 2 f_is_from) (mCons (m2 fIx (mVar 0) (m1 fNeg (mC (.int 1)))) (mCons (mC (.int 0)) (mNil)))))))))
def f_is_record : List Vd → Tab → Re Vd := fCut (mFn 1 m_is_record)
def N_is_shape : List Str := ["thing"]
def m_is_shape : MS := sSeq (sIf (mOr (mNot (mN (fCall 2 f_is_long) (mCons (mVar 0) (mCons (mC (.int 3)) (mNil))))) (mOr (mNot (mN (fCall 2 f_is_from) (mCons (m2 fIx (mVar 0) (mC (.int 0))) (mCons (mC (.int 2)) (mNil))))) (mNot (mN (fCall 3 f_is_within) (mCons (m2 fIx (mVar 0) (mC (.int 1))) (mCons (mC (.int 1)) (mCons (m2 fSub (m2 fIx (mVar 0) (mC (.int 0))) (mC (.int 1))) (mNil)))))))) (sRet (mC (.bool false))) (sSkip)) (sRet (mN (fCall 2 f_is_from) (mCons (m2 fIx (mVar 0) (mC (.int 2))) (mCons (mC (.int 1)) (mNil)))))
def f_is_shape : List Vd → Tab → Re Vd := fCut (mFn 1 m_is_shape)
def N_sure_shape : List Str := ["shape", "own"]
def m_sure_shape : MS := sSeq (sAsg (mN (fCall 1 (f_tupled 8)) (mCons (mVar 0) (mNil))) (gNm 1)) (sSeq (sIf (mNot (mN (fCall 1 f_is_shape) (mCons (mVar 1) (mNil)))) (sRaise 1) (sSkip)) (sRet (mVar 1)))
def f_sure_shape : List Vd → Tab → Re Vd := fCut (mFn 2 m_sure_shape)
def N_mark_in : List Str := ["shape", "number"]
def m_mark_in : MS := sRet (m2 fMod (m2 fDiv (mVar 1) (m2 fIx (mVar 0) (mC (.int 0)))) (m2 fIx (mVar 0) (mC (.int 2))))
def f_mark_in : List Vd → Tab → Re Vd := fCut (mFn 2 m_mark_in)
def N_is_told_cell : List Str := ["thing"]
def m_is_told_cell : MS := sRet (mOr (m2 (fEq false) (mVar 0) (mC (.tuple [.str "torn"]))) (mAnd (mN (fCall 2 f_is_long) (mCons (mVar 0) (mCons (mC (.int 2)) (mNil)))) (mAnd (mN (fCall 2 f_is_from) (mCons (m2 fIx (mVar 0) (mC (.int 0))) (mCons (mC (.int 0)) (mNil)))) (mN (fCall 1 f_is_record) (mCons (m2 fIx (mVar 0) (mC (.int 1))) (mNil))))))
def f_is_told_cell : List Vd → Tab → Re Vd := fCut (mFn 1 m_is_told_cell)
def N_is_cell_in : List Str := ["shape", "thing"]
def m_is_cell_in : MS := sRet (mAnd (mN (fCall 1 f_is_told_cell) (mCons (mVar 1) (mNil))) (mOr (m2 (fEq false) (mVar 1) (mC (.tuple [.str "torn"]))) (m2 fLt (m2 fIx (mVar 1) (mC (.int 0))) (m2 fIx (mVar 0) (mC (.int 2))))))
def f_is_cell_in : List Vd → Tab → Re Vd := fCut (mFn 2 m_is_cell_in)
def N_is_picture_in : List Str := ["shape", "thing", "own"]
def m_is_picture_in : MS := sRet (mAnd (mN (fCall 2 f_is_long) (mCons (mVar 1) (mCons (m2 fIx (mVar 0) (mC (.int 0))) (mNil)))) (mN fAll (mCons (mLc1 (mSeq (mVar 1)) 2 (mC (.bool true)) (mN (fCall 2 f_is_cell_in) (mCons (mVar 0) (mCons (mVar 2) (mNil))))) (mNil))))
def f_is_picture_in : List Vd → Tab → Re Vd := fCut (mFn 3 m_is_picture_in)
def N_sure_picture : List Str := ["shape", "picture", "own"]
def m_sure_picture : MS := sSeq (sAsg (mN (fCall 1 (f_tupled 8)) (mCons (mVar 1) (mNil))) (gNm 2)) (sSeq (sIf (mNot (mN (fCall 2 f_is_picture_in) (mCons (mVar 0) (mCons (mVar 2) (mNil))))) (sRaise 1) (sSkip)) (sRet (mVar 2)))
def f_sure_picture : List Vd → Tab → Re Vd := fCut (mFn 3 m_sure_picture)
def N_are_fates : List Str := ["many", "thing", "own"]
def m_are_fates : MS := sSeq (sIf (mNot (mN (fCall 2 f_is_long) (mCons (mVar 1) (mCons (mVar 0) (mNil))))) (sRet (mC (.bool false))) (sSkip)) (sRet (mN fAll (mCons (mLc1 (mSeq (mVar 1)) 2 (mC (.bool true)) (mAnd (m1 (fIs "str") (mVar 2)) (m2 (fIn false) (mVar 2) (mN fTup (mCons (mC (.str "old")) (mCons (mC (.str "new")) (mCons (m2 fIx (mC (.tuple [.str "torn"])) (mC (.int 0))) (mNil)))))))) (mNil))))
def f_are_fates : List Vd → Tab → Re Vd := fCut (mFn 3 m_are_fates)
def N_fallen : List Str := ["picture", "writes", "fates", "found", "cell", "content", "fate"]
def m_fallen : MS := sSeq (sAsg (mN fListOfO (mCons (mVar 0) (mNil))) (gNm 3)) (sSeq (sFor (mZip (mCons (mVar 1) (mCons (mVar 2) (mNil)))) (gTp 2 (gCs (gTp 2 (gCs (gNm 4) (gCs (gNm 5) (gNl)))) (gCs (gNm 6) (gNl)))) (sIf (m2 (fEq true) (mVar 6) (mC (.str "old"))) (sAsg (mIf (m2 (fEq false) (mVar 6) (mC (.str "new"))) (mVar 5) (mC (.tuple [.str "torn"]))) (gSb (mVar 3) (mVar 4))) (sSkip))) (sRet (mN fTupleOf (mCons (mVar 3) (mNil)))))
def f_fallen : List Vd → Tab → Re Vd := fCut (mFn 7 m_fallen)
def N_shows_in : List Str := ["shape", "picture", "number", "cell"]
def m_shows_in : MS := sSeq (sAsg (m2 fIx (mVar 1) (m2 fMod (mVar 2) (m2 fIx (mVar 0) (mC (.int 0))))) (gNm 3)) (sRet (mAnd (m2 (fEq true) (mVar 3) (mC (.tuple [.str "torn"]))) (m2 (fEq false) (m2 fIx (mVar 3) (mC (.int 0))) (mN (fCall 2 f_mark_in) (mCons (mVar 0) (mCons (mVar 2) (mNil)))))))
def f_shows_in : List Vd → Tab → Re Vd := fCut (mFn 4 m_shows_in)
def N_run_in : List Str := ["shape", "picture", "place", "found"]
def m_run_in : MS := sSeq (sAsg (mC (.int 0)) (gNm 3)) (sSeq (sWhile (mAnd (m2 fLt (mVar 3) (m2 fIx (mVar 0) (mC (.int 0)))) (mN (fCall 3 f_shows_in) (mCons (mVar 0) (mCons (mVar 1) (mCons (m2 fSub (m2 fSub (mVar 2) (mVar 3)) (mC (.int 1))) (mNil)))))) (sAsg (m2 fAdd (mVar 3) (mC (.int 1))) (gNm 3))) (sRet (mVar 3)))
def f_run_in : List Vd → Tab → Re Vd := fCut (mFn 4 m_run_in)
def N_places_in : List Str := ["shape", "picture", "found", "run", "place"]
def m_places_in : MS := sSeq (sPar 2 3 (mCons (mN fLstO (mNil)) (mCons (mN (fCall 3 f_run_in) (mCons (mVar 0) (mCons (mVar 1) (mCons (mC (.int 0)) (mNil))))) (mNil)))) (sSeq (sFor (mRng1 (mCons (m2 fMul (m2 fIx (mVar 0) (mC (.int 0))) (m2 fIx (mVar 0) (mC (.int 2)))) (mNil))) (gNm 4) (sSeq (sIf (m2 fGe (mVar 3) (m2 fSub (m2 fIx (mVar 0) (mC (.int 0))) (m2 fIx (mVar 0) (mC (.int 1))))) (sApp (mVar 2) (mVar 4)) (sSkip)) (sAsg (mIf (mN (fCall 3 f_shows_in) (mCons (mVar 0) (mCons (mVar 1) (mCons (mVar 4) (mNil))))) (m2 fAdd (mVar 3) (mC (.int 1))) (mC (.int 0))) (gNm 3)))) (sRet (mVar 2)))
def f_places_in : List Vd → Tab → Re Vd := fFrz (mFn 5 m_places_in)
def N_gaps_in : List Str := ["shape", "picture", "places", "later", "place", "far"]
def m_gaps_in : MS := sSeq (sAsg (mN (fCall 2 f_places_in) (mCons (mVar 0) (mCons (mVar 1) (mNil)))) (gNm 2)) (sSeq (sAsg (m2 (fCatL fCat) (mSl (mVar 2) (some (mC (.int 1))) none) (mLc1 (mSeq (mSl (mVar 2) none (some (mC (.int 1))))) 4 (mC (.bool true)) (m2 fAdd (mVar 4) (m2 fMul (m2 fIx (mVar 0) (mC (.int 0))) (m2 fIx (mVar 0) (mC (.int 2))))))) (gNm 3)) (sRet (mLc2 (mZip (mCons (mVar 2) (mCons (mVar 3) (mNil)))) 4 5 (mC (.bool true)) (mN fTup (mCons (mVar 4) (mCons (m2 fSub (mVar 5) (mVar 4)) (mNil)))))))
def f_gaps_in : List Vd → Tab → Re Vd := fCut (mFn 6 m_gaps_in)
def N_far_in : List Str := ["shape", "picture", "place", "steps"]
def m_far_in : MS := sRet (mLc2 (mSeq (mN (fCall 2 f_gaps_in) (mCons (mVar 0) (mCons (mVar 1) (mNil))))) 2 3 (m2 fGt (mVar 3) (m2 fIx (mVar 0) (mC (.int 1)))) (mVar 2))
def f_far_in : List Vd → Tab → Re Vd := fCut (mFn 4 m_far_in)
def N_answer_in : List Str := ["shape", "picture", "found"]
def m_answer_in : MS := sSeq (sAsg (mN (fCall 2 f_far_in) (mCons (mVar 0) (mCons (mVar 1) (mNil)))) (gNm 2)) (sRet (mIf (m2 (fEq false) (mN fLen (mCons (mVar 2) (mNil))) (mC (.int 1))) (m2 fIx (mVar 2) (mC (.int 0))) (mC .none)))
def f_answer_in : List Vd → Tab → Re Vd := fCut (mFn 3 m_answer_in)
def N_writes_at : List Str := ["shape", "picture", "place", "found", "number", "cell"]
def m_writes_at : MS := sSeq (sAsg (mN fLstO (mNil)) (gNm 3)) (sSeq (sFor (mRng2 (mCons (mVar 2) (mCons (m2 fAdd (mVar 2) (m2 fIx (mVar 0) (mC (.int 1)))) (mNil)))) (gNm 4) (sSeq (sAsg (m2 fMod (mVar 4) (m2 fIx (mVar 0) (mC (.int 0)))) (gNm 5)) (sIf (mAnd (m2 (fEq true) (m2 fIx (mVar 1) (mVar 5)) (mC (.tuple [.str "torn"]))) (mNot (mN (fCall 3 f_shows_in) (mCons (mVar 0) (mCons (mVar 1) (mCons (m2 fSub (mVar 4) (m2 fIx (mVar 0) (mC (.int 0)))) (mNil))))))) (sApp (mVar 3) (mN fTup (mCons (mVar 5) (mCons (mN fTup (mCons (mN (fCall 2 f_mark_in) (mCons (mVar 0) (mCons (m2 fSub (mVar 4) (m2 fIx (mVar 0) (mC (.int 0)))) (mNil)))) (mCons (mC (.tuple [.str "blank"])) (mNil)))) (mNil))))) (sSkip)))) (sRet (mN fTupleOf (mCons (mVar 3) (mNil)))))
def f_writes_at : List Vd → Tab → Re Vd := fCut (mFn 6 m_writes_at)
def N_sure_both : List Str := ["shape", "picture", "own"]
def m_sure_both : MS := sSeq (sAsg (mN (fCall 1 f_sure_shape) (mCons (mVar 0) (mNil))) (gNm 2)) (sRet (mN fTup (mCons (mVar 2) (mCons (mN (fCall 2 f_sure_picture) (mCons (mVar 2) (mCons (mVar 1) (mNil)))) (mNil)))))
def f_sure_both : List Vd → Tab → Re Vd := fCut (mFn 3 m_sure_both)
def N_sure_answer : List Str := ["shape", "picture", "own", "told", "place"]
def m_sure_answer : MS := sSeq (sAsg (mN (fCall 2 f_sure_both) (mCons (mVar 0) (mCons (mVar 1) (mNil)))) (gTp 2 (gCs (gNm 2) (gCs (gNm 3) (gNl))))) (sSeq (sAsg (mN (fCall 2 f_answer_in) (mCons (mVar 2) (mCons (mVar 3) (mNil)))) (gNm 4)) (sSeq (sIf (m1 (fIsN false) (mVar 4)) (sRaise 0) (sSkip)) (sRet (mN fTup (mCons (mVar 2) (mCons (mVar 3) (mCons (mVar 4) (mNil))))))))
def f_sure_answer : List Vd → Tab → Re Vd := fCut (mFn 5 m_sure_answer)
def N_mend_writes : List Str := ["shape", "picture", "own", "told", "place"]
def m_mend_writes : MS := sSeq (sAsg (mN (fCall 2 f_sure_answer) (mCons (mVar 0) (mCons (mVar 1) (mNil)))) (gTp 3 (gCs (gNm 2) (gCs (gNm 3) (gCs (gNm 4) (gNl)))))) (sRet (mN (fCall 3 f_writes_at) (mCons (mVar 2) (mCons (mVar 3) (mCons (mVar 4) (mNil))))))
def f_mend_writes : List Vd → Tab → Re Vd := fCut (mFn 5 m_mend_writes)
def N_sure_words : List Str := ["fates", "own"]
def m_sure_words : MS := sSeq (sAsg (mN (fCall 1 (f_tupled 8)) (mCons (mVar 0) (mNil))) (gNm 1)) (sSeq (sIf (mOr (mNot (m1 (fIs "tuple") (mVar 1))) (mNot (mN (fCall 2 f_are_fates) (mCons (mN fLen (mCons (mVar 1) (mNil))) (mCons (mVar 1) (mNil)))))) (sRaise 1) (sSkip)) (sRet (mVar 1)))
def f_sure_words : List Vd → Tab → Re Vd := fCut (mFn 2 m_sure_words)
def N_partly_mended : List Str := ["shape", "picture", "many", "fates", "words", "own", "told", "place", "writes"]
def m_partly_mended : MS := sSeq (sDrop (mN (fCall 2 f_sure_both) (mCons (mVar 0) (mCons (mVar 1) (mNil))))) (sSeq (sAsg (mN (fCall 1 f_sure_words) (mCons (mVar 3) (mNil))) (gNm 4)) (sSeq (sAsg (mN (fCall 2 f_sure_answer) (mCons (mVar 0) (mCons (mVar 1) (mNil)))) (gTp 3 (gCs (gNm 5) (gCs (gNm 6) (gCs (gNm 7) (gNl)))))) (sSeq (sAsg (mN (fCall 3 f_writes_at) (mCons (mVar 5) (mCons (mVar 6) (mCons (mVar 7) (mNil))))) (gNm 8)) (sSeq (sIf (mOr (mNot (mN (fCall 2 f_is_from) (mCons (mVar 2) (mCons (mC (.int 0)) (mNil))))) (mOr (m2 fGt (mVar 2) (mN fLen (mCons (mVar 8) (mNil)))) (m2 (fEq true) (mN fLen (mCons (mVar 4) (mNil))) (mVar 2)))) (sRaise 1) (sSkip)) (sRet (mN (fCall 3 f_fallen) (mCons (mVar 6) (mCons (mSl (mVar 8) none (some (mVar 2))) (mCons (mVar 4) (mNil))))))))))
def f_partly_mended : List Vd → Tab → Re Vd := fCut (mFn 9 m_partly_mended)
def N_mended_in : List Str := ["shape", "picture", "place", "writes"]
def m_mended_in : MS := sSeq (sAsg (mN (fCall 3 f_writes_at) (mCons (mVar 0) (mCons (mVar 1) (mCons (mVar 2) (mNil))))) (gNm 3)) (sRet (mN (fCall 3 f_fallen) (mCons (mVar 1) (mCons (mVar 3) (mCons (m2 fRepT (mN fTup (mCons (mC (.str "new")) (mNil))) (mN fLen (mCons (mVar 3) (mNil)))) (mNil))))))
def f_mended_in : List Vd → Tab → Re Vd := fCut (mFn 4 m_mended_in)
def N_mended : List Str := ["shape", "picture", "own", "told", "place"]
def m_mended : MS := sSeq (sAsg (mN (fCall 2 f_sure_answer) (mCons (mVar 0) (mCons (mVar 1) (mNil)))) (gTp 3 (gCs (gNm 2) (gCs (gNm 3) (gCs (gNm 4) (gNl)))))) (sRet (mN (fCall 3 f_mended_in) (mCons (mVar 2) (mCons (mVar 3) (mCons (mVar 4) (mNil))))))
def f_mended : List Vd → Tab → Re Vd := fCut (mFn 5 m_mended)
def N_law_box : List Str := ["_law_script", "_law_k", "_law_bit_so"]
def m_law_box : MS := sSeq (sAsg (mIf (m2 fLt (mVar 1) (mN fLen (mCons (mVar 0) (mNil)))) (m2 fIx (mVar 0) (mVar 1)) (mC (.int 0))) (gNm 2)) (sRet (mN fLstO (mCons (m2 fMul (mN fAbs (mCons (mVar 2) (mNil))) (mN fInt (mCons (m2 fGe (mN fAbs (mCons (mVar 2) (mNil))) (m2 fPow (mC (.int 10)) (mC (.int 18)))) (mNil)))) (mCons (m2 fAdd (m2 fAdd (m2 fMod (mN fInt (mCons (mVar 2) (mNil))) (mC (.int 2305843009213693951))) (m2 fMul (mC (.int 39373)) (mVar 1))) (mC (.int 3182025))) (mCons (mC (.int 0)) (mNil))))))
def f_law_box : List Vd → Tab → Re Vd := (mFn 3 m_law_box)
def N_law_take : List Str := ["_law_tin", "_law_below_so", "_law_drawn", "_law_once_so", "_law_wide_so", "_law_twice_so"]
def m_law_take : MS := sSeq (sIf (m2 fGt (m2 fIx (mVar 0) (mC (.int 0))) (mC (.int 0))) (sSeq (sAsg (m2 fMod (mN fInt (mCons (m2 fIx (mVar 0) (mC (.int 0))) (mNil))) (mVar 1)) (gNm 2)) (sSeq (sAsg (m2 fDiv (m2 fIx (mVar 0) (mC (.int 0))) (mVar 1)) (gSb (mVar 0) (mC (.int 0)))) (sRet (mVar 2)))) (sSkip)) (sSeq (sAsg (m2 fAdd (m2 fIx (mVar 0) (mC (.int 2))) (mC (.int 1))) (gSb (mVar 0) (mC (.int 2)))) (sSeq (sAsg (m2 fMod (mN fInt (mCons (m2 fMul (m2 fAdd (m2 fIx (mVar 0) (mC (.int 1))) (m2 fMul (mC (.int 48271)) (m2 fIx (mVar 0) (mC (.int 2))))) (m2 fAdd (mC (.int 39373)) (m2 fIx (mVar 0) (mC (.int 2))))) (mNil))) (mC (.int 2147483647))) (gNm 3)) (sSeq (sAsg (m2 fAdd (m2 fMod (mN fInt (mCons (mVar 3) (mNil))) (mC (.int 40009))) (mC (.int 7))) (gNm 4)) (sSeq (sAsg (m2 fMod (mN fInt (mCons (m2 fMul (m2 fAdd (m2 fAdd (mVar 3) (m2 fIx (mVar 0) (mC (.int 2)))) (m2 fDiv (m2 fIx (mVar 0) (mC (.int 1))) (mC (.int 1000003)))) (mVar 4)) (mNil))) (mC (.int 2147483629))) (gNm 5)) (sRet (m2 fMod (mN fInt (mCons (m2 fDiv (m2 fMod (mN fInt (mCons (m2 fAdd (m2 fMul (mVar 5) (mC (.int 48271))) (mVar 3)) (mNil))) (mC (.int 2147483587))) (mC (.int 64))) (mNil))) (mVar 1)))))))
def f_law_take : List Vd → Tab → Re Vd := fCut (mFn 6 m_law_take)
def N_law_cells : List Str := ["_law_script", "_law_most_so", "_law_cells_so", "_law_k", "_law_bit_so", "_law_at_so"]
def m_law_cells : MS := sSeq (sAsg (mOrL (mN fListOfO (mCons (mSl (mVar 0) none (some (mVar 1))) (mNil))) (mN fLstO (mCons (mC (.int 0)) (mNil)))) (gNm 2)) (sSeq (sFor (mEnum (mCons (mSl (mVar 0) (some (mVar 1)) (some (mC (.int 63)))) (mNil))) (gTp 2 (gCs (gNm 3) (gCs (gNm 4) (gNl)))) (sSeq (sAsg (m2 fMod (mN fInt (mCons (mVar 3) (mNil))) (mVar 1)) (gNm 5)) (sAsg (m2 fAdd (m2 fIx (mVar 2) (mVar 5)) (m2 fMul (mVar 4) (m2 fAdd (mVar 3) (mC (.int 2))))) (gSb (mVar 2) (mVar 5))))) (sRet (mVar 2)))
def f_law_cells : List Vd → Tab → Re Vd := fFrz (mFn 6 m_law_cells)
def N_law_of : List Str := ["_law_tin", "_law_goods_so"]
def m_law_of : MS := sRet (m2 fIx (mVar 1) (mN (fCall 2 f_law_take) (mCons (mVar 0) (mCons (mN fLen (mCons (mVar 1) (mNil))) (mNil)))))
def f_law_of : List Vd → Tab → Re Vd := fCut (mFn 2 m_law_of)
def N_law_lists : List Str := ["_law_matter", "_law_bit"]
def m_law_lists (rec : List Vd → Tab → Re Vd) : MS := sRet (mIf (m1 (fIs2 "list" "tuple") (mVar 0)) (mLc1 (mSeq (mVar 0)) 1 (mC (.bool true)) (mN (fCall 1 rec) (mCons (mVar 1) (mNil)))) (mVar 0))
def f_law_lists : Nat → List Vd → Tab → Re Vd
  | 0 => fun _ _ => .bad
  | n + 1 => fCut (mFn 2 (m_law_lists (f_law_lists n)))
def N_law_same : List Str := ["_law_got", "_law_due", "_law_mine", "_law_its"]
def m_law_same (rec : List Vd → Tab → Re Vd) : MS := sSeq (sIf (m1 (fIs2 "list" "tuple") (mVar 1)) (sSeq (sIf (mOr (m2 (fEq true) (m1 (fIs "list") (mVar 0)) (m1 (fIs "list") (mVar 1))) (m2 (fEq true) (m1 (fIs "tuple") (mVar 0)) (m1 (fIs "tuple") (mVar 1)))) (sRet (mC (.bool false))) (sSkip)) (sRet (mAnd (m2 (fEq false) (mN fLen (mCons (mVar 0) (mNil))) (mN fLen (mCons (mVar 1) (mNil)))) (mN fAll (mCons (mLc2 (mZip (mCons (mVar 0) (mCons (mVar 1) (mNil)))) 2 3 (mC (.bool true)) (mN (fCall 2 rec) (mCons (mVar 2) (mCons (mVar 3) (mNil))))) (mNil)))))) (sSkip)) (sSeq (sIf (mOr (m1 (fIsN false) (mVar 1)) (m1 (fIs2 "bool" "str") (mVar 1))) (sRet (mAnd (m2 (fEq false) (mVar 0) (mVar 1)) (mAnd (m2 (fEq false) (m1 (fIs "bool") (mVar 0)) (m1 (fIs "bool") (mVar 1))) (m2 (fEq false) (m1 (fIsN false) (mVar 0)) (m1 (fIsN false) (mVar 1)))))) (sSkip)) (sRet (mAnd (m1 (fIs "int") (mVar 0)) (mAnd (mNot (m1 (fIs "bool") (mVar 0))) (m2 (fEq false) (mVar 0) (mVar 1))))))
def f_law_same : Nat → List Vd → Tab → Re Vd
  | 0 => fun _ _ => .bad
  | n + 1 => fCut (mFn 4 (m_law_same (f_law_same n)))
def N_law_lap : List Str := ["_law_form", "_law_n"]
def m_law_lap : MS := sRet (m2 fMod (m2 fDiv (mVar 1) (m2 fIx (mVar 0) (mC (.int 0)))) (m2 fIx (mVar 0) (mC (.int 2))))
def f_law_lap : List Vd → Tab → Re Vd := fCut (mFn 2 m_law_lap)
def N_law_shows : List Str := ["_law_form", "_law_face_here", "_law_n", "_law_own"]
def m_law_shows : MS := sSeq (sAsg (m2 fIx (mVar 1) (m2 fMod (mN fInt (mCons (mVar 2) (mNil))) (m2 fIx (mVar 0) (mC (.int 0))))) (gNm 3)) (sRet (mAnd (m2 (fEq true) (mVar 3) (mN fTup (mCons (mC (.str "torn")) (mNil)))) (m2 (fEq false) (m2 fIx (mVar 3) (mC (.int 0))) (mN (fCall 2 f_law_lap) (mCons (mVar 0) (mCons (mVar 2) (mNil)))))))
def f_law_shows : List Vd → Tab → Re Vd := fCut (mFn 4 m_law_shows)
def N_law_wholes : List Str := ["_law_form", "_law_face_here", "_law_wide_so", "_law_turn_so", "_law_found", "_law_n", "_law_j"]
def m_law_wholes : MS := sSeq (sPar 2 3 (mCons (m2 fSub (m2 fIx (mVar 0) (mC (.int 0))) (m2 fIx (mVar 0) (mC (.int 1)))) (mCons (m2 fMul (m2 fIx (mVar 0) (mC (.int 0))) (m2 fIx (mVar 0) (mC (.int 2)))) (mNil)))) (sSeq (sAsg (mN fLstO (mNil)) (gNm 4)) (sSeq (sFor (mRng1 (mCons (mVar 3) (mNil))) (gNm 5) (sIf (m2 (fEq false) (mLc1 (mRng2 (mCons (mC (.int 1)) (mCons (m2 fAdd (mVar 2) (mC (.int 1))) (mNil)))) 6 (mNot (mN (fCall 3 f_law_shows) (mCons (mVar 0) (mCons (mVar 1) (mCons (m2 fSub (mVar 5) (mVar 6)) (mNil)))))) (mVar 6)) (mN fLst (mNil))) (sApp (mVar 4) (mVar 5)) (sSkip))) (sRet (mVar 4))))
def f_law_wholes : List Vd → Tab → Re Vd := fFrz (mFn 7 m_law_wholes)
def N_law_answer : List Str := ["_law_form", "_law_face_here", "_law_wholes_so", "_law_turn_so", "_law_found", "_law_k", "_law_own", "_law_later_so"]
def m_law_answer : MS := sSeq (sPar 2 3 (mCons (mN (fCall 2 f_law_wholes) (mCons (mVar 0) (mCons (mVar 1) (mNil)))) (mCons (m2 fMul (m2 fIx (mVar 0) (mC (.int 0))) (m2 fIx (mVar 0) (mC (.int 2)))) (mNil)))) (sSeq (sAsg (mN fLstO (mNil)) (gNm 4)) (sSeq (sFor (mEnum (mCons (mVar 2) (mNil))) (gTp 2 (gCs (gNm 5) (gCs (gNm 6) (gNl)))) (sSeq (sAsg (mIf (m2 fLt (m2 fAdd (mVar 5) (mC (.int 1))) (mN fLen (mCons (mVar 2) (mNil)))) (m2 fIx (mVar 2) (m2 fAdd (mVar 5) (mC (.int 1)))) (m2 fAdd (m2 fIx (mVar 2) (mC (.int 0))) (mVar 3))) (gNm 7)) (sIf (m2 fGt (m2 fSub (mVar 7) (mVar 6)) (m2 fIx (mVar 0) (mC (.int 1)))) (sApp (mVar 4) (mVar 6)) (sSkip)))) (sRet (mIf (m2 (fEq false) (mN fLen (mCons (mVar 4) (mNil))) (mC (.int 1))) (m2 fIx (mVar 4) (mC (.int 0))) (mC .none)))))
def f_law_answer : List Vd → Tab → Re Vd := fCut (mFn 8 m_law_answer)
def N_law_blank : List Str := []
def m_law_blank : MS := sRet (mN fTup (mCons (mC (.str "blank")) (mNil)))
def f_law_blank : List Vd → Tab → Re Vd := fCut (mFn 0 m_law_blank)
def N_law_face : List Str := ["_law_form"]
def m_law_face : MS := sRet (m2 fRepT (mN fTup (mCons (mN fTup (mCons (m2 fSub (m2 fIx (mVar 0) (mC (.int 2))) (mC (.int 1))) (mCons (mCall0 f_law_blank) (mNil)))) (mNil))) (m2 fIx (mVar 0) (mC (.int 0))))
def f_law_face : List Vd → Tab → Re Vd := fCut (mFn 1 m_law_face)
def N_law_fates : List Str := ["_law_tin", "_law_many_so", "_law_lap_here"]
def m_law_fates : MS := sRet (mN fTupleOf (mCons (mLc1 (mRng1 (mCons (mVar 1) (mNil))) 2 (mC (.bool true)) (mN (fCall 2 f_law_of) (mCons (mVar 0) (mCons (mN fLst (mCons (mC (.str "old")) (mCons (mC (.str "new")) (mCons (mC (.str "torn")) (mNil))))) (mNil))))) (mNil)))
def f_law_fates : List Vd → Tab → Re Vd := fCut (mFn 3 m_law_fates)
def N_law_fallen : List Str := ["_law_cells_so", "_law_flight_so", "_law_fates_so", "_law_found", "_law_own", "_law_its"]
def m_law_fallen : MS := sSeq (sAsg (mN fListOfO (mCons (mVar 0) (mNil))) (gNm 3)) (sSeq (sFor (mZip (mCons (mVar 1) (mCons (mVar 2) (mNil)))) (gTp 2 (gCs (gNm 4) (gCs (gNm 5) (gNl)))) (sIf (m2 (fEq true) (mVar 5) (mC (.str "old"))) (sAsg (mIf (m2 (fEq false) (mVar 5) (mC (.str "new"))) (m2 fIx (mVar 4) (mC (.int 1))) (mN fTup (mCons (mC (.str "torn")) (mNil)))) (gSb (mVar 3) (m2 fIx (mVar 4) (mC (.int 0))))) (sSkip))) (sRet (mVar 3)))
def f_law_fallen : List Vd → Tab → Re Vd := (mFn 6 m_law_fallen)
def N_law_mending : List Str := ["_law_form", "_law_face_here", "_law_n", "_law_found", "_law_j", "_law_k", "_law_elder_so"]
def m_law_mending : MS := sSeq (sPar 2 3 (mCons (mN (fCall 2 f_law_answer) (mCons (mVar 0) (mCons (mVar 1) (mNil)))) (mCons (mN fLstO (mNil)) (mNil)))) (sSeq (sFor (mRng1 (mCons (m2 fIx (mVar 0) (mC (.int 1))) (mNil))) (gNm 4) (sSeq (sPar 5 6 (mCons (m2 fMod (mN fInt (mCons (m2 fAdd (mVar 2) (mVar 4)) (mNil))) (m2 fIx (mVar 0) (mC (.int 0)))) (mCons (m2 fSub (m2 fAdd (mVar 2) (mVar 4)) (m2 fIx (mVar 0) (mC (.int 0)))) (mNil)))) (sIf (mAnd (m2 (fEq true) (m2 fIx (mVar 1) (mVar 5)) (mN fTup (mCons (mC (.str "torn")) (mNil)))) (mNot (mN (fCall 3 f_law_shows) (mCons (mVar 0) (mCons (mVar 1) (mCons (mVar 6) (mNil))))))) (sApp (mVar 3) (mN fTup (mCons (mVar 5) (mCons (mN fTup (mCons (mN (fCall 2 f_law_lap) (mCons (mVar 0) (mCons (mVar 6) (mNil)))) (mCons (mCall0 f_law_blank) (mNil)))) (mNil))))) (sSkip)))) (sRet (mVar 3)))
def f_law_mending : List Vd → Tab → Re Vd := fFrz (mFn 7 m_law_mending)
def N_law_is_note : List Str := ["_law_note_here", "_law_many_so", "_law_own"]
def m_law_is_note : MS := sSeq (sIf (mOr (mNot (m1 (fIs "tuple") (mVar 0))) (mOr (m2 (fEq false) (mVar 0) (mN fTup (mNil))) (m2 (fIn true) (m2 fIx (mVar 0) (mC (.int 0))) (mN fTup (mCons (mC (.str "blank")) (mCons (mC (.str "put")) (mCons (mC (.str "drop")) (mNil)))))))) (sRet (mC (.bool false))) (sSkip)) (sSeq (sAsg (m1 (fDic [("blank", 1), ("put", 5), ("drop", 4)]) (m2 fIx (mVar 0) (mC (.int 0)))) (gNm 1)) (sSeq (sIf (mOr (m2 (fEq true) (mN fLen (mCons (mVar 0) (mNil))) (mVar 1)) (m2 (fEq true) (mLc1 (mSeq (mSl (mVar 0) (some (mC (.int 1))) (some (m2 fSub (mVar 1) (mC (.int 2)))))) 2 (mNot (m1 (fIs "str") (mVar 2))) (mC (.int 1))) (mN fLst (mNil)))) (sRet (mC (.bool false))) (sSkip)) (sRet (m2 (fEq false) (mLc1 (mSeq (mSl (mVar 0) (some (mN fMax (mCons (mC (.int 1)) (mCons (m2 fSub (mVar 1) (mC (.int 2))) (mNil))))) none)) 2 (mOr (mNot (m1 (fIs "int") (mVar 2))) (m1 (fIs "bool") (mVar 2))) (mC (.int 1))) (mN fLst (mNil))))))
def f_law_is_note : List Vd → Tab → Re Vd := fCut (mFn 3 m_law_is_note)
def N_law_are_fates : List Str := ["_law_fates_so", "_law_many_so", "_law_own"]
def m_law_are_fates : MS := sSeq (sIf (mOr (mNot (m1 (fIs "tuple") (mVar 0))) (m2 (fEq true) (mN fLen (mCons (mVar 0) (mNil))) (mVar 1))) (sRet (mC (.bool false))) (sSkip)) (sRet (m2 (fEq false) (mLc1 (mSeq (mVar 0)) 2 (m2 (fIn true) (mVar 2) (mN fTup (mCons (mC (.str "old")) (mCons (mC (.str "new")) (mCons (mC (.str "torn")) (mNil)))))) (mC (.int 1))) (mN fLst (mNil))))
def f_law_are_fates : List Vd → Tab → Re Vd := fCut (mFn 3 m_law_are_fates)
def N_law_alone : List Str := ["_law_form", "_law_face_here", "_law_n", "_law_found", "_law_j"]
def m_law_alone : MS := sSeq (sPar 2 3 (mCons (mN (fCall 2 f_law_answer) (mCons (mVar 0) (mCons (mVar 1) (mNil)))) (mCons (mN fListOfO (mCons (mVar 1) (mNil))) (mNil)))) (sSeq (sFor (mRng1 (mCons (m2 fIx (mVar 0) (mC (.int 1))) (mNil))) (gNm 4) (sIf (mN (fCall 3 f_law_shows) (mCons (mVar 0) (mCons (mVar 1) (mCons (m2 fAdd (mVar 2) (mVar 4)) (mNil))))) (sAsg (mN fTup (mCons (mN (fCall 2 f_law_lap) (mCons (mVar 0) (mCons (m2 fSub (m2 fAdd (mVar 2) (mVar 4)) (m2 fIx (mVar 0) (mC (.int 0)))) (mNil)))) (mCons (mCall0 f_law_blank) (mNil)))) (gSb (mVar 3) (m2 fMod (mN fInt (mCons (m2 fAdd (mVar 2) (mVar 4)) (mNil))) (m2 fIx (mVar 0) (mC (.int 0)))))) (sSkip))) (sRet (mVar 3)))
def f_law_alone : List Vd → Tab → Re Vd := (mFn 5 m_law_alone)
def N_law_mended : List Str := ["_law_form", "_law_face_here", "_law_found", "_law_own"]
def m_law_mended : MS := sSeq (sAsg (mN fListOfO (mCons (mVar 1) (mNil))) (gNm 2)) (sSeq (sFor (mSeq (mN (fCall 2 f_law_mending) (mCons (mVar 0) (mCons (mVar 1) (mNil))))) (gNm 3) (sAsg (m2 fIx (mVar 3) (mC (.int 1))) (gSb (mVar 2) (m2 fIx (mVar 3) (mC (.int 0)))))) (sRet (mVar 2)))
def f_law_mended : List Vd → Tab → Re Vd := (mFn 4 m_law_mended)
def N_law_frame : List Str := ["_law_form"]
def m_law_frame : MS := sRet (mN fLstO (mCons (mN fListOfO (mCons (mN (fCall 1 f_law_face) (mCons (mVar 0) (mNil))) (mNil))) (mCons (mN fLstO (mNil)) (mCons (mC (.int 0)) (mCons (mC (.int 0)) (mCons (mC (.int 0)) (mCons (mC (.bool true)) (mCons (mC (.int 0)) (mNil)))))))))
def f_law_frame : List Vd → Tab → Re Vd := (mFn 1 m_law_frame)
def N_law_settle : List Str := ["_law_frame_here", "_law_own"]
def m_law_settle : MS := sSeq (sFor (mSeq (m2 fIx (mVar 0) (mC (.int 1)))) (gNm 1) (sAsg (m2 fIx (mVar 1) (mC (.int 1))) (gSb (m2 fIx (mVar 0) (mC (.int 0))) (m2 fIx (mVar 1) (mC (.int 0)))))) (sMul 2 (mCons (mN fLstO (mNil)) (mCons (m2 fIx (mVar 0) (mC (.int 2))) (mNil))) (gCs (gSb (mVar 0) (mC (.int 1))) (gCs (gSb (mVar 0) (mC (.int 3))) (gNl))))
def f_law_settle : List Vd → Tab → Re Vd := (mFn 2 m_law_settle)
def N_law_is_count : List Str := ["_law_own", "_law_most_so"]
def m_law_is_count : MS := sRet (mAnd (m1 (fIs "int") (mVar 0)) (mAnd (mNot (m1 (fIs "bool") (mVar 0))) (mChain fLe fLe (mC (.int 0)) (mVar 0) (mVar 1))))
def f_law_is_count : List Vd → Tab → Re Vd := fCut (mFn 2 m_law_is_count)
def N_law_dealt : List Str := ["_law_form", "_law_frame_here", "_law_deal", "_law_lone_so", "_law_stand_so", "_law_bad_so", "_law_writes_so", "_law_place_so", "_law_goods_so", "_law_k", "_law_own", "_law_n"]
def m_law_dealt : MS := sSeq (sIf (mOr (mNot (m1 (fIs "tuple") (mVar 2))) (mOr (m2 (fEq false) (mVar 2) (mN fTup (mNil))) (m2 (fEq true) (m2 (fIn false) (m2 fIx (mVar 2) (mC (.int 0))) (mN fTup (mCons (mC (.str "write")) (mCons (mC (.str "sync")) (mCons (mC (.str "cut")) (mNil)))))) (m2 fIx (mVar 1) (mC (.int 5)))))) (sRet (mC (.bool false))) (sSkip)) (sSeq (sIf (mAnd (m2 (fEq false) (m2 fIx (mVar 2) (mC (.int 0))) (mC (.str "write"))) (mAnd (m2 (fEq false) (mN fLen (mCons (mVar 2) (mNil))) (mC (.int 2))) (mN (fCall 1 f_law_is_note) (mCons (m2 fIx (mVar 2) (mC (.int 1))) (mNil))))) (sSeq (sIf (m2 (fEq false) (mN fLen (mCons (m2 fIx (mVar 1) (mC (.int 1))) (mNil))) (m2 fIx (mVar 0) (mC (.int 1)))) (sDrop (mN (fCall 1 f_law_settle) (mCons (mVar 1) (mNil)))) (sSkip)) (sSeq (sApp (m2 fIx (mVar 1) (mC (.int 1))) (mN fTup (mCons (m2 fMod (mN fInt (mCons (m2 fIx (mVar 1) (mC (.int 2))) (mNil))) (m2 fIx (mVar 0) (mC (.int 0)))) (mCons (mN fTup (mCons (mN (fCall 2 f_law_lap) (mCons (mVar 0) (mCons (m2 fIx (mVar 1) (mC (.int 2))) (mNil)))) (mCons (m2 fIx (mVar 2) (mC (.int 1))) (mNil)))) (mNil))))) (sSeq (sAsg (m2 fAdd (m2 fIx (mVar 1) (mC (.int 2))) (mC (.int 1))) (gSb (mVar 1) (mC (.int 2)))) (sRet (mC (.bool true)))))) (sSkip)) (sSeq (sIf (m2 (fEq false) (mVar 2) (mN fTup (mCons (mC (.str "sync")) (mNil)))) (sSeq (sDrop (mN (fCall 1 f_law_settle) (mCons (mVar 1) (mNil)))) (sRet (mC (.bool true)))) (sSkip)) (sSeq (sIf (mAnd (m2 (fEq false) (m2 fIx (mVar 2) (mC (.int 0))) (mC (.str "cut"))) (mAnd (m2 (fEq false) (mN fLen (mCons (mVar 2) (mNil))) (mC (.int 2))) (mN (fCall 2 f_law_are_fates) (mCons (m2 fIx (mVar 2) (mC (.int 1))) (mCons (mN fLen (mCons (m2 fIx (mVar 1) (mC (.int 1))) (mNil))) (mNil)))))) (sSeq (sAsg (m2 fSub (m2 fIx (mVar 1) (mC (.int 2))) (mN fLen (mCons (m2 fIx (mVar 1) (mC (.int 1))) (mNil)))) (gNm 4)) (sSeq (sMul 2 (mCons (mN (fCall 3 f_law_fallen) (mCons (m2 fIx (mVar 1) (mC (.int 0))) (mCons (m2 fIx (mVar 1) (mC (.int 1))) (mCons (m2 fIx (mVar 2) (mC (.int 1))) (mNil))))) (mCons (mN fLstO (mNil)) (mNil))) (gCs (gSb (mVar 1) (mC (.int 0))) (gCs (gSb (mVar 1) (mC (.int 1))) (gNl)))) (sSeq (sAsg (mLc2 (mEnum (mCons (m2 fIx (mVar 2) (mC (.int 1))) (mNil))) 9 10 (m2 (fEq true) (mVar 10) (mC (.str "new"))) (mVar 9)) (gNm 5)) (sSeq (sAsg (m2 fAdd (mVar 4) (m2 fIx (m2 (fCatL fCat) (mVar 5) (mN fLst (mCons (mN fLen (mCons (m2 fIx (mVar 2) (mC (.int 1))) (mNil))) (mNil)))) (mC (.int 0)))) (gSb (mVar 1) (mC (.int 6)))) (sSeq (sMul 3 (mCons (mVar 4) (mCons (m2 fIx (mVar 1) (mC (.int 2))) (mCons (mC (.bool false)) (mNil)))) (gCs (gSb (mVar 1) (mC (.int 3))) (gCs (gSb (mVar 1) (mC (.int 4))) (gCs (gSb (mVar 1) (mC (.int 5))) (gNl))))) (sRet (mC (.bool true)))))))) (sSkip)) (sSeq (sIf (mOr (m2 (fIn true) (m2 fIx (mVar 2) (mC (.int 0))) (mN fTup (mCons (mC (.str "mend")) (mCons (mC (.str "wake")) (mNil))))) (m1 (fIsN false) (mN (fCall 2 f_law_answer) (mCons (mVar 0) (mCons (m2 fIx (mVar 1) (mC (.int 0))) (mNil)))))) (sRet (mC (.bool false))) (sSkip)) (sSeq (sIf (m2 (fEq false) (m2 fIx (mVar 2) (mC (.int 0))) (mC (.str "mend"))) (sSeq (sAsg (mN (fCall 2 f_law_mending) (mCons (mVar 0) (mCons (m2 fIx (mVar 1) (mC (.int 0))) (mNil)))) (gNm 6)) (sSeq (sIf (mOr (m2 (fEq true) (mN fLen (mCons (mVar 2) (mNil))) (mC (.int 3))) (mOr (mNot (mN (fCall 2 f_law_is_count) (mCons (m2 fIx (mVar 2) (mC (.int 1))) (mCons (mN fLen (mCons (mVar 6) (mNil))) (mNil))))) (mNot (mN (fCall 2 f_law_are_fates) (mCons (m2 fIx (mVar 2) (mC (.int 2))) (mCons (m2 fIx (mVar 2) (mC (.int 1))) (mNil))))))) (sRet (mC (.bool false))) (sSkip)) (sSeq (sAsg (mN (fCall 3 f_law_fallen) (mCons (m2 fIx (mVar 1) (mC (.int 0))) (mCons (mSl (mVar 6) none (some (m2 fIx (mVar 2) (mC (.int 1))))) (mCons (m2 fIx (mVar 2) (mC (.int 2))) (mNil))))) (gSb (mVar 1) (mC (.int 0)))) (sRet (mC (.bool true)))))) (sSkip)) (sSeq (sIf (m2 (fEq true) (mVar 2) (mN fTup (mCons (mC (.str "wake")) (mNil)))) (sRet (mC (.bool false))) (sSkip)) (sSeq (sAsg (mN (fCall 2 f_law_answer) (mCons (mVar 0) (mCons (m2 fIx (mVar 1) (mC (.int 0))) (mNil)))) (gNm 7)) (sSeq (sAsg (mLc1 (mRng2 (mCons (m2 fIx (mVar 1) (mC (.int 3))) (mCons (m2 fAdd (m2 fIx (mVar 1) (mC (.int 4))) (mC (.int 1))) (mNil)))) 11 (m2 (fEq false) (m2 fMod (mN fInt (mCons (mVar 11) (mNil))) (m2 fMul (m2 fIx (mVar 0) (mC (.int 0))) (m2 fIx (mVar 0) (mC (.int 2))))) (mVar 7)) (mVar 11)) (gNm 8)) (sSeq (sAsg (mIf (mVar 3) (mN (fCall 2 f_law_alone) (mCons (mVar 0) (mCons (m2 fIx (mVar 1) (mC (.int 0))) (mNil)))) (mN (fCall 2 f_law_mended) (mCons (mVar 0) (mCons (m2 fIx (mVar 1) (mC (.int 0))) (mNil))))) (gSb (mVar 1) (mC (.int 0)))) (sSeq (sAsg (mIf (m2 (fEq true) (mVar 8) (mN fLst (mNil))) (m2 fIx (mVar 8) (mC (.int 0))) (mVar 7)) (gSb (mVar 1) (mC (.int 2)))) (sSeq (sMul 3 (mCons (m2 fIx (mVar 1) (mC (.int 2))) (mCons (m2 fIx (mVar 1) (mC (.int 2))) (mCons (mC (.bool true)) (mNil)))) (gCs (gSb (mVar 1) (mC (.int 3))) (gCs (gSb (mVar 1) (mC (.int 4))) (gCs (gSb (mVar 1) (mC (.int 5))) (gNl))))) (sRet (mC (.bool true))))))))))))))
def f_law_dealt : List Vd → Tab → Re Vd := (mFn 12 m_law_dealt)
def N_law_run : List Str := ["_law_form", "_law_tale", "_law_lone_so", "_law_frame_here", "_law_deal"]
def m_law_run : MS := sSeq (sAsg (mN (fCall 1 f_law_frame) (mCons (mVar 0) (mNil))) (gNm 3)) (sSeq (sIf (mNot (m1 (fIs "tuple") (mVar 1))) (sRet (mC .none)) (sSkip)) (sSeq (sFor (mSeq (mVar 1)) (gNm 4) (sIf (mNot (mN (fCall 4 f_law_dealt) (mCons (mVar 0) (mCons (mVar 3) (mCons (mVar 4) (mCons (mVar 2) (mNil))))))) (sRet (mC .none)) (sSkip))) (sRet (mVar 3))))
def f_law_run : List Vd → Tab → Re Vd := (mFn 5 m_law_run)
def N_law_note : List Str := ["_law_tin", "_law_own", "_law_key_so", "_law_left_so"]
def m_law_note : MS := sSeq (sAsg (mN (fCall 2 f_law_take) (mCons (mVar 0) (mCons (mC (.int 4)) (mNil)))) (gNm 1)) (sSeq (sIf (m2 (fEq false) (mVar 1) (mC (.int 0))) (sRet (mCall0 f_law_blank)) (sSkip)) (sSeq (sAsg (mN (fCall 2 f_law_of) (mCons (mVar 0) (mCons (mN fLst (mCons (mC (.str "a")) (mCons (mC (.str "b")) (mCons (mC (.str "c7")) (mCons (mC (.str "@a")) (mNil)))))) (mNil)))) (gNm 2)) (sSeq (sAsg (mN (fCall 2 f_law_of) (mCons (mVar 0) (mCons (mN fLst (mCons (mC (.int 0)) (mCons (mC (.int 0)) (mCons (mC (.int 0)) (mCons (mC (.int 1)) (mNil)))))) (mNil)))) (gNm 3)) (sRet (mIf (m2 (fEq false) (mVar 1) (mC (.int 1))) (mN fTup (mCons (mC (.str "drop")) (mCons (mVar 2) (mCons (mC (.int 0)) (mCons (mVar 3) (mNil)))))) (mN fTup (mCons (mC (.str "put")) (mCons (mVar 2) (mCons (mN (fCall 2 f_law_of) (mCons (mVar 0) (mCons (mN fLst (mCons (mC (.str "x")) (mCons (mC (.str "yy")) (mCons (mC (.str "0")) (mNil))))) (mNil)))) (mCons (mC (.int 0)) (mCons (mVar 3) (mNil))))))))))))
def f_law_note : List Vd → Tab → Re Vd := fCut (mFn 4 m_law_note)
def N_law_drawn_life : List Str := ["_law_tin", "_law_form", "_law_many_so", "_law_mends_so", "_law_found", "_law_frame_here", "_law_lap_here", "_law_deals_so", "_law_own", "_law_deal", "_law_fates_so", "_law_k", "_law_j"]
def m_law_drawn_life : MS := sSeq (sPar 4 5 (mCons (mN fLstO (mNil)) (mCons (mN (fCall 1 f_law_frame) (mCons (mVar 1) (mNil))) (mNil)))) (sSeq (sFor (mRng1 (mCons (mVar 2) (mNil))) (gNm 6) (sSeq (sAsg (mN fLstO (mNil)) (gNm 7)) (sSeq (sFor (mRng1 (mCons (mN (fCall 2 f_law_take) (mCons (mVar 0) (mCons (m2 fAdd (m2 fIx (mVar 1) (mC (.int 0))) (mC (.int 3))) (mNil)))) (mNil))) (gNm 8) (sSeq (sApp (mVar 7) (mN fTup (mCons (mC (.str "write")) (mCons (mN (fCall 1 f_law_note) (mCons (mVar 0) (mNil))) (mNil))))) (sIf (m2 (fEq false) (mN (fCall 2 f_law_take) (mCons (mVar 0) (mCons (mC (.int 6)) (mNil)))) (mC (.int 0))) (sApp (mVar 7) (mN fTup (mCons (mC (.str "sync")) (mNil)))) (sSkip)))) (sSeq (sFor (mSeq (mVar 7)) (gNm 9) (sDrop (mN (fCall 4 f_law_dealt) (mCons (mVar 1) (mCons (mVar 5) (mCons (mVar 9) (mCons (mC (.bool false)) (mNil)))))))) (sSeq (sAsg (mN (fCall 2 f_law_fates) (mCons (mVar 0) (mCons (mN fLen (mCons (m2 fIx (mVar 5) (mC (.int 1))) (mNil))) (mNil)))) (gNm 10)) (sSeq (sIf (m2 (fEq false) (mN (fCall 2 f_law_take) (mCons (mVar 0) (mCons (mC (.int 3)) (mNil)))) (mC (.int 0))) (sSeq (sAsg (mN (fCall 2 f_law_take) (mCons (mVar 0) (mCons (m2 fAdd (m2 fIx (mVar 1) (mC (.int 1))) (mC (.int 1))) (mNil)))) (gNm 11)) (sAsg (mN fTupleOf (mCons (mLc1 (mRng1 (mCons (mN fLen (mCons (mVar 10) (mNil))) (mNil))) 12 (mC (.bool true)) (mIf (m2 fLt (mVar 12) (mVar 11)) (mN (fCall 2 f_law_of) (mCons (mVar 0) (mCons (mN fLst (mCons (mC (.str "old")) (mCons (mC (.str "torn")) (mNil)))) (mNil)))) (mC (.str "new")))) (mNil))) (gNm 10))) (sSkip)) (sSeq (sAsg (m2 (fCatL fCatO) (m2 (fCatL fCatO) (mVar 4) (mVar 7)) (mN fLst (mCons (mN fTup (mCons (mC (.str "cut")) (mCons (mVar 10) (mNil)))) (mNil)))) (gNm 4)) (sSeq (sDrop (mN (fCall 4 f_law_dealt) (mCons (mVar 1) (mCons (mVar 5) (mCons (m2 fIx (mVar 4) (m1 fNeg (mC (.int 1)))) (mCons (mC (.bool false)) (mNil))))))) (sIf (m2 fLt (m2 fAdd (mVar 6) (mC (.int 1))) (mVar 2)) (sSeq (sIf (m1 (fIsN false) (mN (fCall 2 f_law_answer) (mCons (mVar 1) (mCons (m2 fIx (mVar 5) (mC (.int 0))) (mNil))))) (sRet (mN fTupleOf (mCons (mVar 4) (mNil)))) (sSkip)) (sSeq (sFor (mRng1 (mCons (mIf (mVar 3) (mN (fCall 2 f_law_take) (mCons (mVar 0) (mCons (mC (.int 4)) (mNil)))) (mC (.int 0))) (mNil))) (gNm 8) (sSeq (sAsg (mN (fCall 2 f_law_take) (mCons (mVar 0) (mCons (m2 fAdd (mN fLen (mCons (mN (fCall 2 f_law_mending) (mCons (mVar 1) (mCons (m2 fIx (mVar 5) (mC (.int 0))) (mNil)))) (mNil))) (mC (.int 1))) (mNil)))) (gNm 11)) (sSeq (sApp (mVar 4) (mN fTup (mCons (mC (.str "mend")) (mCons (mVar 11) (mCons (mN (fCall 2 f_law_fates) (mCons (mVar 0) (mCons (mVar 11) (mNil)))) (mNil)))))) (sDrop (mN (fCall 4 f_law_dealt) (mCons (mVar 1) (mCons (mVar 5) (mCons (m2 fIx (mVar 4) (m1 fNeg (mC (.int 1)))) (mCons (mC (.bool false)) (mNil)))))))))) (sSeq (sApp (mVar 4) (mN fTup (mCons (mC (.str "wake")) (mNil)))) (sDrop (mN (fCall 4 f_law_dealt) (mCons (mVar 1) (mCons (mVar 5) (mCons (m2 fIx (mVar 4) (m1 fNeg (mC (.int 1)))) (mCons (mC (.bool false)) (mNil)))))))))) (sSkip)))))))))) (sRet (mN fTupleOf (mCons (mVar 4) (mNil)))))
def f_law_drawn_life : List Vd → Tab → Re Vd := fCut (mFn 13 m_law_drawn_life)
def N_law_safe_form : List Str := ["_law_tin", "_law_most_so", "_law_cells_so", "_law_marks_so", "_law_most_flight_so"]
def m_law_safe_form : MS := sSeq (sAsg (m2 fAdd (mC (.int 3)) (mN (fCall 2 f_law_take) (mCons (mVar 0) (mCons (m2 fSub (mVar 1) (mC (.int 2))) (mNil))))) (gNm 2)) (sSeq (sAsg (m2 fAdd (mC (.int 2)) (mN (fCall 2 f_law_take) (mCons (mVar 0) (mCons (mC (.int 2)) (mNil))))) (gNm 3)) (sSeq (sAsg (mIf (m2 (fEq false) (mVar 3) (mC (.int 2))) (m2 fDiv (m2 fSub (m2 fMul (mC (.int 2)) (mVar 2)) (mC (.int 1))) (mC (.int 3))) (m2 fSub (mVar 2) (mC (.int 1)))) (gNm 4)) (sRet (mN fTup (mCons (mVar 2) (mCons (mN fMax (mCons (mC (.int 1)) (mCons (m2 fSub (mVar 4) (mN (fCall 2 f_law_take) (mCons (mVar 0) (mCons (mC (.int 3)) (mNil))))) (mNil)))) (mCons (mVar 3) (mNil))))))))
def f_law_safe_form : List Vd → Tab → Re Vd := fCut (mFn 5 m_law_safe_form)
def N_law_by_hand_right : List Str := ["_law_none", "_law_form", "_law_passed", "_law_late", "_law_got", "_law_due"]
def m_law_by_hand_right : MS := sSeq (sPar 0 1 (mCons (mCall0 f_law_blank) (mCons (mN fTup (mCons (mC (.int 6)) (mCons (mC (.int 4)) (mCons (mC (.int 3)) (mNil))))) (mNil)))) (sSeq (sAsg (mN fTup (mCons (mN fTup (mCons (mC (.int 2)) (mCons (mVar 0) (mNil)))) (mCons (mN fTup (mCons (mC (.int 2)) (mCons (mVar 0) (mNil)))) (mCons (mN fTup (mCons (mC (.int 0)) (mCons (mVar 0) (mNil)))) (mCons (mN fTup (mCons (mC (.int 0)) (mCons (mVar 0) (mNil)))) (mCons (mN fTup (mCons (mC (.int 2)) (mCons (mVar 0) (mNil)))) (mCons (mN fTup (mCons (mC (.int 2)) (mCons (mVar 0) (mNil)))) (mNil)))))))) (gNm 2)) (sSeq (sAsg (mN fTup (mCons (mN fTup (mCons (mC (.int 0)) (mCons (mVar 0) (mNil)))) (mCons (mN fTup (mCons (mC (.str "torn")) (mNil))) (mCons (mN fTup (mCons (mC (.int 0)) (mCons (mVar 0) (mNil)))) (mCons (mN fTup (mCons (mC (.int 1)) (mCons (mVar 0) (mNil)))) (mNil)))))) (gNm 3)) (sSeq (sAsg (mN fLst (mCons (mN (fCall 2 f_mend_writes) (mCons (mVar 1) (mCons (mVar 2) (mNil)))) (mCons (mSl (mN (fCall 2 f_mended) (mCons (mVar 1) (mCons (mVar 2) (mNil)))) none (some (mC (.int 2)))) (mCons (mN (fCall 2 f_mend_writes) (mCons (mN fTup (mCons (mC (.int 4)) (mCons (mC (.int 2)) (mCons (mC (.int 2)) (mNil))))) (mCons (mVar 3) (mNil)))) (mCons (mN (fCallK 2 [0, 1] f_mended) (mCons (mN fLst (mCons (mC (.int 4)) (mCons (mC (.int 2)) (mCons (mC (.int 2)) (mNil))))) (mCons (mN (fCall 1 (f_law_lists 8)) (mCons (mVar 3) (mNil))) (mNil)))) (mNil)))))) (gNm 4)) (sSeq (sAsg (mN fLst (mCons (mN fTup (mCons (mN fTup (mCons (mC (.int 0)) (mCons (mN fTup (mCons (mC (.int 0)) (mCons (mVar 0) (mNil)))) (mNil)))) (mCons (mN fTup (mCons (mC (.int 1)) (mCons (mN fTup (mCons (mC (.int 0)) (mCons (mVar 0) (mNil)))) (mNil)))) (mNil)))) (mCons (mN fTup (mCons (mN fTup (mCons (mC (.int 0)) (mCons (mVar 0) (mNil)))) (mCons (mN fTup (mCons (mC (.int 0)) (mCons (mVar 0) (mNil)))) (mNil)))) (mCons (mN fTup (mCons (mN fTup (mCons (mC (.int 2)) (mCons (mN fTup (mCons (mC (.int 1)) (mCons (mVar 0) (mNil)))) (mNil)))) (mNil))) (mCons (mN fTup (mCons (mN fTup (mCons (mC (.int 0)) (mCons (mVar 0) (mNil)))) (mCons (mN fTup (mCons (mC (.str "torn")) (mNil))) (mCons (mN fTup (mCons (mC (.int 1)) (mCons (mVar 0) (mNil)))) (mCons (mN fTup (mCons (mC (.int 1)) (mCons (mVar 0) (mNil)))) (mNil)))))) (mNil)))))) (gNm 5)) (sSeq (sAsg (m2 (fCatL fCatO) (mVar 4) (mN fLst (mCons (mSl (mN (fCall 4 f_partly_mended) (mCons (mVar 1) (mCons (mVar 2) (mCons (mC (.int 2)) (mCons (mN fTup (mCons (mC (.str "torn")) (mCons (mC (.str "old")) (mNil)))) (mNil)))))) none (some (mC (.int 2)))) (mCons (mN (fCallK 4 [2, 0, 1, 3] f_partly_mended) (mCons (mVar 3) (mCons (mC (.int 0)) (mCons (mN fTup (mCons (mC (.int 4)) (mCons (mC (.int 2)) (mCons (mC (.int 2)) (mNil))))) (mCons (mN fLst (mNil)) (mNil)))))) (mCons (mN (fCall 2 f_law_answer) (mCons (mVar 1) (mCons (mN (fCall 4 f_partly_mended) (mCons (mVar 1) (mCons (mVar 2) (mCons (mC (.int 1)) (mCons (mN fTup (mCons (mC (.str "new")) (mNil))) (mNil)))))) (mNil)))) (mNil)))))) (gNm 4)) (sSeq (sApp (mVar 4) (mSl (mN (fCall 4 f_partly_mended) (mCons (mVar 1) (mCons (mVar 2) (mCons (mC (.int 1)) (mCons (mN fTup (mCons (mC (.str "torn")) (mNil))) (mNil)))))) none (some (mC (.int 2))))) (sRet (mN (fCall 2 (f_law_same 8)) (mCons (mVar 4) (mCons (m2 (fCatL fCatO) (mVar 5) (mN fLst (mCons (mN fTup (mCons (mN fTup (mCons (mC (.str "torn")) (mNil))) (mCons (mN fTup (mCons (mC (.int 2)) (mCons (mVar 0) (mNil)))) (mNil)))) (mCons (mVar 3) (mCons (mC (.int 4)) (mCons (mN fTup (mCons (mN fTup (mCons (mC (.str "torn")) (mNil))) (mCons (mN fTup (mCons (mC (.int 2)) (mCons (mVar 0) (mNil)))) (mNil)))) (mNil))))))) (mNil)))))))))))
def f_law_by_hand_right : List Vd → Tab → Re Vd := fCut (mFn 6 m_law_by_hand_right)
def N_law_reply : List Str := ["_law_form", "_law_face_here", "_law_many_so", "_law_fates_so", "_law_told", "error_a", "error_b"]
def m_law_reply : MS := sSeq (sAsg (mC (.str "none")) (gNm 4)) (sSeq (sTry2 4 5 6 "cannot" "unfit" (mN (fCall 4 f_partly_mended) (mCons (mVar 0) (mCons (mVar 1) (mCons (mVar 2) (mCons (mVar 3) (mNil))))))) (sRet (mVar 4)))
def f_law_reply : List Vd → Tab → Re Vd := fCut (mFn 7 m_law_reply)
def N_law_refused_right : List Str := ["_law_none", "_law_late", "_law_no_so", "_law_got", "_law_own", "_law_its"]
def m_law_refused_right : MS := sSeq (sAsg (mCall0 f_law_blank) (gNm 0)) (sSeq (sMul 2 (mCons (mN fTup (mCons (mN fTup (mCons (mC (.int 0)) (mCons (mVar 0) (mNil)))) (mCons (mN fTup (mCons (mC (.str "torn")) (mNil))) (mCons (mN fTup (mCons (mC (.int 0)) (mCons (mVar 0) (mNil)))) (mCons (mN fTup (mCons (mC (.int 1)) (mCons (mVar 0) (mNil)))) (mNil)))))) (mCons (mN fLst (mCons (mC (.str "unfit")) (mCons (mC (.bool true)) (mNil)))) (mNil))) (gCs (gNm 1) (gCs (gNm 2) (gNl)))) (sSeq (sAsg (mLc2 (mSeq (mN fTup (mCons (mN fTup (mCons (mC (.int 2)) (mCons (mN fTup (mCons (mC (.str "new")) (mCons (mC (.str "new")) (mNil)))) (mNil)))) (mCons (mN fTup (mCons (m1 fNeg (mC (.int 1))) (mCons (mN fTup (mNil)) (mNil)))) (mCons (mN fTup (mCons (mC (.int 1)) (mCons (mN fTup (mNil)) (mNil)))) (mCons (mN fTup (mCons (mC (.int 1)) (mCons (mN fTup (mCons (mC (.str "new")) (mCons (mC (.str "new")) (mNil)))) (mNil)))) (mCons (mN fTup (mCons (mC (.int 0)) (mCons (mN fTup (mCons (mC (.str "old")) (mNil))) (mNil)))) (mCons (mN fTup (mCons (mC (.int 1)) (mCons (mN fTup (mCons (mC (.str "gone")) (mNil))) (mNil)))) (mNil))))))))) 4 5 (mC (.bool true)) (mN (fCall 4 f_law_reply) (mCons (mN fTup (mCons (mC (.int 4)) (mCons (mC (.int 2)) (mCons (mC (.int 2)) (mNil))))) (mCons (mVar 1) (mCons (mVar 4) (mCons (mVar 5) (mNil))))))) (gNm 3)) (sSeq (sAsg (m2 (fCatL fCat) (m2 (fCatL fCat) (mVar 3) (mLc1 (mSeq (mN fTup (mCons (mN fTup (mCons (mC (.int 4)) (mCons (mC (.int 4)) (mCons (mC (.int 2)) (mNil))))) (mCons (mN fTup (mCons (mC (.int 5)) (mCons (mC (.int 2)) (mCons (mC (.int 2)) (mNil))))) (mCons (mC .none) (mNil)))))) 4 (mC (.bool true)) (mN (fCall 4 f_law_reply) (mCons (mVar 4) (mCons (mVar 1) (mCons (mC (.int 0)) (mCons (mN fTup (mNil)) (mNil)))))))) (mLc1 (mSeq (mN fTup (mCons (mSl (mVar 1) none (some (mC (.int 3)))) (mCons (mC .none) (mCons (m2 fRepT (mN fTup (mCons (mN fTup (mCons (mC (.int 3)) (mCons (mVar 0) (mNil)))) (mNil))) (mC (.int 4))) (mNil)))))) 4 (mC (.bool true)) (mN (fCall 4 f_law_reply) (mCons (mN fTup (mCons (mC (.int 4)) (mCons (mC (.int 2)) (mCons (mC (.int 2)) (mNil))))) (mCons (mVar 4) (mCons (mC (.int 0)) (mCons (mN fTup (mNil)) (mNil)))))))) (gNm 3)) (sSeq (sAsg (m2 (fCatL fCat) (mVar 3) (mN fLst (mCons (mN (fCall 4 f_law_reply) (mCons (mN fTup (mCons (mC (.int 4)) (mCons (mC (.int 2)) (mCons (mC (.int 2)) (mNil))))) (mCons (m2 fRepT (mN fTup (mCons (mN fTup (mCons (mC (.str "torn")) (mNil))) (mNil))) (mC (.int 4))) (mCons (mC (.int 0)) (mCons (mN fTup (mNil)) (mNil)))))) (mCons (mN (fCall 4 f_law_reply) (mCons (mN fTup (mCons (mC (.int 4)) (mCons (mC (.int 2)) (mCons (mC (.int 2)) (mNil))))) (mCons (m2 fRepT (mN fTup (mCons (mN fTup (mCons (mC (.str "torn")) (mNil))) (mNil))) (mC (.int 4))) (mCons (mC (.int 9)) (mCons (mN fTup (mNil)) (mNil)))))) (mNil))))) (gNm 3)) (sRet (mN (fCall 2 (f_law_same 8)) (mCons (mVar 3) (mCons (m2 (fCatL fCat) (m2 fRepL (mN fLst (mCons (mVar 2) (mNil))) (mC (.int 12))) (m2 fRepL (mN fLst (mCons (mN fLst (mCons (mC (.str "cannot")) (mCons (mC (.bool true)) (mNil)))) (mNil))) (mC (.int 2)))) (mNil)))))))))
def f_law_refused_right : List Vd → Tab → Re Vd := fCut (mFn 6 m_law_refused_right)
def N_law : List Str := ["_law_script", "_law_tin", "_law_form", "_law_frame_here", "_law_face_here", "_law_n", "_law_wide_so", "_law_read_so", "_law_lap_here", "_law_writes_so", "_law_many_so", "_law_fates_so", "_law_due", "_law_got", "_law_own", "_law_seen_so", "_law_j"]
def m_law : MS := sSeq (sIf (mNot (mCallX f_law_by_hand_right)) (sRet (mC (.bool false))) (sSkip)) (sSeq (sAsg (mN (fCall 2 f_law_box) (mCons (mN (fCall 2 f_law_cells) (mCons (mVar 0) (mCons (mC (.int 1)) (mNil)))) (mCons (mC (.int 0)) (mNil)))) (gNm 1)) (sSeq (sAsg (mN (fCall 2 f_law_safe_form) (mCons (mVar 1) (mCons (mC (.int 7)) (mNil)))) (gNm 2)) (sSeq (sAsg (mN (fCall 3 f_law_run) (mCons (mVar 2) (mCons (mN (fCall 4 f_law_drawn_life) (mCons (mVar 1) (mCons (mVar 2) (mCons (m2 fAdd (mC (.int 1)) (mN (fCall 2 f_law_take) (mCons (mVar 1) (mCons (mC (.int 2)) (mNil))))) (mCons (mC (.bool true)) (mNil)))))) (mCons (mC (.bool false)) (mNil))))) (gNm 3)) (sSeq (sAsg (mN fTupleOf (mCons (m2 fIx (mVar 3) (mC (.int 0))) (mNil))) (gNm 4)) (sSeq (sAsg (mN (fCall 2 f_law_answer) (mCons (mVar 2) (mCons (mVar 4) (mNil)))) (gNm 5)) (sSeq (sIf (m1 (fIsN false) (mVar 5)) (sRet (mC (.bool false))) (sSkip)) (sSeq (sAsg (m2 fSub (m2 fIx (mVar 2) (mC (.int 0))) (m2 fIx (mVar 2) (mC (.int 1)))) (gNm 6)) (sSeq (sAsg (mLc1 (mRng2 (mCons (mC (.int 1)) (mCons (m2 fAdd (mVar 6) (mC (.int 1))) (mNil)))) 16 (mC (.bool true)) (m2 fIx (mVar 4) (m2 fMod (mN fInt (mCons (m2 fSub (mVar 5) (mVar 16)) (mNil))) (m2 fIx (mVar 2) (mC (.int 0)))))) (gNm 7)) (sSeq (sFor (mRng1 (mCons (mC (.int 3)) (mNil))) (gNm 8) (sSeq (sAsg (mN (fCall 2 f_law_mending) (mCons (mVar 2) (mCons (mVar 4) (mNil)))) (gNm 9)) (sSeq (sAsg (mN (fCall 2 f_law_take) (mCons (mVar 1) (mCons (m2 fAdd (mN fLen (mCons (mVar 9) (mNil))) (mC (.int 1))) (mNil)))) (gNm 10)) (sSeq (sAsg (mN (fCall 2 f_law_fates) (mCons (mVar 1) (mCons (mVar 10) (mNil)))) (gNm 11)) (sSeq (sAsg (mN fTupleOf (mCons (mN (fCall 3 f_law_fallen) (mCons (mVar 4) (mCons (mSl (mVar 9) none (some (mVar 10))) (mCons (mVar 11) (mNil))))) (mNil))) (gNm 12)) (sSeq (sAsg (mN fLst (mCons (mN (fCall 2 f_mend_writes) (mCons (mN (fCall 1 (f_law_lists 8)) (mCons (mVar 2) (mNil))) (mCons (mN (fCall 1 (f_law_lists 8)) (mCons (mVar 4) (mNil))) (mNil)))) (mCons (mN (fCall 4 f_partly_mended) (mCons (mVar 2) (mCons (mVar 4) (mCons (mVar 10) (mCons (mN fListOf (mCons (mVar 11) (mNil))) (mNil)))))) (mCons (mN (fCall 2 f_mended) (mCons (mVar 2) (mCons (mVar 4) (mNil)))) (mNil))))) (gNm 13)) (sSeq (sIf (mNot (mN (fCall 2 (f_law_same 8)) (mCons (mVar 13) (mCons (mN fLst (mCons (mN fTupleOf (mCons (mVar 9) (mNil))) (mCons (mVar 12) (mCons (mN fTupleOf (mCons (mN (fCall 2 f_law_mended) (mCons (mVar 2) (mCons (mVar 4) (mNil)))) (mNil))) (mNil))))) (mNil))))) (sRet (mC (.bool false))) (sSkip)) (sSeq (sFor (mSeq (mSl (mVar 13) (some (mC (.int 1))) none)) (gNm 14) (sSeq (sAsg (mLc1 (mRng2 (mCons (mC (.int 1)) (mCons (m2 fAdd (mVar 6) (mC (.int 1))) (mNil)))) 16 (mC (.bool true)) (m2 fIx (mVar 14) (m2 fMod (mN fInt (mCons (m2 fSub (mVar 5) (mVar 16)) (mNil))) (m2 fIx (mVar 2) (mC (.int 0)))))) (gNm 15)) (sIf (mOr (m2 (fEq true) (mN (fCall 2 f_law_answer) (mCons (mVar 2) (mCons (mVar 14) (mNil)))) (mVar 5)) (m2 (fEq true) (mVar 15) (mVar 7))) (sRet (mC (.bool false))) (sSkip)))) (sAsg (m2 fIx (mVar 13) (mC (.int 1))) (gNm 4)))))))))) (sRet (mCallX f_law_refused_right)))))))))))
def f_law : List Vd → Tab → Re Vd := (mFn 17 m_law)
def topS (i : Nat) : Stmt := PySem.Challenge.pw_halfring_k25_whole_mending_cut_anywhere.main.body.getD i (.Pass ⟨0, 0, 0, 0⟩)
abbrev FnP (K : PySem.W.Frag) (x : Str) (st : Stmt) (f : Addr) (fd : FuncData) : Prop := FunD K x x (defArgs st) (defBody st) (defScope st) [] [] f fd
theorem sp_raw {K : PySem.W.Frag} {cl : Cl} {n n2 : Nat} {m : List Vd → Tab → Re Vd} {h : n2 = n} (vs : List V) (H : Hp) (Q : VK) (E : XK) (q : spOf K cl n m vs H Q E) : spOf K cl n2 m vs H Q E := by
  subst h
  exact q
structure GD (K : PySem.W.Frag) (mg : Str → Option Value) (x : Str) (d : PyData) : Prop where
  ex : ∃ u v, mg x = some u ∧ RelV v u ∧ ∀ F, Da K F v d
theorem v_gd {X : Cx} {cl : Cl} {W : WX} {pos : Pos} {x : Str} {d : PyData} (G : GD X.K X.mg x d) (hg : Gl X x := by rfl) (hd : (x == ("__debug__" : Str)) = false := by decide) : PE X (.Name x pos) (rE X.K cl W (mC d)) := by
  obtain ⟨u, v, hm, r, hx⟩ := G.ex
  exact v_g hm r hx hg hd
structure Fac (K : PySem.W.Frag) (mg : Str → Option Value) (cl : Cl) : Prop where
  isinstance : mg "isinstance" = none
  int : mg "int" = none
  bool : mg "bool" = none
  str : mg "str" = none
  tuple : mg "tuple" = none
  list : mg "list" = none
  len : mg "len" = none
  all : mg "all" = none
  zip : mg "zip" = none
  range : mg "range" = none
  enumerate : mg "enumerate" = none
  abs : mg "abs" = none
  max : mg "max" = none
  ValueError : mg "ValueError" = none
  c_TORN_devices : GD K mg "TORN_devices" (.tuple [.str "torn"])
  c_TORN_log : GD K mg "TORN_log" (.tuple [.str "torn"])
  c_BLANK : GD K mg "BLANK" (.tuple [.str "blank"])
  c_OLD : GD K mg "OLD" (.str "old")
  c_NEW : GD K mg "NEW" (.str "new")
  c_SIGNS : GD K mg "SIGNS" (.str "abcdefghijklmnopqrstuvwxyz0123456789")
  c_LONGEST : GD K mg "LONGEST" (.int 12)
  er_CanNot : ErC K mg cl "CanNot" 0
  er_Unfit : ErC K mg cl "Unfit" 1
  erT : ∃ C0 C1, ErT K mg cl "CanNot" "Unfit" C0 C1
end Hr
set_option Elab.async false
set_option linter.all false
set_option maxRecDepth 100000
set_option maxHeartbeats 4000000
namespace Hr
open PySem PySem.Spec PyProof.Rows L2
theorem sc_is_number : FnScope N_is_number ["thing"] (defScope (topS 4)) := ⟨rfl, rfl, rfl, by decide +kernel, rfl, by decide +kernel, by decide +kernel⟩
theorem fo_is_number {P : Program} {w : World} {K : PySem.W.Frag} {mg : Str → Option Value} {base : Heap} {cl : Cl} {f : Addr} {fd : FuncData} (Fc : Fac K mg cl) (F : FnP K "is_number" (topS 4) f fd) (hm : mg "is_number" = some (.ref f)) : FnOk P w K mg base (L2.CX P w) 1 f fd ["thing"] (spOf K cl 1 f_is_number) := by
  refine (fn_ok (N := N_is_number) (ps := ["thing"]) (b := m_is_number) (k := 0) F sc_is_number fun cdv A outer s H E hr => ?_).imp sp_cut
  exact s_one (s_ret (v_and (v_isi ok_int Fc.isinstance Fc.int boot_int (v_var 0)) (v_one (v_not (v_isi ok_bool Fc.isinstance Fc.bool boot_bool (v_var 0))))))
theorem ok_is_number {P : Program} {w : World} {K : PySem.W.Frag} {mg : Str → Option Value} {base : Heap} {cl : Cl} {f : Addr} {fd : FuncData} (Fc : Fac K mg cl) (F : FnP K "is_number" (topS 4) f fd) (hm : mg "is_number" = some (.ref f)) : Cal P w K mg base cl "is_number" ["thing"] 1 f_is_number := ⟨f, fd, hm, F.kp, (F.bindsN fun _ _ _ _ _ _ us hl => match us, hl with | [_], _ => rfl), fo_is_number Fc F hm⟩
theorem sc_is_from : FnScope N_is_from ["thing", "least"] (defScope (topS 5)) := ⟨rfl, rfl, rfl, by decide +kernel, rfl, by decide +kernel, by decide +kernel⟩
theorem fo_is_from {P : Program} {w : World} {K : PySem.W.Frag} {mg : Str → Option Value} {base : Heap} {cl : Cl} {f : Addr} {fd : FuncData} (Fc : Fac K mg cl) (F : FnP K "is_from" (topS 5) f fd) (hm : mg "is_from" = some (.ref f)) (C_is_number : Cal P w K mg base cl "is_number" ["thing"] 1 f_is_number) : FnOk P w K mg base (L2.CX P w) 2 f fd ["thing", "least"] (spOf K cl 2 f_is_from) := by
  refine (fn_ok (N := N_is_from) (ps := ["thing", "least"]) (b := m_is_from) (k := 1) F sc_is_from fun cdv A outer s H E hr => ?_).imp sp_cut
  have tk : Takes (cxOf (L2.CX P w) P w K mg base N_is_from "is_from" (defScope (topS 5)) f cdv A outer s H E) (fun c d _ H => E c d H) := takes_of rfl rfl rfl rfl
  exact s_one (s_ret (v_and (v_call C_is_number hr tk (a_cons (v_var 0) (a_nil))) (v_one (v_cmp op_ge ops_ge (v_var 0) (v_var 1)))))
theorem ok_is_from {P : Program} {w : World} {K : PySem.W.Frag} {mg : Str → Option Value} {base : Heap} {cl : Cl} {f : Addr} {fd : FuncData} (Fc : Fac K mg cl) (F : FnP K "is_from" (topS 5) f fd) (hm : mg "is_from" = some (.ref f)) (C_is_number : Cal P w K mg base cl "is_number" ["thing"] 1 f_is_number) : Cal P w K mg base cl "is_from" ["thing", "least"] 2 f_is_from := ⟨f, fd, hm, F.kp, (F.bindsN fun _ _ _ _ _ _ us hl => match us, hl with | [_, _], _ => rfl), fo_is_from Fc F hm C_is_number⟩
theorem sc_is_within : FnScope N_is_within ["thing", "least", "most"] (defScope (topS 6)) := ⟨rfl, rfl, rfl, by decide +kernel, rfl, by decide +kernel, by decide +kernel⟩
theorem fo_is_within {P : Program} {w : World} {K : PySem.W.Frag} {mg : Str → Option Value} {base : Heap} {cl : Cl} {f : Addr} {fd : FuncData} (Fc : Fac K mg cl) (F : FnP K "is_within" (topS 6) f fd) (hm : mg "is_within" = some (.ref f)) (C_is_number : Cal P w K mg base cl "is_number" ["thing"] 1 f_is_number) : FnOk P w K mg base (L2.CX P w) 2 f fd ["thing", "least", "most"] (spOf K cl 3 f_is_within) := by
  refine (fn_ok (N := N_is_within) (ps := ["thing", "least", "most"]) (b := m_is_within) (k := 1) F sc_is_within fun cdv A outer s H E hr => ?_).imp sp_cut
  have tk : Takes (cxOf (L2.CX P w) P w K mg base N_is_within "is_within" (defScope (topS 6)) f cdv A outer s H E) (fun c d _ H => E c d H) := takes_of rfl rfl rfl rfl
  exact s_one (s_ret (v_and (v_call C_is_number hr tk (a_cons (v_var 0) (a_nil))) (v_one (v_chain op_le ops_le op_le ops_le (v_var 1) (v_var 0) (v_var 2)))))
theorem ok_is_within {P : Program} {w : World} {K : PySem.W.Frag} {mg : Str → Option Value} {base : Heap} {cl : Cl} {f : Addr} {fd : FuncData} (Fc : Fac K mg cl) (F : FnP K "is_within" (topS 6) f fd) (hm : mg "is_within" = some (.ref f)) (C_is_number : Cal P w K mg base cl "is_number" ["thing"] 1 f_is_number) : Cal P w K mg base cl "is_within" ["thing", "least", "most"] 2 f_is_within := ⟨f, fd, hm, F.kp, (F.bindsN fun _ _ _ _ _ _ us hl => match us, hl with | [_, _, _], _ => rfl), fo_is_within Fc F hm C_is_number⟩
theorem sc_is_long : FnScope N_is_long ["thing", "length"] (defScope (topS 7)) := ⟨rfl, rfl, rfl, by decide +kernel, rfl, by decide +kernel, by decide +kernel⟩
theorem fo_is_long {P : Program} {w : World} {K : PySem.W.Frag} {mg : Str → Option Value} {base : Heap} {cl : Cl} {f : Addr} {fd : FuncData} (Fc : Fac K mg cl) (F : FnP K "is_long" (topS 7) f fd) (hm : mg "is_long" = some (.ref f)) : FnOk P w K mg base (L2.CX P w) 1 f fd ["thing", "length"] (spOf K cl 2 f_is_long) := by
  refine (fn_ok (N := N_is_long) (ps := ["thing", "length"]) (b := m_is_long) (k := 0) F sc_is_long fun cdv A outer s H E hr => ?_).imp sp_cut
  have hu : (cxOf (L2.CX P w) P w K mg base N_is_long "is_long" (defScope (topS 7)) f cdv A outer s H E).A.units + 64 < cLine := hr.units
  exact s_one (s_ret (v_and (v_isi ok_tuple Fc.isinstance Fc.tuple boot_tuple (v_var 0)) (v_one (v_cmp (op_eqP hu) ops_eq (v_callB call_len cas_len Fc.len boot_len (a_cons (v_var 0) (a_nil))) (v_var 1)))))
theorem ok_is_long {P : Program} {w : World} {K : PySem.W.Frag} {mg : Str → Option Value} {base : Heap} {cl : Cl} {f : Addr} {fd : FuncData} (Fc : Fac K mg cl) (F : FnP K "is_long" (topS 7) f fd) (hm : mg "is_long" = some (.ref f)) : Cal P w K mg base cl "is_long" ["thing", "length"] 1 f_is_long := ⟨f, fd, hm, F.kp, (F.bindsN fun _ _ _ _ _ _ us hl => match us, hl with | [_, _], _ => rfl), fo_is_long Fc F hm⟩
theorem sc_tupled : FnScope N_tupled ["value"] (defScope (topS 8)) := ⟨rfl, rfl, rfl, by decide +kernel, rfl, by decide +kernel, by decide +kernel⟩
theorem ok_tupled {P : Program} {w : World} {K : PySem.W.Frag} {mg : Str → Option Value} {base : Heap} {cl : Cl} {f : Addr} {fd : FuncData} (Fc : Fac K mg cl) (F : FnP K "tupled" (topS 8) f fd) (hm : mg "tupled" = some (.ref f)) : ∀ n, Cal P w K mg base cl "tupled" ["value"] (n + 1) (f_tupled n)
  | 0 => ⟨f, fd, hm, F.kp, (F.bindsN fun _ _ _ _ _ _ us hl => match us, hl with | [_], _ => rfl), FunD.ok F sc_tupled (fun vs H Q E h => h.1) fun cdv A outer s H vs Q E hr h => by
      obtain ⟨_, _, _, _, _, _, _, po⟩ := h
      exact po.elim⟩
  | n + 1 => by
    have Crec : Cal P w K mg base cl "tupled" ["value"] (n + 1) (f_tupled n) := ok_tupled Fc F hm n
    refine ⟨f, fd, hm, F.kp, (F.bindsN fun _ _ _ _ _ _ us hl => match us, hl with | [_], _ => rfl), (fn_ok (b := m_tupled (f_tupled n)) F sc_tupled fun cdv A outer s H E hr => ?_).imp sp_cut⟩
    exact s_one (s_ret (v_if (t_val (v_isi2 ok_list ok_tuple Fc.isinstance Fc.list boot_list Fc.tuple boot_tuple (v_var 0))) (v_callTy call_tuple_of cas_tupleOf Fc.tuple boot_tuple (a_cons (v_lc1 rfl sc_tupled.nd (i_seq (v_var 0)) (blkOk_by (N := N_tupled) (sc := defScope (topS 8)) (own := [("own", 1)]) (by decide +kernel)) (fun _ _ _ _ _ => pg_name (i := 1) sc_tupled.nd rfl (Or.inl rfl)) (fun _ _ _ _ _ => ts_nil) (fun _ _ _ _ _ => v_call Crec hr takes0 (a_cons (v_var 1) (a_nil)))) (a_nil))) (v_var 0)))
theorem sc_is_word : FnScope N_is_word ["thing"] (defScope (topS 12)) := ⟨rfl, rfl, rfl, by decide +kernel, rfl, by decide +kernel, by decide +kernel⟩
theorem fo_is_word {P : Program} {w : World} {K : PySem.W.Frag} {mg : Str → Option Value} {base : Heap} {cl : Cl} {f : Addr} {fd : FuncData} (Fc : Fac K mg cl) (F : FnP K "is_word" (topS 12) f fd) (hm : mg "is_word" = some (.ref f)) : FnOk P w K mg base (L2.CX P w) 1 f fd ["thing"] (spOf K cl 1 f_is_word) := by
  refine (fn_ok (N := N_is_word) (ps := ["thing"]) (b := m_is_word) (k := 0) F sc_is_word fun cdv A outer s H E hr => ?_).imp sp_cut
  exact s_one (s_ret (v_and (v_isi ok_str Fc.isinstance Fc.str boot_str (v_var 0)) (v_and (v_chain op_le ops_le op_le ops_le (v_int) (v_callB call_len cas_len Fc.len boot_len (a_cons (v_var 0) (a_nil))) (v_gd Fc.c_LONGEST)) (v_one (v_callB (cr_all rfl) cas_all Fc.all boot_all (a_cons (v_lc1 rfl sc_is_word.nd (i_str (v_var 0)) (blkOk_by (N := N_is_word) (sc := defScope (topS 12)) (own := [("sign", 1)]) (by decide +kernel)) (fun _ _ _ _ _ => pg_name (i := 1) sc_is_word.nd rfl (Or.inl rfl)) (fun _ _ _ _ _ => ts_nil) (fun _ _ _ _ _ => v_cmp op_in_sign ops_sign (v_var 1) (v_gd Fc.c_SIGNS))) (a_nil)))))))
theorem ok_is_word {P : Program} {w : World} {K : PySem.W.Frag} {mg : Str → Option Value} {base : Heap} {cl : Cl} {f : Addr} {fd : FuncData} (Fc : Fac K mg cl) (F : FnP K "is_word" (topS 12) f fd) (hm : mg "is_word" = some (.ref f)) : Cal P w K mg base cl "is_word" ["thing"] 1 f_is_word := ⟨f, fd, hm, F.kp, (F.bindsN fun _ _ _ _ _ _ us hl => match us, hl with | [_], _ => rfl), fo_is_word Fc F hm⟩
theorem sc_is_key : FnScope N_is_key ["thing"] (defScope (topS 13)) := ⟨rfl, rfl, rfl, by decide +kernel, rfl, by decide +kernel, by decide +kernel⟩
theorem fo_is_key {P : Program} {w : World} {K : PySem.W.Frag} {mg : Str → Option Value} {base : Heap} {cl : Cl} {f : Addr} {fd : FuncData} (Fc : Fac K mg cl) (F : FnP K "is_key" (topS 13) f fd) (hm : mg "is_key" = some (.ref f)) (C_is_word : Cal P w K mg base cl "is_word" ["thing"] 1 f_is_word) : FnOk P w K mg base (L2.CX P w) 2 f fd ["thing"] (spOf K cl 1 f_is_key) := by
  refine (fn_ok (N := N_is_key) (ps := ["thing"]) (b := m_is_key) (k := 1) F sc_is_key fun cdv A outer s H E hr => ?_).imp sp_cut
  have hu : (cxOf (L2.CX P w) P w K mg base N_is_key "is_key" (defScope (topS 13)) f cdv A outer s H E).A.units + 64 < cLine := hr.units
  have tk : Takes (cxOf (L2.CX P w) P w K mg base N_is_key "is_key" (defScope (topS 13)) f cdv A outer s H E) (fun c d _ H => E c d H) := takes_of rfl rfl rfl rfl
  exact s_one (s_ret (v_or (v_call C_is_word hr tk (a_cons (v_var 0) (a_nil))) (v_one (v_and (v_isi ok_str Fc.isinstance Fc.str boot_str (v_var 0)) (v_and (v_cmp (op_eqP hu) ops_eq (v_sl (v_var 0) o_none (o_some (v_int))) (v_str)) (v_one (v_call C_is_word hr tk (a_cons (v_sl (v_var 0) (o_some (v_int)) o_none) (a_nil)))))))))
theorem ok_is_key {P : Program} {w : World} {K : PySem.W.Frag} {mg : Str → Option Value} {base : Heap} {cl : Cl} {f : Addr} {fd : FuncData} (Fc : Fac K mg cl) (F : FnP K "is_key" (topS 13) f fd) (hm : mg "is_key" = some (.ref f)) (C_is_word : Cal P w K mg base cl "is_word" ["thing"] 1 f_is_word) : Cal P w K mg base cl "is_key" ["thing"] 2 f_is_key := ⟨f, fd, hm, F.kp, (F.bindsN fun _ _ _ _ _ _ us hl => match us, hl with | [_], _ => rfl), fo_is_key Fc F hm C_is_word⟩
theorem sc_is_single : FnScope N_is_single ["thing"] (defScope (topS 14)) := ⟨rfl, rfl, rfl, by decide +kernel, rfl, by decide +kernel, by decide +kernel⟩
theorem fo_is_single {P : Program} {w : World} {K : PySem.W.Frag} {mg : Str → Option Value} {base : Heap} {cl : Cl} {f : Addr} {fd : FuncData} (Fc : Fac K mg cl) (F : FnP K "is_single" (topS 14) f fd) (hm : mg "is_single" = some (.ref f)) (C_is_key : Cal P w K mg base cl "is_key" ["thing"] 2 f_is_key) (C_is_word : Cal P w K mg base cl "is_word" ["thing"] 1 f_is_word) : FnOk P w K mg base (L2.CX P w) 3 f fd ["thing"] (spOf K cl 1 f_is_single) := by
  replace C_is_word := C_is_word.up (lv' := 2) (by decide)
  refine (fn_ok (N := N_is_single) (ps := ["thing"]) (b := m_is_single) (k := 2) F sc_is_single fun cdv A outer s H E hr => ?_).imp sp_cut
  have hu : (cxOf (L2.CX P w) P w K mg base N_is_single "is_single" (defScope (topS 14)) f cdv A outer s H E).A.units + 64 < cLine := hr.units
  have tk : Takes (cxOf (L2.CX P w) P w K mg base N_is_single "is_single" (defScope (topS 14)) f cdv A outer s H E) (fun c d _ H => E c d H) := takes_of rfl rfl rfl rfl
  exact s_cons (s_if ((w_or (t_not (t_val (v_isi ok_tuple Fc.isinstance Fc.tuple boot_tuple (v_var 0)))) (w_or (t_cmp op_lt ops_lt (v_callB call_len cas_len Fc.len boot_len (a_cons (v_var 0) (a_nil))) (v_int)) (w_or (t_not (t_val (v_isi ok_str Fc.isinstance Fc.str boot_str (v_ix (v_var 0) (v_int))))) (w_or1 (t_not (t_val (v_call C_is_key hr tk (a_cons (v_ix (v_var 0) (v_int)) (a_nil))))))))).pt) (s_one (s_ret (v_bl))) (s_nil)) (s_one (s_ret (v_or (v_and (v_cmp (op_eqP hu) ops_eq (v_ix (v_var 0) (v_int)) (v_str)) (v_one (v_cmp (op_eqP hu) ops_eq (v_callB call_len cas_len Fc.len boot_len (a_cons (v_var 0) (a_nil))) (v_int)))) (v_one (v_and (v_cmp (op_eqP hu) ops_eq (v_ix (v_var 0) (v_int)) (v_str)) (v_and (v_cmp (op_eqP hu) ops_eq (v_callB call_len cas_len Fc.len boot_len (a_cons (v_var 0) (a_nil))) (v_int)) (v_one (v_call C_is_word hr tk (a_cons (v_ix (v_var 0) (v_int)) (a_nil))))))))))
theorem ok_is_single {P : Program} {w : World} {K : PySem.W.Frag} {mg : Str → Option Value} {base : Heap} {cl : Cl} {f : Addr} {fd : FuncData} (Fc : Fac K mg cl) (F : FnP K "is_single" (topS 14) f fd) (hm : mg "is_single" = some (.ref f)) (C_is_key : Cal P w K mg base cl "is_key" ["thing"] 2 f_is_key) (C_is_word : Cal P w K mg base cl "is_word" ["thing"] 1 f_is_word) : Cal P w K mg base cl "is_single" ["thing"] 3 f_is_single := ⟨f, fd, hm, F.kp, (F.bindsN fun _ _ _ _ _ _ us hl => match us, hl with | [_], _ => rfl), fo_is_single Fc F hm C_is_key C_is_word⟩
theorem sc_is_record : FnScope N_is_record ["thing"] (defScope (topS 15)) := ⟨rfl, rfl, rfl, by decide +kernel, rfl, by decide +kernel, by decide +kernel⟩
theorem fo_is_record {P : Program} {w : World} {K : PySem.W.Frag} {mg : Str → Option Value} {base : Heap} {cl : Cl} {f : Addr} {fd : FuncData} (Fc : Fac K mg cl) (F : FnP K "is_record" (topS 15) f fd) (hm : mg "is_record" = some (.ref f)) (C_is_single : Cal P w K mg base cl "is_single" ["thing"] 3 f_is_single) (C_is_from : Cal P w K mg base cl "is_from" ["thing", "least"] 2 f_is_from) : FnOk P w K mg base (L2.CX P w) 4 f fd ["thing"] (spOf K cl 1 f_is_record) := by
  replace C_is_from := C_is_from.up (lv' := 3) (by decide)
  refine (fn_ok (N := N_is_record) (ps := ["thing"]) (b := m_is_record) (k := 3) F sc_is_record fun cdv A outer s H E hr => ?_).imp sp_cut
  have hu : (cxOf (L2.CX P w) P w K mg base N_is_record "is_record" (defScope (topS 15)) f cdv A outer s H E).A.units + 64 < cLine := hr.units
  have tk : Takes (cxOf (L2.CX P w) P w K mg base N_is_record "is_record" (defScope (topS 15)) f cdv A outer s H E) (fun c d _ H => E c d H) := takes_of rfl rfl rfl rfl
  exact s_cons (s_if ((w_or (t_not (t_val (v_isi ok_tuple Fc.isinstance Fc.tuple boot_tuple (v_var 0)))) (w_or (t_cmp (op_eqP hu) ops_eq (v_callB call_len cas_len Fc.len boot_len (a_cons (v_var 0) (a_nil))) (v_int)) (w_or1 (t_not (t_val (v_isi ok_str Fc.isinstance Fc.str boot_str (v_ix (v_var 0) (v_int)))))))).pt) (s_one (s_ret (v_bl))) (s_nil)) (s_cons (s_if (t_cmp (op_eqP hu) ops_eq (v_ix (v_var 0) (v_int)) (v_str)) (s_one (s_ret (v_cmp (op_eqP hu) ops_eq (v_callB call_len cas_len Fc.len boot_len (a_cons (v_var 0) (a_nil))) (v_int)))) (s_nil)) (s_one (s_ret (v_and (v_cmp op_gt ops_gt (v_callB call_len cas_len Fc.len boot_len (a_cons (v_var 0) (a_nil))) (v_int)) (v_and (v_call C_is_single hr tk (a_cons (v_sl (v_var 0) o_none (o_some (v_neg (v_int)))) (a_nil))) (v_and (v_call C_is_from hr tk (a_cons (v_ix (v_var 0) (v_neg (v_int))) (a_cons (v_int) (a_nil)))) (v_one (v_call C_is_from hr tk (a_cons (v_ix (v_var 0) (v_neg (v_int))) (a_cons (v_int) (a_nil)))))))))))
theorem ok_is_record {P : Program} {w : World} {K : PySem.W.Frag} {mg : Str → Option Value} {base : Heap} {cl : Cl} {f : Addr} {fd : FuncData} (Fc : Fac K mg cl) (F : FnP K "is_record" (topS 15) f fd) (hm : mg "is_record" = some (.ref f)) (C_is_single : Cal P w K mg base cl "is_single" ["thing"] 3 f_is_single) (C_is_from : Cal P w K mg base cl "is_from" ["thing", "least"] 2 f_is_from) : Cal P w K mg base cl "is_record" ["thing"] 4 f_is_record := ⟨f, fd, hm, F.kp, (F.bindsN fun _ _ _ _ _ _ us hl => match us, hl with | [_], _ => rfl), fo_is_record Fc F hm C_is_single C_is_from⟩
theorem sc_is_shape : FnScope N_is_shape ["thing"] (defScope (topS 17)) := ⟨rfl, rfl, rfl, by decide +kernel, rfl, by decide +kernel, by decide +kernel⟩
theorem fo_is_shape {P : Program} {w : World} {K : PySem.W.Frag} {mg : Str → Option Value} {base : Heap} {cl : Cl} {f : Addr} {fd : FuncData} (Fc : Fac K mg cl) (F : FnP K "is_shape" (topS 17) f fd) (hm : mg "is_shape" = some (.ref f)) (C_is_long : Cal P w K mg base cl "is_long" ["thing", "length"] 1 f_is_long) (C_is_from : Cal P w K mg base cl "is_from" ["thing", "least"] 2 f_is_from) (C_is_within : Cal P w K mg base cl "is_within" ["thing", "least", "most"] 2 f_is_within) : FnOk P w K mg base (L2.CX P w) 3 f fd ["thing"] (spOf K cl 1 f_is_shape) := by
  replace C_is_long := C_is_long.up (lv' := 2) (by decide)
  refine (fn_ok (N := N_is_shape) (ps := ["thing"]) (b := m_is_shape) (k := 2) F sc_is_shape fun cdv A outer s H E hr => ?_).imp sp_cut
  have tk : Takes (cxOf (L2.CX P w) P w K mg base N_is_shape "is_shape" (defScope (topS 17)) f cdv A outer s H E) (fun c d _ H => E c d H) := takes_of rfl rfl rfl rfl
  exact s_cons (s_if ((w_or (t_not (t_val (v_call C_is_long hr tk (a_cons (v_var 0) (a_cons (v_int) (a_nil)))))) (w_or (t_not (t_val (v_call C_is_from hr tk (a_cons (v_ix (v_var 0) (v_int)) (a_cons (v_int) (a_nil)))))) (w_or1 (t_not (t_val (v_call C_is_within hr tk (a_cons (v_ix (v_var 0) (v_int)) (a_cons (v_int) (a_cons (v_op op_sub ops_sub (v_ix (v_var 0) (v_int)) (v_int)) (a_nil)))))))))).pt) (s_one (s_ret (v_bl))) (s_nil)) (s_one (s_ret (v_call C_is_from hr tk (a_cons (v_ix (v_var 0) (v_int)) (a_cons (v_int) (a_nil))))))
theorem ok_is_shape {P : Program} {w : World} {K : PySem.W.Frag} {mg : Str → Option Value} {base : Heap} {cl : Cl} {f : Addr} {fd : FuncData} (Fc : Fac K mg cl) (F : FnP K "is_shape" (topS 17) f fd) (hm : mg "is_shape" = some (.ref f)) (C_is_long : Cal P w K mg base cl "is_long" ["thing", "length"] 1 f_is_long) (C_is_from : Cal P w K mg base cl "is_from" ["thing", "least"] 2 f_is_from) (C_is_within : Cal P w K mg base cl "is_within" ["thing", "least", "most"] 2 f_is_within) : Cal P w K mg base cl "is_shape" ["thing"] 3 f_is_shape := ⟨f, fd, hm, F.kp, (F.bindsN fun _ _ _ _ _ _ us hl => match us, hl with | [_], _ => rfl), fo_is_shape Fc F hm C_is_long C_is_from C_is_within⟩
theorem sc_sure_shape : FnScope N_sure_shape ["shape"] (defScope (topS 18)) := ⟨rfl, rfl, rfl, by decide +kernel, rfl, by decide +kernel, by decide +kernel⟩
theorem fo_sure_shape {P : Program} {w : World} {K : PySem.W.Frag} {mg : Str → Option Value} {base : Heap} {cl : Cl} {f : Addr} {fd : FuncData} (Fc : Fac K mg cl) (F : FnP K "sure_shape" (topS 18) f fd) (hm : mg "sure_shape" = some (.ref f)) (C_tupled : Cal P w K mg base cl "tupled" ["value"] 9 (f_tupled 8)) (C_is_shape : Cal P w K mg base cl "is_shape" ["thing"] 3 f_is_shape) : FnOk P w K mg base (L2.CX P w) 10 f fd ["shape"] (spOf K cl 1 f_sure_shape) := by
  replace C_is_shape := C_is_shape.up (lv' := 9) (by decide)
  refine (fn_ok (N := N_sure_shape) (ps := ["shape"]) (b := m_sure_shape) (k := 9) F sc_sure_shape fun cdv A outer s H E hr => ?_).imp sp_cut
  have tk : Takes (cxOf (L2.CX P w) P w K mg base N_sure_shape "sure_shape" (defScope (topS 18)) f cdv A outer s H E) (fun c d _ H => E c d H) := takes_of rfl rfl rfl rfl
  exact s_cons (s_asg (v_call C_tupled hr tk (a_cons (v_var 0) (a_nil))) (g_nm 1 sc_sure_shape.nd)) (s_cons (s_if (t_not (t_val (v_call C_is_shape hr tk (a_cons (v_var 1) (a_nil))))) (s_one (s_raise rfl tk Fc.er_Unfit)) (s_nil)) (s_one (s_ret (v_var 1))))
theorem ok_sure_shape {P : Program} {w : World} {K : PySem.W.Frag} {mg : Str → Option Value} {base : Heap} {cl : Cl} {f : Addr} {fd : FuncData} (Fc : Fac K mg cl) (F : FnP K "sure_shape" (topS 18) f fd) (hm : mg "sure_shape" = some (.ref f)) (C_tupled : Cal P w K mg base cl "tupled" ["value"] 9 (f_tupled 8)) (C_is_shape : Cal P w K mg base cl "is_shape" ["thing"] 3 f_is_shape) : Cal P w K mg base cl "sure_shape" ["shape"] 10 f_sure_shape := ⟨f, fd, hm, F.kp, (F.bindsN fun _ _ _ _ _ _ us hl => match us, hl with | [_], _ => rfl), fo_sure_shape Fc F hm C_tupled C_is_shape⟩
theorem sc_mark_in : FnScope N_mark_in ["shape", "number"] (defScope (topS 19)) := ⟨rfl, rfl, rfl, by decide +kernel, rfl, by decide +kernel, by decide +kernel⟩
theorem fo_mark_in {P : Program} {w : World} {K : PySem.W.Frag} {mg : Str → Option Value} {base : Heap} {cl : Cl} {f : Addr} {fd : FuncData} (Fc : Fac K mg cl) (F : FnP K "mark_in" (topS 19) f fd) (hm : mg "mark_in" = some (.ref f)) : FnOk P w K mg base (L2.CX P w) 1 f fd ["shape", "number"] (spOf K cl 2 f_mark_in) := by
  refine (fn_ok (N := N_mark_in) (ps := ["shape", "number"]) (b := m_mark_in) (k := 0) F sc_mark_in fun cdv A outer s H E hr => ?_).imp sp_cut
  exact s_one (s_ret (v_op op_mod ops_mod (v_op op_fdiv ops_div (v_var 1) (v_ix (v_var 0) (v_int))) (v_ix (v_var 0) (v_int))))
theorem ok_mark_in {P : Program} {w : World} {K : PySem.W.Frag} {mg : Str → Option Value} {base : Heap} {cl : Cl} {f : Addr} {fd : FuncData} (Fc : Fac K mg cl) (F : FnP K "mark_in" (topS 19) f fd) (hm : mg "mark_in" = some (.ref f)) : Cal P w K mg base cl "mark_in" ["shape", "number"] 1 f_mark_in := ⟨f, fd, hm, F.kp, (F.bindsN fun _ _ _ _ _ _ us hl => match us, hl with | [_, _], _ => rfl), fo_mark_in Fc F hm⟩
theorem sc_is_told_cell : FnScope N_is_told_cell ["thing"] (defScope (topS 24)) := ⟨rfl, rfl, rfl, by decide +kernel, rfl, by decide +kernel, by decide +kernel⟩
theorem fo_is_told_cell {P : Program} {w : World} {K : PySem.W.Frag} {mg : Str → Option Value} {base : Heap} {cl : Cl} {f : Addr} {fd : FuncData} (Fc : Fac K mg cl) (F : FnP K "is_told_cell" (topS 24) f fd) (hm : mg "is_told_cell" = some (.ref f)) (C_is_long : Cal P w K mg base cl "is_long" ["thing", "length"] 1 f_is_long) (C_is_from : Cal P w K mg base cl "is_from" ["thing", "least"] 2 f_is_from) (C_is_record : Cal P w K mg base cl "is_record" ["thing"] 4 f_is_record) : FnOk P w K mg base (L2.CX P w) 5 f fd ["thing"] (spOf K cl 1 f_is_told_cell) := by
  replace C_is_long := C_is_long.up (lv' := 4) (by decide)
  replace C_is_from := C_is_from.up (lv' := 4) (by decide)
  refine (fn_ok (N := N_is_told_cell) (ps := ["thing"]) (b := m_is_told_cell) (k := 4) F sc_is_told_cell fun cdv A outer s H E hr => ?_).imp sp_cut
  have hu : (cxOf (L2.CX P w) P w K mg base N_is_told_cell "is_told_cell" (defScope (topS 24)) f cdv A outer s H E).A.units + 64 < cLine := hr.units
  have tk : Takes (cxOf (L2.CX P w) P w K mg base N_is_told_cell "is_told_cell" (defScope (topS 24)) f cdv A outer s H E) (fun c d _ H => E c d H) := takes_of rfl rfl rfl rfl
  exact s_one (s_ret (v_or (v_cmp (op_eqP hu) ops_eq (v_var 0) (v_gd Fc.c_TORN_devices)) (v_one (v_and (v_call C_is_long hr tk (a_cons (v_var 0) (a_cons (v_int) (a_nil)))) (v_and (v_call C_is_from hr tk (a_cons (v_ix (v_var 0) (v_int)) (a_cons (v_int) (a_nil)))) (v_one (v_call C_is_record hr tk (a_cons (v_ix (v_var 0) (v_int)) (a_nil)))))))))
theorem ok_is_told_cell {P : Program} {w : World} {K : PySem.W.Frag} {mg : Str → Option Value} {base : Heap} {cl : Cl} {f : Addr} {fd : FuncData} (Fc : Fac K mg cl) (F : FnP K "is_told_cell" (topS 24) f fd) (hm : mg "is_told_cell" = some (.ref f)) (C_is_long : Cal P w K mg base cl "is_long" ["thing", "length"] 1 f_is_long) (C_is_from : Cal P w K mg base cl "is_from" ["thing", "least"] 2 f_is_from) (C_is_record : Cal P w K mg base cl "is_record" ["thing"] 4 f_is_record) : Cal P w K mg base cl "is_told_cell" ["thing"] 5 f_is_told_cell := ⟨f, fd, hm, F.kp, (F.bindsN fun _ _ _ _ _ _ us hl => match us, hl with | [_], _ => rfl), fo_is_told_cell Fc F hm C_is_long C_is_from C_is_record⟩
theorem sc_is_cell_in : FnScope N_is_cell_in ["shape", "thing"] (defScope (topS 25)) := ⟨rfl, rfl, rfl, by decide +kernel, rfl, by decide +kernel, by decide +kernel⟩
theorem fo_is_cell_in {P : Program} {w : World} {K : PySem.W.Frag} {mg : Str → Option Value} {base : Heap} {cl : Cl} {f : Addr} {fd : FuncData} (Fc : Fac K mg cl) (F : FnP K "is_cell_in" (topS 25) f fd) (hm : mg "is_cell_in" = some (.ref f)) (C_is_told_cell : Cal P w K mg base cl "is_told_cell" ["thing"] 5 f_is_told_cell) : FnOk P w K mg base (L2.CX P w) 6 f fd ["shape", "thing"] (spOf K cl 2 f_is_cell_in) := by
  refine (fn_ok (N := N_is_cell_in) (ps := ["shape", "thing"]) (b := m_is_cell_in) (k := 5) F sc_is_cell_in fun cdv A outer s H E hr => ?_).imp sp_cut
  have hu : (cxOf (L2.CX P w) P w K mg base N_is_cell_in "is_cell_in" (defScope (topS 25)) f cdv A outer s H E).A.units + 64 < cLine := hr.units
  have tk : Takes (cxOf (L2.CX P w) P w K mg base N_is_cell_in "is_cell_in" (defScope (topS 25)) f cdv A outer s H E) (fun c d _ H => E c d H) := takes_of rfl rfl rfl rfl
  exact s_one (s_ret (v_and (v_call C_is_told_cell hr tk (a_cons (v_var 1) (a_nil))) (v_one (v_or (v_cmp (op_eqP hu) ops_eq (v_var 1) (v_gd Fc.c_TORN_devices)) (v_one (v_cmp op_lt ops_lt (v_ix (v_var 1) (v_int)) (v_ix (v_var 0) (v_int))))))))
theorem ok_is_cell_in {P : Program} {w : World} {K : PySem.W.Frag} {mg : Str → Option Value} {base : Heap} {cl : Cl} {f : Addr} {fd : FuncData} (Fc : Fac K mg cl) (F : FnP K "is_cell_in" (topS 25) f fd) (hm : mg "is_cell_in" = some (.ref f)) (C_is_told_cell : Cal P w K mg base cl "is_told_cell" ["thing"] 5 f_is_told_cell) : Cal P w K mg base cl "is_cell_in" ["shape", "thing"] 6 f_is_cell_in := ⟨f, fd, hm, F.kp, (F.bindsN fun _ _ _ _ _ _ us hl => match us, hl with | [_, _], _ => rfl), fo_is_cell_in Fc F hm C_is_told_cell⟩
theorem sc_is_picture_in : FnScope N_is_picture_in ["shape", "thing"] (defScope (topS 26)) := ⟨rfl, rfl, rfl, by decide +kernel, rfl, by decide +kernel, by decide +kernel⟩
theorem fo_is_picture_in {P : Program} {w : World} {K : PySem.W.Frag} {mg : Str → Option Value} {base : Heap} {cl : Cl} {f : Addr} {fd : FuncData} (Fc : Fac K mg cl) (F : FnP K "is_picture_in" (topS 26) f fd) (hm : mg "is_picture_in" = some (.ref f)) (C_is_long : Cal P w K mg base cl "is_long" ["thing", "length"] 1 f_is_long) (C_is_cell_in : Cal P w K mg base cl "is_cell_in" ["shape", "thing"] 6 f_is_cell_in) : FnOk P w K mg base (L2.CX P w) 7 f fd ["shape", "thing"] (spOf K cl 2 f_is_picture_in) := by
  replace C_is_long := C_is_long.up (lv' := 6) (by decide)
  refine (fn_ok (N := N_is_picture_in) (ps := ["shape", "thing"]) (b := m_is_picture_in) (k := 6) F sc_is_picture_in fun cdv A outer s H E hr => ?_).imp sp_cut
  have tk : Takes (cxOf (L2.CX P w) P w K mg base N_is_picture_in "is_picture_in" (defScope (topS 26)) f cdv A outer s H E) (fun c d _ H => E c d H) := takes_of rfl rfl rfl rfl
  exact s_one (s_ret (v_and (v_call C_is_long hr tk (a_cons (v_var 1) (a_cons (v_ix (v_var 0) (v_int)) (a_nil)))) (v_one (v_callB (cr_all rfl) cas_all Fc.all boot_all (a_cons (v_lc1 rfl sc_is_picture_in.nd (i_seq (v_var 1)) (blkOk_by (N := N_is_picture_in) (sc := defScope (topS 26)) (own := [("own", 2)]) (by decide +kernel)) (fun _ _ _ _ _ => pg_name (i := 2) sc_is_picture_in.nd rfl (Or.inl rfl)) (fun _ _ _ _ _ => ts_nil) (fun _ _ _ _ _ => v_call C_is_cell_in hr takes0 (a_cons (v_var 0) (a_cons (v_var 2) (a_nil))))) (a_nil))))))
theorem ok_is_picture_in {P : Program} {w : World} {K : PySem.W.Frag} {mg : Str → Option Value} {base : Heap} {cl : Cl} {f : Addr} {fd : FuncData} (Fc : Fac K mg cl) (F : FnP K "is_picture_in" (topS 26) f fd) (hm : mg "is_picture_in" = some (.ref f)) (C_is_long : Cal P w K mg base cl "is_long" ["thing", "length"] 1 f_is_long) (C_is_cell_in : Cal P w K mg base cl "is_cell_in" ["shape", "thing"] 6 f_is_cell_in) : Cal P w K mg base cl "is_picture_in" ["shape", "thing"] 7 f_is_picture_in := ⟨f, fd, hm, F.kp, (F.bindsN fun _ _ _ _ _ _ us hl => match us, hl with | [_, _], _ => rfl), fo_is_picture_in Fc F hm C_is_long C_is_cell_in⟩
theorem sc_sure_picture : FnScope N_sure_picture ["shape", "picture"] (defScope (topS 27)) := ⟨rfl, rfl, rfl, by decide +kernel, rfl, by decide +kernel, by decide +kernel⟩
theorem fo_sure_picture {P : Program} {w : World} {K : PySem.W.Frag} {mg : Str → Option Value} {base : Heap} {cl : Cl} {f : Addr} {fd : FuncData} (Fc : Fac K mg cl) (F : FnP K "sure_picture" (topS 27) f fd) (hm : mg "sure_picture" = some (.ref f)) (C_tupled : Cal P w K mg base cl "tupled" ["value"] 9 (f_tupled 8)) (C_is_picture_in : Cal P w K mg base cl "is_picture_in" ["shape", "thing"] 7 f_is_picture_in) : FnOk P w K mg base (L2.CX P w) 10 f fd ["shape", "picture"] (spOf K cl 2 f_sure_picture) := by
  replace C_is_picture_in := C_is_picture_in.up (lv' := 9) (by decide)
  refine (fn_ok (N := N_sure_picture) (ps := ["shape", "picture"]) (b := m_sure_picture) (k := 9) F sc_sure_picture fun cdv A outer s H E hr => ?_).imp sp_cut
  have tk : Takes (cxOf (L2.CX P w) P w K mg base N_sure_picture "sure_picture" (defScope (topS 27)) f cdv A outer s H E) (fun c d _ H => E c d H) := takes_of rfl rfl rfl rfl
  exact s_cons (s_asg (v_call C_tupled hr tk (a_cons (v_var 1) (a_nil))) (g_nm 2 sc_sure_picture.nd)) (s_cons (s_if (t_not (t_val (v_call C_is_picture_in hr tk (a_cons (v_var 0) (a_cons (v_var 2) (a_nil)))))) (s_one (s_raise rfl tk Fc.er_Unfit)) (s_nil)) (s_one (s_ret (v_var 2))))
theorem ok_sure_picture {P : Program} {w : World} {K : PySem.W.Frag} {mg : Str → Option Value} {base : Heap} {cl : Cl} {f : Addr} {fd : FuncData} (Fc : Fac K mg cl) (F : FnP K "sure_picture" (topS 27) f fd) (hm : mg "sure_picture" = some (.ref f)) (C_tupled : Cal P w K mg base cl "tupled" ["value"] 9 (f_tupled 8)) (C_is_picture_in : Cal P w K mg base cl "is_picture_in" ["shape", "thing"] 7 f_is_picture_in) : Cal P w K mg base cl "sure_picture" ["shape", "picture"] 10 f_sure_picture := ⟨f, fd, hm, F.kp, (F.bindsN fun _ _ _ _ _ _ us hl => match us, hl with | [_, _], _ => rfl), fo_sure_picture Fc F hm C_tupled C_is_picture_in⟩
theorem sc_are_fates : FnScope N_are_fates ["many", "thing"] (defScope (topS 28)) := ⟨rfl, rfl, rfl, by decide +kernel, rfl, by decide +kernel, by decide +kernel⟩
theorem fo_are_fates {P : Program} {w : World} {K : PySem.W.Frag} {mg : Str → Option Value} {base : Heap} {cl : Cl} {f : Addr} {fd : FuncData} (Fc : Fac K mg cl) (F : FnP K "are_fates" (topS 28) f fd) (hm : mg "are_fates" = some (.ref f)) (C_is_long : Cal P w K mg base cl "is_long" ["thing", "length"] 1 f_is_long) : FnOk P w K mg base (L2.CX P w) 2 f fd ["many", "thing"] (spOf K cl 2 f_are_fates) := by
  refine (fn_ok (N := N_are_fates) (ps := ["many", "thing"]) (b := m_are_fates) (k := 1) F sc_are_fates fun cdv A outer s H E hr => ?_).imp sp_cut
  have hu : (cxOf (L2.CX P w) P w K mg base N_are_fates "are_fates" (defScope (topS 28)) f cdv A outer s H E).A.units + 64 < cLine := hr.units
  have tk : Takes (cxOf (L2.CX P w) P w K mg base N_are_fates "are_fates" (defScope (topS 28)) f cdv A outer s H E) (fun c d _ H => E c d H) := takes_of rfl rfl rfl rfl
  exact s_cons (s_if (t_not (t_val (v_call C_is_long hr tk (a_cons (v_var 1) (a_cons (v_var 0) (a_nil)))))) (s_one (s_ret (v_bl))) (s_nil)) (s_one (s_ret (v_callB (cr_all rfl) cas_all Fc.all boot_all (a_cons (v_lc1 rfl sc_are_fates.nd (i_seq (v_var 1)) (blkOk_by (N := N_are_fates) (sc := defScope (topS 28)) (own := [("own", 2)]) (by decide +kernel)) (fun _ _ _ _ _ => pg_name (i := 2) sc_are_fates.nd rfl (Or.inl rfl)) (fun _ _ _ _ _ => ts_nil) (fun _ _ _ _ _ => v_and (v_isi ok_str Fc.isinstance Fc.str boot_str (v_var 2)) (v_one (v_cmp (op_inP hu) ops_in (v_var 2) (v_tup (a_cons (v_gd Fc.c_OLD) (a_cons (v_gd Fc.c_NEW) (a_cons (v_ix (v_gd Fc.c_TORN_devices) (v_int)) (a_nil))))))))) (a_nil)))))
theorem ok_are_fates {P : Program} {w : World} {K : PySem.W.Frag} {mg : Str → Option Value} {base : Heap} {cl : Cl} {f : Addr} {fd : FuncData} (Fc : Fac K mg cl) (F : FnP K "are_fates" (topS 28) f fd) (hm : mg "are_fates" = some (.ref f)) (C_is_long : Cal P w K mg base cl "is_long" ["thing", "length"] 1 f_is_long) : Cal P w K mg base cl "are_fates" ["many", "thing"] 2 f_are_fates := ⟨f, fd, hm, F.kp, (F.bindsN fun _ _ _ _ _ _ us hl => match us, hl with | [_, _], _ => rfl), fo_are_fates Fc F hm C_is_long⟩
theorem sc_fallen : FnScope N_fallen ["picture", "writes", "fates"] (defScope (topS 29)) := ⟨rfl, rfl, rfl, by decide +kernel, rfl, by decide +kernel, by decide +kernel⟩
theorem fo_fallen {P : Program} {w : World} {K : PySem.W.Frag} {mg : Str → Option Value} {base : Heap} {cl : Cl} {f : Addr} {fd : FuncData} (Fc : Fac K mg cl) (F : FnP K "fallen" (topS 29) f fd) (hm : mg "fallen" = some (.ref f)) : FnOk P w K mg base (L2.CX P w) 1 f fd ["picture", "writes", "fates"] (spOf K cl 3 f_fallen) := by
  refine (fn_ok (N := N_fallen) (ps := ["picture", "writes", "fates"]) (b := m_fallen) (k := 0) F sc_fallen fun cdv A outer s H E hr => ?_).imp sp_cut
  have hu : (cxOf (L2.CX P w) P w K mg base N_fallen "fallen" (defScope (topS 29)) f cdv A outer s H E).A.units + 64 < cLine := hr.units
  have hp : PassesOwn (model P w) (cxOf (L2.CX P w) P w K mg base N_fallen "fallen" (defScope (topS 29)) f cdv A outer s H E).A (cxOf (L2.CX P w) P w K mg base N_fallen "fallen" (defScope (topS 29)) f cdv A outer s H E).env (cxOf (L2.CX P w) P w K mg base N_fallen "fallen" (defScope (topS 29)) f cdv A outer s H E).xe := passes_of rfl
  exact s_cons (s_asg (v_callTy call_list_of cas_listOfO Fc.list boot_list (a_cons (v_var 0) (a_nil))) (g_nm 3 sc_fallen.nd)) (s_cons (s_for hp rfl (i_zip Fc.zip (a_cons (v_var 1) (a_cons (v_var 2) (a_nil)))) (g_tp rfl (g_cs (g_tp rfl (g_cs (g_nm 4 sc_fallen.nd) (g_cs (g_nm 5 sc_fallen.nd) (g_nl)))) (g_cs (g_nm 6 sc_fallen.nd) (g_nl)))) (s_one (s_if (t_cmp (op_neP hu) ops_eq (v_var 6) (v_gd Fc.c_OLD)) (s_one (s_asg (v_if (t_cmp (op_eqP hu) ops_eq (v_var 6) (v_gd Fc.c_NEW)) (v_var 5) (v_gd Fc.c_TORN_devices)) (g_sb (v_var 3) (v_var 4)))) (s_nil)))) (s_one (s_ret (v_callTy call_tuple_of cas_tupleOf Fc.tuple boot_tuple (a_cons (v_var 3) (a_nil))))))
theorem ok_fallen {P : Program} {w : World} {K : PySem.W.Frag} {mg : Str → Option Value} {base : Heap} {cl : Cl} {f : Addr} {fd : FuncData} (Fc : Fac K mg cl) (F : FnP K "fallen" (topS 29) f fd) (hm : mg "fallen" = some (.ref f)) : Cal P w K mg base cl "fallen" ["picture", "writes", "fates"] 1 f_fallen := ⟨f, fd, hm, F.kp, (F.bindsN fun _ _ _ _ _ _ us hl => match us, hl with | [_, _, _], _ => rfl), fo_fallen Fc F hm⟩
theorem sc_shows_in : FnScope N_shows_in ["shape", "picture", "number"] (defScope (topS 31)) := ⟨rfl, rfl, rfl, by decide +kernel, rfl, by decide +kernel, by decide +kernel⟩
theorem fo_shows_in {P : Program} {w : World} {K : PySem.W.Frag} {mg : Str → Option Value} {base : Heap} {cl : Cl} {f : Addr} {fd : FuncData} (Fc : Fac K mg cl) (F : FnP K "shows_in" (topS 31) f fd) (hm : mg "shows_in" = some (.ref f)) (C_mark_in : Cal P w K mg base cl "mark_in" ["shape", "number"] 1 f_mark_in) : FnOk P w K mg base (L2.CX P w) 2 f fd ["shape", "picture", "number"] (spOf K cl 3 f_shows_in) := by
  refine (fn_ok (N := N_shows_in) (ps := ["shape", "picture", "number"]) (b := m_shows_in) (k := 1) F sc_shows_in fun cdv A outer s H E hr => ?_).imp sp_cut
  have hu : (cxOf (L2.CX P w) P w K mg base N_shows_in "shows_in" (defScope (topS 31)) f cdv A outer s H E).A.units + 64 < cLine := hr.units
  have tk : Takes (cxOf (L2.CX P w) P w K mg base N_shows_in "shows_in" (defScope (topS 31)) f cdv A outer s H E) (fun c d _ H => E c d H) := takes_of rfl rfl rfl rfl
  exact s_cons (s_asg (v_ix (v_var 1) (v_op op_mod ops_mod (v_var 2) (v_ix (v_var 0) (v_int)))) (g_nm 3 sc_shows_in.nd)) (s_one (s_ret (v_and (v_cmp (op_neP hu) ops_eq (v_var 3) (v_gd Fc.c_TORN_devices)) (v_one (v_cmp (op_eqP hu) ops_eq (v_ix (v_var 3) (v_int)) (v_call C_mark_in hr tk (a_cons (v_var 0) (a_cons (v_var 2) (a_nil)))))))))
theorem ok_shows_in {P : Program} {w : World} {K : PySem.W.Frag} {mg : Str → Option Value} {base : Heap} {cl : Cl} {f : Addr} {fd : FuncData} (Fc : Fac K mg cl) (F : FnP K "shows_in" (topS 31) f fd) (hm : mg "shows_in" = some (.ref f)) (C_mark_in : Cal P w K mg base cl "mark_in" ["shape", "number"] 1 f_mark_in) : Cal P w K mg base cl "shows_in" ["shape", "picture", "number"] 2 f_shows_in := ⟨f, fd, hm, F.kp, (F.bindsN fun _ _ _ _ _ _ us hl => match us, hl with | [_, _, _], _ => rfl), fo_shows_in Fc F hm C_mark_in⟩
theorem sc_run_in : FnScope N_run_in ["shape", "picture", "place"] (defScope (topS 32)) := ⟨rfl, rfl, rfl, by decide +kernel, rfl, by decide +kernel, by decide +kernel⟩
theorem fo_run_in {P : Program} {w : World} {K : PySem.W.Frag} {mg : Str → Option Value} {base : Heap} {cl : Cl} {f : Addr} {fd : FuncData} (Fc : Fac K mg cl) (F : FnP K "run_in" (topS 32) f fd) (hm : mg "run_in" = some (.ref f)) (C_shows_in : Cal P w K mg base cl "shows_in" ["shape", "picture", "number"] 2 f_shows_in) : FnOk P w K mg base (L2.CX P w) 3 f fd ["shape", "picture", "place"] (spOf K cl 3 f_run_in) := by
  refine (fn_ok (N := N_run_in) (ps := ["shape", "picture", "place"]) (b := m_run_in) (k := 2) F sc_run_in fun cdv A outer s H E hr => ?_).imp sp_cut
  have tk : Takes (cxOf (L2.CX P w) P w K mg base N_run_in "run_in" (defScope (topS 32)) f cdv A outer s H E) (fun c d _ H => E c d H) := takes_of rfl rfl rfl rfl
  have hp : PassesOwn (model P w) (cxOf (L2.CX P w) P w K mg base N_run_in "run_in" (defScope (topS 32)) f cdv A outer s H E).A (cxOf (L2.CX P w) P w K mg base N_run_in "run_in" (defScope (topS 32)) f cdv A outer s H E).env (cxOf (L2.CX P w) P w K mg base N_run_in "run_in" (defScope (topS 32)) f cdv A outer s H E).xe := passes_of rfl
  exact s_cons (s_asg (v_int) (g_nm 3 sc_run_in.nd)) (s_cons (s_while hp ((w_and (t_cmp op_lt ops_lt (v_var 3) (v_ix (v_var 0) (v_int))) (w_and1 (t_val (v_call C_shows_in hr tk (a_cons (v_var 0) (a_cons (v_var 1) (a_cons (v_op op_sub ops_sub (v_op op_sub ops_sub (v_var 2) (v_var 3)) (v_int)) (a_nil)))))))).pt) (s_one (s_asg (v_op op_add ops_add (v_var 3) (v_int)) (g_nm 3 sc_run_in.nd)))) (s_one (s_ret (v_var 3))))
theorem ok_run_in {P : Program} {w : World} {K : PySem.W.Frag} {mg : Str → Option Value} {base : Heap} {cl : Cl} {f : Addr} {fd : FuncData} (Fc : Fac K mg cl) (F : FnP K "run_in" (topS 32) f fd) (hm : mg "run_in" = some (.ref f)) (C_shows_in : Cal P w K mg base cl "shows_in" ["shape", "picture", "number"] 2 f_shows_in) : Cal P w K mg base cl "run_in" ["shape", "picture", "place"] 3 f_run_in := ⟨f, fd, hm, F.kp, (F.bindsN fun _ _ _ _ _ _ us hl => match us, hl with | [_, _, _], _ => rfl), fo_run_in Fc F hm C_shows_in⟩
theorem sc_places_in : FnScope N_places_in ["shape", "picture"] (defScope (topS 33)) := ⟨rfl, rfl, rfl, by decide +kernel, rfl, by decide +kernel, by decide +kernel⟩
theorem fo_places_in {P : Program} {w : World} {K : PySem.W.Frag} {mg : Str → Option Value} {base : Heap} {cl : Cl} {f : Addr} {fd : FuncData} (Fc : Fac K mg cl) (F : FnP K "places_in" (topS 33) f fd) (hm : mg "places_in" = some (.ref f)) (C_run_in : Cal P w K mg base cl "run_in" ["shape", "picture", "place"] 3 f_run_in) (C_shows_in : Cal P w K mg base cl "shows_in" ["shape", "picture", "number"] 2 f_shows_in) : FnOk P w K mg base (L2.CX P w) 4 f fd ["shape", "picture"] (spOf K cl 2 f_places_in) := by
  replace C_shows_in := C_shows_in.up (lv' := 3) (by decide)
  refine (fn_ok (N := N_places_in) (ps := ["shape", "picture"]) (b := m_places_in) (k := 3) F sc_places_in fun cdv A outer s H E hr => ?_).imp sp_frz
  have tk : Takes (cxOf (L2.CX P w) P w K mg base N_places_in "places_in" (defScope (topS 33)) f cdv A outer s H E) (fun c d _ H => E c d H) := takes_of rfl rfl rfl rfl
  have hp : PassesOwn (model P w) (cxOf (L2.CX P w) P w K mg base N_places_in "places_in" (defScope (topS 33)) f cdv A outer s H E).A (cxOf (L2.CX P w) P w K mg base N_places_in "places_in" (defScope (topS 33)) f cdv A outer s H E).env (cxOf (L2.CX P w) P w K mg base N_places_in "places_in" (defScope (topS 33)) f cdv A outer s H E).xe := passes_of rfl
  exact s_cons (s_par rfl sc_places_in.nd rfl rfl (by decide) rfl rfl (a_cons (v_lstO (a_nil)) (a_cons (v_call C_run_in hr tk (a_cons (v_var 0) (a_cons (v_var 1) (a_cons (v_int) (a_nil))))) (a_nil))) rfl) (s_cons (s_for hp rfl (i_rng1 Fc.range (a_cons (v_op op_mul ops_mul (v_ix (v_var 0) (v_int)) (v_ix (v_var 0) (v_int))) (a_nil))) (g_nm 4 sc_places_in.nd) (s_cons (s_if (t_cmp op_ge ops_ge (v_var 3) (v_op op_sub ops_sub (v_ix (v_var 0) (v_int)) (v_ix (v_var 0) (v_int)))) (s_one (s_app (v_var 2) (v_var 4))) (s_nil)) (s_one (s_asg (v_if (t_val (v_call C_shows_in hr tk (a_cons (v_var 0) (a_cons (v_var 1) (a_cons (v_var 4) (a_nil)))))) (v_op op_add ops_add (v_var 3) (v_int)) (v_int)) (g_nm 3 sc_places_in.nd))))) (s_one (s_ret (v_var 2))))
theorem ok_places_in {P : Program} {w : World} {K : PySem.W.Frag} {mg : Str → Option Value} {base : Heap} {cl : Cl} {f : Addr} {fd : FuncData} (Fc : Fac K mg cl) (F : FnP K "places_in" (topS 33) f fd) (hm : mg "places_in" = some (.ref f)) (C_run_in : Cal P w K mg base cl "run_in" ["shape", "picture", "place"] 3 f_run_in) (C_shows_in : Cal P w K mg base cl "shows_in" ["shape", "picture", "number"] 2 f_shows_in) : Cal P w K mg base cl "places_in" ["shape", "picture"] 4 f_places_in := ⟨f, fd, hm, F.kp, (F.bindsN fun _ _ _ _ _ _ us hl => match us, hl with | [_, _], _ => rfl), fo_places_in Fc F hm C_run_in C_shows_in⟩
theorem sc_gaps_in : FnScope N_gaps_in ["shape", "picture"] (defScope (topS 34)) := ⟨rfl, rfl, rfl, by decide +kernel, rfl, by decide +kernel, by decide +kernel⟩
theorem fo_gaps_in {P : Program} {w : World} {K : PySem.W.Frag} {mg : Str → Option Value} {base : Heap} {cl : Cl} {f : Addr} {fd : FuncData} (Fc : Fac K mg cl) (F : FnP K "gaps_in" (topS 34) f fd) (hm : mg "gaps_in" = some (.ref f)) (C_places_in : Cal P w K mg base cl "places_in" ["shape", "picture"] 4 f_places_in) : FnOk P w K mg base (L2.CX P w) 5 f fd ["shape", "picture"] (spOf K cl 2 f_gaps_in) := by
  refine (fn_ok (N := N_gaps_in) (ps := ["shape", "picture"]) (b := m_gaps_in) (k := 4) F sc_gaps_in fun cdv A outer s H E hr => ?_).imp sp_cut
  have tk : Takes (cxOf (L2.CX P w) P w K mg base N_gaps_in "gaps_in" (defScope (topS 34)) f cdv A outer s H E) (fun c d _ H => E c d H) := takes_of rfl rfl rfl rfl
  exact s_cons (s_asg (v_call C_places_in hr tk (a_cons (v_var 0) (a_cons (v_var 1) (a_nil)))) (g_nm 2 sc_gaps_in.nd)) (s_cons (s_asg (v_op op_cat ops_cat (v_sl (v_var 2) (o_some (v_int)) o_none) (v_lc1 rfl sc_gaps_in.nd (i_seq (v_sl (v_var 2) o_none (o_some (v_int)))) (blkOk_by (N := N_gaps_in) (sc := defScope (topS 34)) (own := [("place", 4)]) (by decide +kernel)) (fun _ _ _ _ _ => pg_name (i := 4) sc_gaps_in.nd rfl (Or.inl rfl)) (fun _ _ _ _ _ => ts_nil) (fun _ _ _ _ _ => v_op op_add ops_add (v_var 4) (v_op op_mul ops_mul (v_ix (v_var 0) (v_int)) (v_ix (v_var 0) (v_int)))))) (g_nm 3 sc_gaps_in.nd)) (s_one (s_ret (v_lc2 (by decide) rfl sc_gaps_in.nd (i_zip Fc.zip (a_cons (v_var 2) (a_cons (v_var 3) (a_nil)))) (blkOk_by (N := N_gaps_in) (sc := defScope (topS 34)) (own := [("place", 4), ("far", 5)]) (by decide +kernel)) (fun _ _ _ _ _ => pg_tup rfl (pgs_cons (pg_name (i := 4) sc_gaps_in.nd rfl (Or.inl rfl)) (pgs_cons (pg_name (i := 5) sc_gaps_in.nd rfl (Or.inl rfl)) pgs_nil))) (fun _ _ _ _ _ => ts_nil) (fun _ _ _ _ _ => v_tup (a_cons (v_var 4) (a_cons (v_op op_sub ops_sub (v_var 5) (v_var 4)) (a_nil))))))))
theorem ok_gaps_in {P : Program} {w : World} {K : PySem.W.Frag} {mg : Str → Option Value} {base : Heap} {cl : Cl} {f : Addr} {fd : FuncData} (Fc : Fac K mg cl) (F : FnP K "gaps_in" (topS 34) f fd) (hm : mg "gaps_in" = some (.ref f)) (C_places_in : Cal P w K mg base cl "places_in" ["shape", "picture"] 4 f_places_in) : Cal P w K mg base cl "gaps_in" ["shape", "picture"] 5 f_gaps_in := ⟨f, fd, hm, F.kp, (F.bindsN fun _ _ _ _ _ _ us hl => match us, hl with | [_, _], _ => rfl), fo_gaps_in Fc F hm C_places_in⟩
theorem sc_far_in : FnScope N_far_in ["shape", "picture"] (defScope (topS 35)) := ⟨rfl, rfl, rfl, by decide +kernel, rfl, by decide +kernel, by decide +kernel⟩
theorem fo_far_in {P : Program} {w : World} {K : PySem.W.Frag} {mg : Str → Option Value} {base : Heap} {cl : Cl} {f : Addr} {fd : FuncData} (Fc : Fac K mg cl) (F : FnP K "far_in" (topS 35) f fd) (hm : mg "far_in" = some (.ref f)) (C_gaps_in : Cal P w K mg base cl "gaps_in" ["shape", "picture"] 5 f_gaps_in) : FnOk P w K mg base (L2.CX P w) 6 f fd ["shape", "picture"] (spOf K cl 2 f_far_in) := by
  refine (fn_ok (N := N_far_in) (ps := ["shape", "picture"]) (b := m_far_in) (k := 5) F sc_far_in fun cdv A outer s H E hr => ?_).imp sp_cut
  have tk : Takes (cxOf (L2.CX P w) P w K mg base N_far_in "far_in" (defScope (topS 35)) f cdv A outer s H E) (fun c d _ H => E c d H) := takes_of rfl rfl rfl rfl
  exact s_one (s_ret (v_lc2 (by decide) rfl sc_far_in.nd (i_seq (v_call C_gaps_in hr tk (a_cons (v_var 0) (a_cons (v_var 1) (a_nil))))) (blkOk_by (N := N_far_in) (sc := defScope (topS 35)) (own := [("place", 2), ("steps", 3)]) (by decide +kernel)) (fun _ _ _ _ _ => pg_tup rfl (pgs_cons (pg_name (i := 2) sc_far_in.nd rfl (Or.inl rfl)) (pgs_cons (pg_name (i := 3) sc_far_in.nd rfl (Or.inl rfl)) pgs_nil))) (fun _ _ _ _ _ => ts_one (t_cmp op_gt ops_gt (v_var 3) (v_ix (v_var 0) (v_int)))) (fun _ _ _ _ _ => v_var 2)))
theorem ok_far_in {P : Program} {w : World} {K : PySem.W.Frag} {mg : Str → Option Value} {base : Heap} {cl : Cl} {f : Addr} {fd : FuncData} (Fc : Fac K mg cl) (F : FnP K "far_in" (topS 35) f fd) (hm : mg "far_in" = some (.ref f)) (C_gaps_in : Cal P w K mg base cl "gaps_in" ["shape", "picture"] 5 f_gaps_in) : Cal P w K mg base cl "far_in" ["shape", "picture"] 6 f_far_in := ⟨f, fd, hm, F.kp, (F.bindsN fun _ _ _ _ _ _ us hl => match us, hl with | [_, _], _ => rfl), fo_far_in Fc F hm C_gaps_in⟩
theorem sc_answer_in : FnScope N_answer_in ["shape", "picture"] (defScope (topS 36)) := ⟨rfl, rfl, rfl, by decide +kernel, rfl, by decide +kernel, by decide +kernel⟩
theorem fo_answer_in {P : Program} {w : World} {K : PySem.W.Frag} {mg : Str → Option Value} {base : Heap} {cl : Cl} {f : Addr} {fd : FuncData} (Fc : Fac K mg cl) (F : FnP K "answer_in" (topS 36) f fd) (hm : mg "answer_in" = some (.ref f)) (C_far_in : Cal P w K mg base cl "far_in" ["shape", "picture"] 6 f_far_in) : FnOk P w K mg base (L2.CX P w) 7 f fd ["shape", "picture"] (spOf K cl 2 f_answer_in) := by
  refine (fn_ok (N := N_answer_in) (ps := ["shape", "picture"]) (b := m_answer_in) (k := 6) F sc_answer_in fun cdv A outer s H E hr => ?_).imp sp_cut
  have hu : (cxOf (L2.CX P w) P w K mg base N_answer_in "answer_in" (defScope (topS 36)) f cdv A outer s H E).A.units + 64 < cLine := hr.units
  have tk : Takes (cxOf (L2.CX P w) P w K mg base N_answer_in "answer_in" (defScope (topS 36)) f cdv A outer s H E) (fun c d _ H => E c d H) := takes_of rfl rfl rfl rfl
  exact s_cons (s_asg (v_call C_far_in hr tk (a_cons (v_var 0) (a_cons (v_var 1) (a_nil)))) (g_nm 2 sc_answer_in.nd)) (s_one (s_ret (v_if (t_cmp (op_eqP hu) ops_eq (v_callB call_len cas_len Fc.len boot_len (a_cons (v_var 2) (a_nil))) (v_int)) (v_ix (v_var 2) (v_int)) (v_non))))
theorem ok_answer_in {P : Program} {w : World} {K : PySem.W.Frag} {mg : Str → Option Value} {base : Heap} {cl : Cl} {f : Addr} {fd : FuncData} (Fc : Fac K mg cl) (F : FnP K "answer_in" (topS 36) f fd) (hm : mg "answer_in" = some (.ref f)) (C_far_in : Cal P w K mg base cl "far_in" ["shape", "picture"] 6 f_far_in) : Cal P w K mg base cl "answer_in" ["shape", "picture"] 7 f_answer_in := ⟨f, fd, hm, F.kp, (F.bindsN fun _ _ _ _ _ _ us hl => match us, hl with | [_, _], _ => rfl), fo_answer_in Fc F hm C_far_in⟩
theorem sc_writes_at : FnScope N_writes_at ["shape", "picture", "place"] (defScope (topS 40)) := ⟨rfl, rfl, rfl, by decide +kernel, rfl, by decide +kernel, by decide +kernel⟩
theorem fo_writes_at {P : Program} {w : World} {K : PySem.W.Frag} {mg : Str → Option Value} {base : Heap} {cl : Cl} {f : Addr} {fd : FuncData} (Fc : Fac K mg cl) (F : FnP K "writes_at" (topS 40) f fd) (hm : mg "writes_at" = some (.ref f)) (C_shows_in : Cal P w K mg base cl "shows_in" ["shape", "picture", "number"] 2 f_shows_in) (C_mark_in : Cal P w K mg base cl "mark_in" ["shape", "number"] 1 f_mark_in) : FnOk P w K mg base (L2.CX P w) 3 f fd ["shape", "picture", "place"] (spOf K cl 3 f_writes_at) := by
  replace C_mark_in := C_mark_in.up (lv' := 2) (by decide)
  refine (fn_ok (N := N_writes_at) (ps := ["shape", "picture", "place"]) (b := m_writes_at) (k := 2) F sc_writes_at fun cdv A outer s H E hr => ?_).imp sp_cut
  have hu : (cxOf (L2.CX P w) P w K mg base N_writes_at "writes_at" (defScope (topS 40)) f cdv A outer s H E).A.units + 64 < cLine := hr.units
  have tk : Takes (cxOf (L2.CX P w) P w K mg base N_writes_at "writes_at" (defScope (topS 40)) f cdv A outer s H E) (fun c d _ H => E c d H) := takes_of rfl rfl rfl rfl
  have hp : PassesOwn (model P w) (cxOf (L2.CX P w) P w K mg base N_writes_at "writes_at" (defScope (topS 40)) f cdv A outer s H E).A (cxOf (L2.CX P w) P w K mg base N_writes_at "writes_at" (defScope (topS 40)) f cdv A outer s H E).env (cxOf (L2.CX P w) P w K mg base N_writes_at "writes_at" (defScope (topS 40)) f cdv A outer s H E).xe := passes_of rfl
  exact s_cons (s_asg (v_lstO (a_nil)) (g_nm 3 sc_writes_at.nd)) (s_cons (s_for hp rfl (i_rng2 Fc.range (a_cons (v_var 2) (a_cons (v_op op_add ops_add (v_var 2) (v_ix (v_var 0) (v_int))) (a_nil)))) (g_nm 4 sc_writes_at.nd) (s_cons (s_asg (v_op op_mod ops_mod (v_var 4) (v_ix (v_var 0) (v_int))) (g_nm 5 sc_writes_at.nd)) (s_one (s_if ((w_and (t_cmp (op_neP hu) ops_eq (v_ix (v_var 1) (v_var 5)) (v_gd Fc.c_TORN_log)) (w_and1 (t_not (t_val (v_call C_shows_in hr tk (a_cons (v_var 0) (a_cons (v_var 1) (a_cons (v_op op_sub ops_sub (v_var 4) (v_ix (v_var 0) (v_int))) (a_nil))))))))).pt) (s_one (s_app (v_var 3) (v_tup (a_cons (v_var 5) (a_cons (v_tup (a_cons (v_call C_mark_in hr tk (a_cons (v_var 0) (a_cons (v_op op_sub ops_sub (v_var 4) (v_ix (v_var 0) (v_int))) (a_nil)))) (a_cons (v_gd Fc.c_BLANK) (a_nil)))) (a_nil)))))) (s_nil))))) (s_one (s_ret (v_callTy call_tuple_of cas_tupleOf Fc.tuple boot_tuple (a_cons (v_var 3) (a_nil))))))
theorem ok_writes_at {P : Program} {w : World} {K : PySem.W.Frag} {mg : Str → Option Value} {base : Heap} {cl : Cl} {f : Addr} {fd : FuncData} (Fc : Fac K mg cl) (F : FnP K "writes_at" (topS 40) f fd) (hm : mg "writes_at" = some (.ref f)) (C_shows_in : Cal P w K mg base cl "shows_in" ["shape", "picture", "number"] 2 f_shows_in) (C_mark_in : Cal P w K mg base cl "mark_in" ["shape", "number"] 1 f_mark_in) : Cal P w K mg base cl "writes_at" ["shape", "picture", "place"] 3 f_writes_at := ⟨f, fd, hm, F.kp, (F.bindsN fun _ _ _ _ _ _ us hl => match us, hl with | [_, _, _], _ => rfl), fo_writes_at Fc F hm C_shows_in C_mark_in⟩
theorem sc_sure_both : FnScope N_sure_both ["shape", "picture"] (defScope (topS 42)) := ⟨rfl, rfl, rfl, by decide +kernel, rfl, by decide +kernel, by decide +kernel⟩
theorem fo_sure_both {P : Program} {w : World} {K : PySem.W.Frag} {mg : Str → Option Value} {base : Heap} {cl : Cl} {f : Addr} {fd : FuncData} (Fc : Fac K mg cl) (F : FnP K "sure_both" (topS 42) f fd) (hm : mg "sure_both" = some (.ref f)) (C_sure_shape : Cal P w K mg base cl "sure_shape" ["shape"] 10 f_sure_shape) (C_sure_picture : Cal P w K mg base cl "sure_picture" ["shape", "picture"] 10 f_sure_picture) : FnOk P w K mg base (L2.CX P w) 11 f fd ["shape", "picture"] (spOf K cl 2 f_sure_both) := by
  refine (fn_ok (N := N_sure_both) (ps := ["shape", "picture"]) (b := m_sure_both) (k := 10) F sc_sure_both fun cdv A outer s H E hr => ?_).imp sp_cut
  have tk : Takes (cxOf (L2.CX P w) P w K mg base N_sure_both "sure_both" (defScope (topS 42)) f cdv A outer s H E) (fun c d _ H => E c d H) := takes_of rfl rfl rfl rfl
  exact s_cons (s_asg (v_call C_sure_shape hr tk (a_cons (v_var 0) (a_nil))) (g_nm 2 sc_sure_both.nd)) (s_one (s_ret (v_tup (a_cons (v_var 2) (a_cons (v_call C_sure_picture hr tk (a_cons (v_var 2) (a_cons (v_var 1) (a_nil)))) (a_nil))))))
theorem ok_sure_both {P : Program} {w : World} {K : PySem.W.Frag} {mg : Str → Option Value} {base : Heap} {cl : Cl} {f : Addr} {fd : FuncData} (Fc : Fac K mg cl) (F : FnP K "sure_both" (topS 42) f fd) (hm : mg "sure_both" = some (.ref f)) (C_sure_shape : Cal P w K mg base cl "sure_shape" ["shape"] 10 f_sure_shape) (C_sure_picture : Cal P w K mg base cl "sure_picture" ["shape", "picture"] 10 f_sure_picture) : Cal P w K mg base cl "sure_both" ["shape", "picture"] 11 f_sure_both := ⟨f, fd, hm, F.kp, (F.bindsN fun _ _ _ _ _ _ us hl => match us, hl with | [_, _], _ => rfl), fo_sure_both Fc F hm C_sure_shape C_sure_picture⟩
theorem sc_sure_answer : FnScope N_sure_answer ["shape", "picture"] (defScope (topS 43)) := ⟨rfl, rfl, rfl, by decide +kernel, rfl, by decide +kernel, by decide +kernel⟩
theorem fo_sure_answer {P : Program} {w : World} {K : PySem.W.Frag} {mg : Str → Option Value} {base : Heap} {cl : Cl} {f : Addr} {fd : FuncData} (Fc : Fac K mg cl) (F : FnP K "sure_answer" (topS 43) f fd) (hm : mg "sure_answer" = some (.ref f)) (C_sure_both : Cal P w K mg base cl "sure_both" ["shape", "picture"] 11 f_sure_both) (C_answer_in : Cal P w K mg base cl "answer_in" ["shape", "picture"] 7 f_answer_in) : FnOk P w K mg base (L2.CX P w) 12 f fd ["shape", "picture"] (spOf K cl 2 f_sure_answer) := by
  replace C_answer_in := C_answer_in.up (lv' := 11) (by decide)
  refine (fn_ok (N := N_sure_answer) (ps := ["shape", "picture"]) (b := m_sure_answer) (k := 11) F sc_sure_answer fun cdv A outer s H E hr => ?_).imp sp_cut
  have tk : Takes (cxOf (L2.CX P w) P w K mg base N_sure_answer "sure_answer" (defScope (topS 43)) f cdv A outer s H E) (fun c d _ H => E c d H) := takes_of rfl rfl rfl rfl
  exact s_cons (s_asg (v_call C_sure_both hr tk (a_cons (v_var 0) (a_cons (v_var 1) (a_nil)))) (g_tp rfl (g_cs (g_nm 2 sc_sure_answer.nd) (g_cs (g_nm 3 sc_sure_answer.nd) (g_nl))))) (s_cons (s_asg (v_call C_answer_in hr tk (a_cons (v_var 2) (a_cons (v_var 3) (a_nil)))) (g_nm 4 sc_sure_answer.nd)) (s_cons (s_if (t_isN (v_var 4)) (s_one (s_raise rfl tk Fc.er_CanNot)) (s_nil)) (s_one (s_ret (v_tup (a_cons (v_var 2) (a_cons (v_var 3) (a_cons (v_var 4) (a_nil)))))))))
theorem ok_sure_answer {P : Program} {w : World} {K : PySem.W.Frag} {mg : Str → Option Value} {base : Heap} {cl : Cl} {f : Addr} {fd : FuncData} (Fc : Fac K mg cl) (F : FnP K "sure_answer" (topS 43) f fd) (hm : mg "sure_answer" = some (.ref f)) (C_sure_both : Cal P w K mg base cl "sure_both" ["shape", "picture"] 11 f_sure_both) (C_answer_in : Cal P w K mg base cl "answer_in" ["shape", "picture"] 7 f_answer_in) : Cal P w K mg base cl "sure_answer" ["shape", "picture"] 12 f_sure_answer := ⟨f, fd, hm, F.kp, (F.bindsN fun _ _ _ _ _ _ us hl => match us, hl with | [_, _], _ => rfl), fo_sure_answer Fc F hm C_sure_both C_answer_in⟩
theorem sc_mend_writes : FnScope N_mend_writes ["shape", "picture"] (defScope (topS 44)) := ⟨rfl, rfl, rfl, by decide +kernel, rfl, by decide +kernel, by decide +kernel⟩
theorem fo_mend_writes {P : Program} {w : World} {K : PySem.W.Frag} {mg : Str → Option Value} {base : Heap} {cl : Cl} {f : Addr} {fd : FuncData} (Fc : Fac K mg cl) (F : FnP K "mend_writes" (topS 44) f fd) (hm : mg "mend_writes" = some (.ref f)) (C_sure_answer : Cal P w K mg base cl "sure_answer" ["shape", "picture"] 12 f_sure_answer) (C_writes_at : Cal P w K mg base cl "writes_at" ["shape", "picture", "place"] 3 f_writes_at) : FnOk P w K mg base (L2.CX P w) 13 f fd ["shape", "picture"] (spOf K cl 2 f_mend_writes) := by
  replace C_writes_at := C_writes_at.up (lv' := 12) (by decide)
  refine (fn_ok (N := N_mend_writes) (ps := ["shape", "picture"]) (b := m_mend_writes) (k := 12) F sc_mend_writes fun cdv A outer s H E hr => ?_).imp sp_cut
  have tk : Takes (cxOf (L2.CX P w) P w K mg base N_mend_writes "mend_writes" (defScope (topS 44)) f cdv A outer s H E) (fun c d _ H => E c d H) := takes_of rfl rfl rfl rfl
  exact s_cons (s_asg (v_call C_sure_answer hr tk (a_cons (v_var 0) (a_cons (v_var 1) (a_nil)))) (g_tp rfl (g_cs (g_nm 2 sc_mend_writes.nd) (g_cs (g_nm 3 sc_mend_writes.nd) (g_cs (g_nm 4 sc_mend_writes.nd) (g_nl)))))) (s_one (s_ret (v_call C_writes_at hr tk (a_cons (v_var 2) (a_cons (v_var 3) (a_cons (v_var 4) (a_nil)))))))
theorem ok_mend_writes {P : Program} {w : World} {K : PySem.W.Frag} {mg : Str → Option Value} {base : Heap} {cl : Cl} {f : Addr} {fd : FuncData} (Fc : Fac K mg cl) (F : FnP K "mend_writes" (topS 44) f fd) (hm : mg "mend_writes" = some (.ref f)) (C_sure_answer : Cal P w K mg base cl "sure_answer" ["shape", "picture"] 12 f_sure_answer) (C_writes_at : Cal P w K mg base cl "writes_at" ["shape", "picture", "place"] 3 f_writes_at) : Cal P w K mg base cl "mend_writes" ["shape", "picture"] 13 f_mend_writes := ⟨f, fd, hm, F.kp, (F.bindsN fun _ _ _ _ _ _ us hl => match us, hl with | [_, _], _ => rfl), fo_mend_writes Fc F hm C_sure_answer C_writes_at⟩
theorem sc_sure_words : FnScope N_sure_words ["fates"] (defScope (topS 45)) := ⟨rfl, rfl, rfl, by decide +kernel, rfl, by decide +kernel, by decide +kernel⟩
theorem fo_sure_words {P : Program} {w : World} {K : PySem.W.Frag} {mg : Str → Option Value} {base : Heap} {cl : Cl} {f : Addr} {fd : FuncData} (Fc : Fac K mg cl) (F : FnP K "sure_words" (topS 45) f fd) (hm : mg "sure_words" = some (.ref f)) (C_tupled : Cal P w K mg base cl "tupled" ["value"] 9 (f_tupled 8)) (C_are_fates : Cal P w K mg base cl "are_fates" ["many", "thing"] 2 f_are_fates) : FnOk P w K mg base (L2.CX P w) 10 f fd ["fates"] (spOf K cl 1 f_sure_words) := by
  replace C_are_fates := C_are_fates.up (lv' := 9) (by decide)
  refine (fn_ok (N := N_sure_words) (ps := ["fates"]) (b := m_sure_words) (k := 9) F sc_sure_words fun cdv A outer s H E hr => ?_).imp sp_cut
  have tk : Takes (cxOf (L2.CX P w) P w K mg base N_sure_words "sure_words" (defScope (topS 45)) f cdv A outer s H E) (fun c d _ H => E c d H) := takes_of rfl rfl rfl rfl
  exact s_cons (s_asg (v_call C_tupled hr tk (a_cons (v_var 0) (a_nil))) (g_nm 1 sc_sure_words.nd)) (s_cons (s_if ((w_or (t_not (t_val (v_isi ok_tuple Fc.isinstance Fc.tuple boot_tuple (v_var 1)))) (w_or1 (t_not (t_val (v_call C_are_fates hr tk (a_cons (v_callB call_len cas_len Fc.len boot_len (a_cons (v_var 1) (a_nil))) (a_cons (v_var 1) (a_nil)))))))).pt) (s_one (s_raise rfl tk Fc.er_Unfit)) (s_nil)) (s_one (s_ret (v_var 1))))
theorem ok_sure_words {P : Program} {w : World} {K : PySem.W.Frag} {mg : Str → Option Value} {base : Heap} {cl : Cl} {f : Addr} {fd : FuncData} (Fc : Fac K mg cl) (F : FnP K "sure_words" (topS 45) f fd) (hm : mg "sure_words" = some (.ref f)) (C_tupled : Cal P w K mg base cl "tupled" ["value"] 9 (f_tupled 8)) (C_are_fates : Cal P w K mg base cl "are_fates" ["many", "thing"] 2 f_are_fates) : Cal P w K mg base cl "sure_words" ["fates"] 10 f_sure_words := ⟨f, fd, hm, F.kp, (F.bindsN fun _ _ _ _ _ _ us hl => match us, hl with | [_], _ => rfl), fo_sure_words Fc F hm C_tupled C_are_fates⟩
theorem sc_partly_mended : FnScope N_partly_mended ["shape", "picture", "many", "fates"] (defScope (topS 46)) := ⟨rfl, rfl, rfl, by decide +kernel, rfl, by decide +kernel, by decide +kernel⟩
theorem fo_partly_mended {P : Program} {w : World} {K : PySem.W.Frag} {mg : Str → Option Value} {base : Heap} {cl : Cl} {f : Addr} {fd : FuncData} (Fc : Fac K mg cl) (F : FnP K "partly_mended" (topS 46) f fd) (hm : mg "partly_mended" = some (.ref f)) (C_sure_both : Cal P w K mg base cl "sure_both" ["shape", "picture"] 11 f_sure_both) (C_sure_words : Cal P w K mg base cl "sure_words" ["fates"] 10 f_sure_words) (C_sure_answer : Cal P w K mg base cl "sure_answer" ["shape", "picture"] 12 f_sure_answer) (C_writes_at : Cal P w K mg base cl "writes_at" ["shape", "picture", "place"] 3 f_writes_at) (C_is_from : Cal P w K mg base cl "is_from" ["thing", "least"] 2 f_is_from) (C_fallen : Cal P w K mg base cl "fallen" ["picture", "writes", "fates"] 1 f_fallen) : FnOk P w K mg base (L2.CX P w) 13 f fd ["shape", "picture", "many", "fates"] (spOf K cl 4 f_partly_mended) := by
  replace C_sure_both := C_sure_both.up (lv' := 12) (by decide)
  replace C_sure_words := C_sure_words.up (lv' := 12) (by decide)
  replace C_writes_at := C_writes_at.up (lv' := 12) (by decide)
  replace C_is_from := C_is_from.up (lv' := 12) (by decide)
  replace C_fallen := C_fallen.up (lv' := 12) (by decide)
  refine (fn_ok (N := N_partly_mended) (ps := ["shape", "picture", "many", "fates"]) (b := m_partly_mended) (k := 12) F sc_partly_mended fun cdv A outer s H E hr => ?_).imp sp_cut
  have hu : (cxOf (L2.CX P w) P w K mg base N_partly_mended "partly_mended" (defScope (topS 46)) f cdv A outer s H E).A.units + 64 < cLine := hr.units
  have tk : Takes (cxOf (L2.CX P w) P w K mg base N_partly_mended "partly_mended" (defScope (topS 46)) f cdv A outer s H E) (fun c d _ H => E c d H) := takes_of rfl rfl rfl rfl
  exact s_cons (s_drop (v_call C_sure_both hr tk (a_cons (v_var 0) (a_cons (v_var 1) (a_nil))))) (s_cons (s_asg (v_call C_sure_words hr tk (a_cons (v_var 3) (a_nil))) (g_nm 4 sc_partly_mended.nd)) (s_cons (s_asg (v_call C_sure_answer hr tk (a_cons (v_var 0) (a_cons (v_var 1) (a_nil)))) (g_tp rfl (g_cs (g_nm 5 sc_partly_mended.nd) (g_cs (g_nm 6 sc_partly_mended.nd) (g_cs (g_nm 7 sc_partly_mended.nd) (g_nl)))))) (s_cons (s_asg (v_call C_writes_at hr tk (a_cons (v_var 5) (a_cons (v_var 6) (a_cons (v_var 7) (a_nil))))) (g_nm 8 sc_partly_mended.nd)) (s_cons (s_if ((w_or (t_not (t_val (v_call C_is_from hr tk (a_cons (v_var 2) (a_cons (v_int) (a_nil)))))) (w_or (t_cmp op_gt ops_gt (v_var 2) (v_callB call_len cas_len Fc.len boot_len (a_cons (v_var 8) (a_nil)))) (w_or1 (t_cmp (op_neP hu) ops_eq (v_callB call_len cas_len Fc.len boot_len (a_cons (v_var 4) (a_nil))) (v_var 2))))).pt) (s_one (s_raise rfl tk Fc.er_Unfit)) (s_nil)) (s_one (s_ret (v_call C_fallen hr tk (a_cons (v_var 6) (a_cons (v_sl (v_var 8) o_none (o_some (v_var 2))) (a_cons (v_var 4) (a_nil)))))))))))
theorem ok_partly_mended {P : Program} {w : World} {K : PySem.W.Frag} {mg : Str → Option Value} {base : Heap} {cl : Cl} {f : Addr} {fd : FuncData} (Fc : Fac K mg cl) (F : FnP K "partly_mended" (topS 46) f fd) (hm : mg "partly_mended" = some (.ref f)) (C_sure_both : Cal P w K mg base cl "sure_both" ["shape", "picture"] 11 f_sure_both) (C_sure_words : Cal P w K mg base cl "sure_words" ["fates"] 10 f_sure_words) (C_sure_answer : Cal P w K mg base cl "sure_answer" ["shape", "picture"] 12 f_sure_answer) (C_writes_at : Cal P w K mg base cl "writes_at" ["shape", "picture", "place"] 3 f_writes_at) (C_is_from : Cal P w K mg base cl "is_from" ["thing", "least"] 2 f_is_from) (C_fallen : Cal P w K mg base cl "fallen" ["picture", "writes", "fates"] 1 f_fallen) : Cal P w K mg base cl "partly_mended" ["shape", "picture", "many", "fates"] 13 f_partly_mended := ⟨f, fd, hm, F.kp, (F.bindsN fun _ _ _ _ _ _ us hl => match us, hl with | [_, _, _, _], _ => rfl), fo_partly_mended Fc F hm C_sure_both C_sure_words C_sure_answer C_writes_at C_is_from C_fallen⟩
theorem ky_partly_mended {P : Program} {w : World} {K : PySem.W.Frag} {mg : Str → Option Value} {base : Heap} {cl : Cl} {f : Addr} {fd : FuncData} (Fc : Fac K mg cl) (F : FnP K "partly_mended" (topS 46) f fd) (hm : mg "partly_mended" = some (.ref f)) (C_sure_both : Cal P w K mg base cl "sure_both" ["shape", "picture"] 11 f_sure_both) (C_sure_words : Cal P w K mg base cl "sure_words" ["fates"] 10 f_sure_words) (C_sure_answer : Cal P w K mg base cl "sure_answer" ["shape", "picture"] 12 f_sure_answer) (C_writes_at : Cal P w K mg base cl "writes_at" ["shape", "picture", "place"] 3 f_writes_at) (C_is_from : Cal P w K mg base cl "is_from" ["thing", "least"] 2 f_is_from) (C_fallen : Cal P w K mg base cl "fallen" ["picture", "writes", "fates"] 1 f_fallen) : CalK P w K mg base cl "partly_mended" ["shape", "picture", "many", "fates"] ["picture", "many", "shape", "fates"] [2, 0, 1, 3] 13 f_partly_mended := Cal.key F hm (fo_partly_mended Fc F hm C_sure_both C_sure_words C_sure_answer C_writes_at C_is_from C_fallen) fun _ _ _ _ _ _ us hl => match us, hl with | [_, _, _, _], _ => rfl
theorem sc_mended_in : FnScope N_mended_in ["shape", "picture", "place"] (defScope (topS 47)) := ⟨rfl, rfl, rfl, by decide +kernel, rfl, by decide +kernel, by decide +kernel⟩
theorem fo_mended_in {P : Program} {w : World} {K : PySem.W.Frag} {mg : Str → Option Value} {base : Heap} {cl : Cl} {f : Addr} {fd : FuncData} (Fc : Fac K mg cl) (F : FnP K "mended_in" (topS 47) f fd) (hm : mg "mended_in" = some (.ref f)) (C_writes_at : Cal P w K mg base cl "writes_at" ["shape", "picture", "place"] 3 f_writes_at) (C_fallen : Cal P w K mg base cl "fallen" ["picture", "writes", "fates"] 1 f_fallen) : FnOk P w K mg base (L2.CX P w) 4 f fd ["shape", "picture", "place"] (spOf K cl 3 f_mended_in) := by
  replace C_fallen := C_fallen.up (lv' := 3) (by decide)
  refine (fn_ok (N := N_mended_in) (ps := ["shape", "picture", "place"]) (b := m_mended_in) (k := 3) F sc_mended_in fun cdv A outer s H E hr => ?_).imp sp_cut
  have tk : Takes (cxOf (L2.CX P w) P w K mg base N_mended_in "mended_in" (defScope (topS 47)) f cdv A outer s H E) (fun c d _ H => E c d H) := takes_of rfl rfl rfl rfl
  exact s_cons (s_asg (v_call C_writes_at hr tk (a_cons (v_var 0) (a_cons (v_var 1) (a_cons (v_var 2) (a_nil))))) (g_nm 3 sc_mended_in.nd)) (s_one (s_ret (v_call C_fallen hr tk (a_cons (v_var 1) (a_cons (v_var 3) (a_cons (v_op op_rep01 ops_repT (v_tup (a_cons (v_str) (a_nil))) (v_callB call_len cas_len Fc.len boot_len (a_cons (v_var 3) (a_nil)))) (a_nil)))))))
theorem ok_mended_in {P : Program} {w : World} {K : PySem.W.Frag} {mg : Str → Option Value} {base : Heap} {cl : Cl} {f : Addr} {fd : FuncData} (Fc : Fac K mg cl) (F : FnP K "mended_in" (topS 47) f fd) (hm : mg "mended_in" = some (.ref f)) (C_writes_at : Cal P w K mg base cl "writes_at" ["shape", "picture", "place"] 3 f_writes_at) (C_fallen : Cal P w K mg base cl "fallen" ["picture", "writes", "fates"] 1 f_fallen) : Cal P w K mg base cl "mended_in" ["shape", "picture", "place"] 4 f_mended_in := ⟨f, fd, hm, F.kp, (F.bindsN fun _ _ _ _ _ _ us hl => match us, hl with | [_, _, _], _ => rfl), fo_mended_in Fc F hm C_writes_at C_fallen⟩
theorem sc_mended : FnScope N_mended ["shape", "picture"] (defScope (topS 48)) := ⟨rfl, rfl, rfl, by decide +kernel, rfl, by decide +kernel, by decide +kernel⟩
theorem fo_mended {P : Program} {w : World} {K : PySem.W.Frag} {mg : Str → Option Value} {base : Heap} {cl : Cl} {f : Addr} {fd : FuncData} (Fc : Fac K mg cl) (F : FnP K "mended" (topS 48) f fd) (hm : mg "mended" = some (.ref f)) (C_sure_answer : Cal P w K mg base cl "sure_answer" ["shape", "picture"] 12 f_sure_answer) (C_mended_in : Cal P w K mg base cl "mended_in" ["shape", "picture", "place"] 4 f_mended_in) : FnOk P w K mg base (L2.CX P w) 13 f fd ["shape", "picture"] (spOf K cl 2 f_mended) := by
  replace C_mended_in := C_mended_in.up (lv' := 12) (by decide)
  refine (fn_ok (N := N_mended) (ps := ["shape", "picture"]) (b := m_mended) (k := 12) F sc_mended fun cdv A outer s H E hr => ?_).imp sp_cut
  have tk : Takes (cxOf (L2.CX P w) P w K mg base N_mended "mended" (defScope (topS 48)) f cdv A outer s H E) (fun c d _ H => E c d H) := takes_of rfl rfl rfl rfl
  exact s_cons (s_asg (v_call C_sure_answer hr tk (a_cons (v_var 0) (a_cons (v_var 1) (a_nil)))) (g_tp rfl (g_cs (g_nm 2 sc_mended.nd) (g_cs (g_nm 3 sc_mended.nd) (g_cs (g_nm 4 sc_mended.nd) (g_nl)))))) (s_one (s_ret (v_call C_mended_in hr tk (a_cons (v_var 2) (a_cons (v_var 3) (a_cons (v_var 4) (a_nil)))))))
theorem ok_mended {P : Program} {w : World} {K : PySem.W.Frag} {mg : Str → Option Value} {base : Heap} {cl : Cl} {f : Addr} {fd : FuncData} (Fc : Fac K mg cl) (F : FnP K "mended" (topS 48) f fd) (hm : mg "mended" = some (.ref f)) (C_sure_answer : Cal P w K mg base cl "sure_answer" ["shape", "picture"] 12 f_sure_answer) (C_mended_in : Cal P w K mg base cl "mended_in" ["shape", "picture", "place"] 4 f_mended_in) : Cal P w K mg base cl "mended" ["shape", "picture"] 13 f_mended := ⟨f, fd, hm, F.kp, (F.bindsN fun _ _ _ _ _ _ us hl => match us, hl with | [_, _], _ => rfl), fo_mended Fc F hm C_sure_answer C_mended_in⟩
theorem ky_mended {P : Program} {w : World} {K : PySem.W.Frag} {mg : Str → Option Value} {base : Heap} {cl : Cl} {f : Addr} {fd : FuncData} (Fc : Fac K mg cl) (F : FnP K "mended" (topS 48) f fd) (hm : mg "mended" = some (.ref f)) (C_sure_answer : Cal P w K mg base cl "sure_answer" ["shape", "picture"] 12 f_sure_answer) (C_mended_in : Cal P w K mg base cl "mended_in" ["shape", "picture", "place"] 4 f_mended_in) : CalK P w K mg base cl "mended" ["shape", "picture"] ["shape", "picture"] [0, 1] 13 f_mended := Cal.key F hm (fo_mended Fc F hm C_sure_answer C_mended_in) fun _ _ _ _ _ _ us hl => match us, hl with | [_, _], _ => rfl
end Hr
set_option Elab.async false
set_option linter.all false
set_option maxRecDepth 100000
set_option maxHeartbeats 4000000
namespace Hr
open PySem PySem.Spec PyProof.Rows L2
theorem sc_law_box : FnScope N_law_box ["_law_script", "_law_k"] (defScope (topS 50)) := ⟨rfl, rfl, rfl, by decide +kernel, rfl, by decide +kernel, by decide +kernel⟩
theorem fo_law_box {P : Program} {w : World} {K : PySem.W.Frag} {mg : Str → Option Value} {base : Heap} {cl : Cl} {f : Addr} {fd : FuncData} (Fc : Fac K mg cl) (F : FnP K "_law_box" (topS 50) f fd) (hm : mg "_law_box" = some (.ref f)) : FnOk P w K mg base (L2.CX P w) 1 f fd ["_law_script", "_law_k"] (spOf K cl 2 f_law_box) := by
  refine (fn_ok (N := N_law_box) (ps := ["_law_script", "_law_k"]) (b := m_law_box) (k := 0) F sc_law_box fun cdv A outer s H E hr => ?_).imp (sp_raw (h := rfl))
  exact s_cons (s_asg (v_if (t_cmp op_lt ops_lt (v_var 1) (v_callB call_len cas_len Fc.len boot_len (a_cons (v_var 0) (a_nil)))) (v_ix (v_var 0) (v_var 1)) (v_int)) (g_nm 2 sc_law_box.nd)) (s_one (s_ret (v_lstO (a_cons (v_op op_mul ops_mul (v_callB call_abs cas_abs Fc.abs boot_abs (a_cons (v_var 2) (a_nil))) (v_callTy call_int1 cas_int Fc.int boot_int (a_cons (v_cmp op_ge ops_ge (v_callB call_abs cas_abs Fc.abs boot_abs (a_cons (v_var 2) (a_nil))) (v_op op_pow ops_pow (v_int) (v_int))) (a_nil)))) (a_cons (v_op op_add ops_add (v_op op_add ops_add (v_op op_mod ops_mod (v_callTy call_int1 cas_int Fc.int boot_int (a_cons (v_var 2) (a_nil))) (v_int)) (v_op op_mul ops_mul (v_int) (v_var 1))) (v_int)) (a_cons (v_int) (a_nil)))))))
theorem ok_law_box {P : Program} {w : World} {K : PySem.W.Frag} {mg : Str → Option Value} {base : Heap} {cl : Cl} {f : Addr} {fd : FuncData} (Fc : Fac K mg cl) (F : FnP K "_law_box" (topS 50) f fd) (hm : mg "_law_box" = some (.ref f)) : Cal P w K mg base cl "_law_box" ["_law_script", "_law_k"] 1 f_law_box := ⟨f, fd, hm, F.kp, (F.bindsN fun _ _ _ _ _ _ us hl => match us, hl with | [_, _], _ => rfl), fo_law_box Fc F hm⟩
theorem sc_law_take : FnScope N_law_take ["_law_tin", "_law_below_so"] (defScope (topS 51)) := ⟨rfl, rfl, rfl, by decide +kernel, rfl, by decide +kernel, by decide +kernel⟩
theorem fo_law_take {P : Program} {w : World} {K : PySem.W.Frag} {mg : Str → Option Value} {base : Heap} {cl : Cl} {f : Addr} {fd : FuncData} (Fc : Fac K mg cl) (F : FnP K "_law_take" (topS 51) f fd) (hm : mg "_law_take" = some (.ref f)) : FnOk P w K mg base (L2.CX P w) 1 f fd ["_law_tin", "_law_below_so"] (spOf K cl 2 f_law_take) := by
  refine (fn_ok (N := N_law_take) (ps := ["_law_tin", "_law_below_so"]) (b := m_law_take) (k := 0) F sc_law_take fun cdv A outer s H E hr => ?_).imp sp_cut
  exact s_cons (s_if (t_cmp op_gt ops_gt (v_ix (v_var 0) (v_int)) (v_int)) (s_cons (s_asg (v_op op_mod ops_mod (v_callTy call_int1 cas_int Fc.int boot_int (a_cons (v_ix (v_var 0) (v_int)) (a_nil))) (v_var 1)) (g_nm 2 sc_law_take.nd)) (s_cons (s_asg (v_op op_fdiv ops_div (v_ix (v_var 0) (v_int)) (v_var 1)) (g_sb (v_var 0) (v_int))) (s_one (s_ret (v_var 2))))) (s_nil)) (s_cons (s_asg (v_op op_add ops_add (v_ix (v_var 0) (v_int)) (v_int)) (g_sb (v_var 0) (v_int))) (s_cons (s_asg (v_op op_mod ops_mod (v_callTy call_int1 cas_int Fc.int boot_int (a_cons (v_op op_mul ops_mul (v_op op_add ops_add (v_ix (v_var 0) (v_int)) (v_op op_mul ops_mul (v_int) (v_ix (v_var 0) (v_int)))) (v_op op_add ops_add (v_int) (v_ix (v_var 0) (v_int)))) (a_nil))) (v_int)) (g_nm 3 sc_law_take.nd)) (s_cons (s_asg (v_op op_add ops_add (v_op op_mod ops_mod (v_callTy call_int1 cas_int Fc.int boot_int (a_cons (v_var 3) (a_nil))) (v_int)) (v_int)) (g_nm 4 sc_law_take.nd)) (s_cons (s_asg (v_op op_mod ops_mod (v_callTy call_int1 cas_int Fc.int boot_int (a_cons (v_op op_mul ops_mul (v_op op_add ops_add (v_op op_add ops_add (v_var 3) (v_ix (v_var 0) (v_int))) (v_op op_fdiv ops_div (v_ix (v_var 0) (v_int)) (v_int))) (v_var 4)) (a_nil))) (v_int)) (g_nm 5 sc_law_take.nd)) (s_one (s_ret (v_op op_mod ops_mod (v_callTy call_int1 cas_int Fc.int boot_int (a_cons (v_op op_fdiv ops_div (v_op op_mod ops_mod (v_callTy call_int1 cas_int Fc.int boot_int (a_cons (v_op op_add ops_add (v_op op_mul ops_mul (v_var 5) (v_int)) (v_var 3)) (a_nil))) (v_int)) (v_int)) (a_nil))) (v_var 1))))))))
theorem ok_law_take {P : Program} {w : World} {K : PySem.W.Frag} {mg : Str → Option Value} {base : Heap} {cl : Cl} {f : Addr} {fd : FuncData} (Fc : Fac K mg cl) (F : FnP K "_law_take" (topS 51) f fd) (hm : mg "_law_take" = some (.ref f)) : Cal P w K mg base cl "_law_take" ["_law_tin", "_law_below_so"] 1 f_law_take := ⟨f, fd, hm, F.kp, (F.bindsN fun _ _ _ _ _ _ us hl => match us, hl with | [_, _], _ => rfl), fo_law_take Fc F hm⟩
theorem sc_law_cells : FnScope N_law_cells ["_law_script", "_law_most_so"] (defScope (topS 52)) := ⟨rfl, rfl, rfl, by decide +kernel, rfl, by decide +kernel, by decide +kernel⟩
theorem fo_law_cells {P : Program} {w : World} {K : PySem.W.Frag} {mg : Str → Option Value} {base : Heap} {cl : Cl} {f : Addr} {fd : FuncData} (Fc : Fac K mg cl) (F : FnP K "_law_cells" (topS 52) f fd) (hm : mg "_law_cells" = some (.ref f)) : FnOk P w K mg base (L2.CX P w) 1 f fd ["_law_script", "_law_most_so"] (spOf K cl 2 f_law_cells) := by
  refine (fn_ok (N := N_law_cells) (ps := ["_law_script", "_law_most_so"]) (b := m_law_cells) (k := 0) F sc_law_cells fun cdv A outer s H E hr => ?_).imp sp_frz
  have hp : PassesOwn (model P w) (cxOf (L2.CX P w) P w K mg base N_law_cells "_law_cells" (defScope (topS 52)) f cdv A outer s H E).A (cxOf (L2.CX P w) P w K mg base N_law_cells "_law_cells" (defScope (topS 52)) f cdv A outer s H E).env (cxOf (L2.CX P w) P w K mg base N_law_cells "_law_cells" (defScope (topS 52)) f cdv A outer s H E).xe := passes_of rfl
  exact s_cons (s_asg (v_orL (v_callTy call_list_of cas_listOfO Fc.list boot_list (a_cons (v_sl (v_var 0) o_none (o_some (v_var 1))) (a_nil))) (v_one (v_lstO (a_cons (v_int) (a_nil))))) (g_nm 2 sc_law_cells.nd)) (s_cons (s_for hp rfl (i_enum Fc.enumerate (a_cons (v_sl (v_var 0) (o_some (v_var 1)) (o_some (v_int))) (a_nil))) (g_tp rfl (g_cs (g_nm 3 sc_law_cells.nd) (g_cs (g_nm 4 sc_law_cells.nd) (g_nl)))) (s_cons (s_asg (v_op op_mod ops_mod (v_callTy call_int1 cas_int Fc.int boot_int (a_cons (v_var 3) (a_nil))) (v_var 1)) (g_nm 5 sc_law_cells.nd)) (s_one (s_asg (v_op op_add ops_add (v_ix (v_var 2) (v_var 5)) (v_op op_mul ops_mul (v_var 4) (v_op op_add ops_add (v_var 3) (v_int)))) (g_sb (v_var 2) (v_var 5)))))) (s_one (s_ret (v_var 2))))
theorem ok_law_cells {P : Program} {w : World} {K : PySem.W.Frag} {mg : Str → Option Value} {base : Heap} {cl : Cl} {f : Addr} {fd : FuncData} (Fc : Fac K mg cl) (F : FnP K "_law_cells" (topS 52) f fd) (hm : mg "_law_cells" = some (.ref f)) : Cal P w K mg base cl "_law_cells" ["_law_script", "_law_most_so"] 1 f_law_cells := ⟨f, fd, hm, F.kp, (F.bindsN fun _ _ _ _ _ _ us hl => match us, hl with | [_, _], _ => rfl), fo_law_cells Fc F hm⟩
theorem sc_law_of : FnScope N_law_of ["_law_tin", "_law_goods_so"] (defScope (topS 53)) := ⟨rfl, rfl, rfl, by decide +kernel, rfl, by decide +kernel, by decide +kernel⟩
theorem fo_law_of {P : Program} {w : World} {K : PySem.W.Frag} {mg : Str → Option Value} {base : Heap} {cl : Cl} {f : Addr} {fd : FuncData} (Fc : Fac K mg cl) (F : FnP K "_law_of" (topS 53) f fd) (hm : mg "_law_of" = some (.ref f)) (C_law_take : Cal P w K mg base cl "_law_take" ["_law_tin", "_law_below_so"] 1 f_law_take) : FnOk P w K mg base (L2.CX P w) 2 f fd ["_law_tin", "_law_goods_so"] (spOf K cl 2 f_law_of) := by
  refine (fn_ok (N := N_law_of) (ps := ["_law_tin", "_law_goods_so"]) (b := m_law_of) (k := 1) F sc_law_of fun cdv A outer s H E hr => ?_).imp sp_cut
  have tk : Takes (cxOf (L2.CX P w) P w K mg base N_law_of "_law_of" (defScope (topS 53)) f cdv A outer s H E) (fun c d _ H => E c d H) := takes_of rfl rfl rfl rfl
  exact s_one (s_ret (v_ix (v_var 1) (v_call C_law_take hr tk (a_cons (v_var 0) (a_cons (v_callB call_len cas_len Fc.len boot_len (a_cons (v_var 1) (a_nil))) (a_nil))))))
theorem ok_law_of {P : Program} {w : World} {K : PySem.W.Frag} {mg : Str → Option Value} {base : Heap} {cl : Cl} {f : Addr} {fd : FuncData} (Fc : Fac K mg cl) (F : FnP K "_law_of" (topS 53) f fd) (hm : mg "_law_of" = some (.ref f)) (C_law_take : Cal P w K mg base cl "_law_take" ["_law_tin", "_law_below_so"] 1 f_law_take) : Cal P w K mg base cl "_law_of" ["_law_tin", "_law_goods_so"] 2 f_law_of := ⟨f, fd, hm, F.kp, (F.bindsN fun _ _ _ _ _ _ us hl => match us, hl with | [_, _], _ => rfl), fo_law_of Fc F hm C_law_take⟩
theorem sc_law_lists : FnScope N_law_lists ["_law_matter"] (defScope (topS 54)) := ⟨rfl, rfl, rfl, by decide +kernel, rfl, by decide +kernel, by decide +kernel⟩
theorem ok_law_lists {P : Program} {w : World} {K : PySem.W.Frag} {mg : Str → Option Value} {base : Heap} {cl : Cl} {f : Addr} {fd : FuncData} (Fc : Fac K mg cl) (F : FnP K "_law_lists" (topS 54) f fd) (hm : mg "_law_lists" = some (.ref f)) : ∀ n, Cal P w K mg base cl "_law_lists" ["_law_matter"] (n + 1) (f_law_lists n)
  | 0 => ⟨f, fd, hm, F.kp, (F.bindsN fun _ _ _ _ _ _ us hl => match us, hl with | [_], _ => rfl), FunD.ok F sc_law_lists (fun vs H Q E h => h.1) fun cdv A outer s H vs Q E hr h => by
      obtain ⟨_, _, _, _, _, _, _, po⟩ := h
      exact po.elim⟩
  | n + 1 => by
    have Crec : Cal P w K mg base cl "_law_lists" ["_law_matter"] (n + 1) (f_law_lists n) := ok_law_lists Fc F hm n
    refine ⟨f, fd, hm, F.kp, (F.bindsN fun _ _ _ _ _ _ us hl => match us, hl with | [_], _ => rfl), (fn_ok (b := m_law_lists (f_law_lists n)) F sc_law_lists fun cdv A outer s H E hr => ?_).imp sp_cut⟩
    exact s_one (s_ret (v_if (t_val (v_isi2 ok_list ok_tuple Fc.isinstance Fc.list boot_list Fc.tuple boot_tuple (v_var 0))) (v_lc1 rfl sc_law_lists.nd (i_seq (v_var 0)) (blkOk_by (N := N_law_lists) (sc := defScope (topS 54)) (own := [("_law_bit", 1)]) (by decide +kernel)) (fun _ _ _ _ _ => pg_name (i := 1) sc_law_lists.nd rfl (Or.inl rfl)) (fun _ _ _ _ _ => ts_nil) (fun _ _ _ _ _ => v_call Crec hr takes0 (a_cons (v_var 1) (a_nil)))) (v_var 0)))
theorem sc_law_same : FnScope N_law_same ["_law_got", "_law_due"] (defScope (topS 55)) := ⟨rfl, rfl, rfl, by decide +kernel, rfl, by decide +kernel, by decide +kernel⟩
theorem ok_law_same {P : Program} {w : World} {K : PySem.W.Frag} {mg : Str → Option Value} {base : Heap} {cl : Cl} {f : Addr} {fd : FuncData} (Fc : Fac K mg cl) (F : FnP K "_law_same" (topS 55) f fd) (hm : mg "_law_same" = some (.ref f)) : ∀ n, Cal P w K mg base cl "_law_same" ["_law_got", "_law_due"] (n + 1) (f_law_same n)
  | 0 => ⟨f, fd, hm, F.kp, (F.bindsN fun _ _ _ _ _ _ us hl => match us, hl with | [_, _], _ => rfl), FunD.ok F sc_law_same (fun vs H Q E h => h.1) fun cdv A outer s H vs Q E hr h => by
      obtain ⟨_, _, _, _, _, _, _, po⟩ := h
      exact po.elim⟩
  | n + 1 => by
    have Crec : Cal P w K mg base cl "_law_same" ["_law_got", "_law_due"] (n + 1) (f_law_same n) := ok_law_same Fc F hm n
    refine ⟨f, fd, hm, F.kp, (F.bindsN fun _ _ _ _ _ _ us hl => match us, hl with | [_, _], _ => rfl), (fn_ok (b := m_law_same (f_law_same n)) F sc_law_same fun cdv A outer s H E hr => ?_).imp sp_cut⟩
    have hu : (cxOf (L2.CX P w) P w K mg base N_law_same "_law_same" (defScope (topS 55)) f cdv A outer s H E).A.units + 64 < cLine := hr.units
    exact s_cons (s_if (t_val (v_isi2 ok_list ok_tuple Fc.isinstance Fc.list boot_list Fc.tuple boot_tuple (v_var 1))) (s_cons (s_if ((w_or (t_cmp (op_neP hu) ops_eq (v_isi ok_list Fc.isinstance Fc.list boot_list (v_var 0)) (v_isi ok_list Fc.isinstance Fc.list boot_list (v_var 1))) (w_or1 (t_cmp (op_neP hu) ops_eq (v_isi ok_tuple Fc.isinstance Fc.tuple boot_tuple (v_var 0)) (v_isi ok_tuple Fc.isinstance Fc.tuple boot_tuple (v_var 1))))).pt) (s_one (s_ret (v_bl))) (s_nil)) (s_one (s_ret (v_and (v_cmp (op_eqP hu) ops_eq (v_callB call_len cas_len Fc.len boot_len (a_cons (v_var 0) (a_nil))) (v_callB call_len cas_len Fc.len boot_len (a_cons (v_var 1) (a_nil)))) (v_one (v_callB (cr_all rfl) cas_all Fc.all boot_all (a_cons (v_lc2 (by decide) rfl sc_law_same.nd (i_zip Fc.zip (a_cons (v_var 0) (a_cons (v_var 1) (a_nil)))) (blkOk_by (N := N_law_same) (sc := defScope (topS 55)) (own := [("_law_mine", 2), ("_law_its", 3)]) (by decide +kernel)) (fun _ _ _ _ _ => pg_tup rfl (pgs_cons (pg_name (i := 2) sc_law_same.nd rfl (Or.inl rfl)) (pgs_cons (pg_name (i := 3) sc_law_same.nd rfl (Or.inl rfl)) pgs_nil))) (fun _ _ _ _ _ => ts_nil) (fun _ _ _ _ _ => v_call Crec hr takes0 (a_cons (v_var 2) (a_cons (v_var 3) (a_nil))))) (a_nil)))))))) (s_nil)) (s_cons (s_if ((w_or (t_isN (v_var 1)) (w_or1 (t_val (v_isi2 ok_bool ok_str Fc.isinstance Fc.bool boot_bool Fc.str boot_str (v_var 1))))).pt) (s_one (s_ret (v_and (v_cmp (op_eqP hu) ops_eq (v_var 0) (v_var 1)) (v_and (v_cmp (op_eqP hu) ops_eq (v_isi ok_bool Fc.isinstance Fc.bool boot_bool (v_var 0)) (v_isi ok_bool Fc.isinstance Fc.bool boot_bool (v_var 1))) (v_one (v_cmp (op_eqP hu) ops_eq (v_isN (v_var 0)) (v_isN (v_var 1)))))))) (s_nil)) (s_one (s_ret (v_and (v_isi ok_int Fc.isinstance Fc.int boot_int (v_var 0)) (v_and (v_not (v_isi ok_bool Fc.isinstance Fc.bool boot_bool (v_var 0))) (v_one (v_cmp (op_eqP hu) ops_eq (v_var 0) (v_var 1))))))))
theorem sc_law_lap : FnScope N_law_lap ["_law_form", "_law_n"] (defScope (topS 56)) := ⟨rfl, rfl, rfl, by decide +kernel, rfl, by decide +kernel, by decide +kernel⟩
theorem fo_law_lap {P : Program} {w : World} {K : PySem.W.Frag} {mg : Str → Option Value} {base : Heap} {cl : Cl} {f : Addr} {fd : FuncData} (Fc : Fac K mg cl) (F : FnP K "_law_lap" (topS 56) f fd) (hm : mg "_law_lap" = some (.ref f)) : FnOk P w K mg base (L2.CX P w) 1 f fd ["_law_form", "_law_n"] (spOf K cl 2 f_law_lap) := by
  refine (fn_ok (N := N_law_lap) (ps := ["_law_form", "_law_n"]) (b := m_law_lap) (k := 0) F sc_law_lap fun cdv A outer s H E hr => ?_).imp sp_cut
  exact s_one (s_ret (v_op op_mod ops_mod (v_op op_fdiv ops_div (v_var 1) (v_ix (v_var 0) (v_int))) (v_ix (v_var 0) (v_int))))
theorem ok_law_lap {P : Program} {w : World} {K : PySem.W.Frag} {mg : Str → Option Value} {base : Heap} {cl : Cl} {f : Addr} {fd : FuncData} (Fc : Fac K mg cl) (F : FnP K "_law_lap" (topS 56) f fd) (hm : mg "_law_lap" = some (.ref f)) : Cal P w K mg base cl "_law_lap" ["_law_form", "_law_n"] 1 f_law_lap := ⟨f, fd, hm, F.kp, (F.bindsN fun _ _ _ _ _ _ us hl => match us, hl with | [_, _], _ => rfl), fo_law_lap Fc F hm⟩
theorem sc_law_shows : FnScope N_law_shows ["_law_form", "_law_face_here", "_law_n"] (defScope (topS 57)) := ⟨rfl, rfl, rfl, by decide +kernel, rfl, by decide +kernel, by decide +kernel⟩
theorem fo_law_shows {P : Program} {w : World} {K : PySem.W.Frag} {mg : Str → Option Value} {base : Heap} {cl : Cl} {f : Addr} {fd : FuncData} (Fc : Fac K mg cl) (F : FnP K "_law_shows" (topS 57) f fd) (hm : mg "_law_shows" = some (.ref f)) (C_law_lap : Cal P w K mg base cl "_law_lap" ["_law_form", "_law_n"] 1 f_law_lap) : FnOk P w K mg base (L2.CX P w) 2 f fd ["_law_form", "_law_face_here", "_law_n"] (spOf K cl 3 f_law_shows) := by
  refine (fn_ok (N := N_law_shows) (ps := ["_law_form", "_law_face_here", "_law_n"]) (b := m_law_shows) (k := 1) F sc_law_shows fun cdv A outer s H E hr => ?_).imp sp_cut
  have hu : (cxOf (L2.CX P w) P w K mg base N_law_shows "_law_shows" (defScope (topS 57)) f cdv A outer s H E).A.units + 64 < cLine := hr.units
  have tk : Takes (cxOf (L2.CX P w) P w K mg base N_law_shows "_law_shows" (defScope (topS 57)) f cdv A outer s H E) (fun c d _ H => E c d H) := takes_of rfl rfl rfl rfl
  exact s_cons (s_asg (v_ix (v_var 1) (v_op op_mod ops_mod (v_callTy call_int1 cas_int Fc.int boot_int (a_cons (v_var 2) (a_nil))) (v_ix (v_var 0) (v_int)))) (g_nm 3 sc_law_shows.nd)) (s_one (s_ret (v_and (v_cmp (op_neP hu) ops_eq (v_var 3) (v_tup (a_cons (v_str) (a_nil)))) (v_one (v_cmp (op_eqP hu) ops_eq (v_ix (v_var 3) (v_int)) (v_call C_law_lap hr tk (a_cons (v_var 0) (a_cons (v_var 2) (a_nil)))))))))
theorem ok_law_shows {P : Program} {w : World} {K : PySem.W.Frag} {mg : Str → Option Value} {base : Heap} {cl : Cl} {f : Addr} {fd : FuncData} (Fc : Fac K mg cl) (F : FnP K "_law_shows" (topS 57) f fd) (hm : mg "_law_shows" = some (.ref f)) (C_law_lap : Cal P w K mg base cl "_law_lap" ["_law_form", "_law_n"] 1 f_law_lap) : Cal P w K mg base cl "_law_shows" ["_law_form", "_law_face_here", "_law_n"] 2 f_law_shows := ⟨f, fd, hm, F.kp, (F.bindsN fun _ _ _ _ _ _ us hl => match us, hl with | [_, _, _], _ => rfl), fo_law_shows Fc F hm C_law_lap⟩
theorem sc_law_wholes : FnScope N_law_wholes ["_law_form", "_law_face_here"] (defScope (topS 58)) := ⟨rfl, rfl, rfl, by decide +kernel, rfl, by decide +kernel, by decide +kernel⟩
theorem fo_law_wholes {P : Program} {w : World} {K : PySem.W.Frag} {mg : Str → Option Value} {base : Heap} {cl : Cl} {f : Addr} {fd : FuncData} (Fc : Fac K mg cl) (F : FnP K "_law_wholes" (topS 58) f fd) (hm : mg "_law_wholes" = some (.ref f)) (C_law_shows : Cal P w K mg base cl "_law_shows" ["_law_form", "_law_face_here", "_law_n"] 2 f_law_shows) : FnOk P w K mg base (L2.CX P w) 3 f fd ["_law_form", "_law_face_here"] (spOf K cl 2 f_law_wholes) := by
  refine (fn_ok (N := N_law_wholes) (ps := ["_law_form", "_law_face_here"]) (b := m_law_wholes) (k := 2) F sc_law_wholes fun cdv A outer s H E hr => ?_).imp sp_frz
  have hu : (cxOf (L2.CX P w) P w K mg base N_law_wholes "_law_wholes" (defScope (topS 58)) f cdv A outer s H E).A.units + 64 < cLine := hr.units
  have hp : PassesOwn (model P w) (cxOf (L2.CX P w) P w K mg base N_law_wholes "_law_wholes" (defScope (topS 58)) f cdv A outer s H E).A (cxOf (L2.CX P w) P w K mg base N_law_wholes "_law_wholes" (defScope (topS 58)) f cdv A outer s H E).env (cxOf (L2.CX P w) P w K mg base N_law_wholes "_law_wholes" (defScope (topS 58)) f cdv A outer s H E).xe := passes_of rfl
  exact s_cons (s_par rfl sc_law_wholes.nd rfl rfl (by decide) rfl rfl (a_cons (v_op op_sub ops_sub (v_ix (v_var 0) (v_int)) (v_ix (v_var 0) (v_int))) (a_cons (v_op op_mul ops_mul (v_ix (v_var 0) (v_int)) (v_ix (v_var 0) (v_int))) (a_nil))) rfl) (s_cons (s_asg (v_lstO (a_nil)) (g_nm 4 sc_law_wholes.nd)) (s_cons (s_for hp rfl (i_rng1 Fc.range (a_cons (v_var 3) (a_nil))) (g_nm 5 sc_law_wholes.nd) (s_one (s_if (t_cmp (op_eqP hu) ops_eq (v_lc1 rfl sc_law_wholes.nd (i_rng2 Fc.range (a_cons (v_int) (a_cons (v_op op_add ops_add (v_var 2) (v_int)) (a_nil)))) (blkOk_by (N := N_law_wholes) (sc := defScope (topS 58)) (own := [("_law_j", 6)]) (by decide +kernel)) (fun _ _ _ _ _ => pg_name (i := 6) sc_law_wholes.nd rfl (Or.inl rfl)) (fun _ _ _ _ _ => ts_one (t_not (t_val (v_call C_law_shows hr takes0 (a_cons (v_var 0) (a_cons (v_var 1) (a_cons (v_op op_sub ops_sub (v_var 5) (v_var 6)) (a_nil)))))))) (fun _ _ _ _ _ => v_var 6)) (v_lst (a_nil))) (s_one (s_app (v_var 4) (v_var 5))) (s_nil)))) (s_one (s_ret (v_var 4)))))
theorem ok_law_wholes {P : Program} {w : World} {K : PySem.W.Frag} {mg : Str → Option Value} {base : Heap} {cl : Cl} {f : Addr} {fd : FuncData} (Fc : Fac K mg cl) (F : FnP K "_law_wholes" (topS 58) f fd) (hm : mg "_law_wholes" = some (.ref f)) (C_law_shows : Cal P w K mg base cl "_law_shows" ["_law_form", "_law_face_here", "_law_n"] 2 f_law_shows) : Cal P w K mg base cl "_law_wholes" ["_law_form", "_law_face_here"] 3 f_law_wholes := ⟨f, fd, hm, F.kp, (F.bindsN fun _ _ _ _ _ _ us hl => match us, hl with | [_, _], _ => rfl), fo_law_wholes Fc F hm C_law_shows⟩
theorem sc_law_answer : FnScope N_law_answer ["_law_form", "_law_face_here"] (defScope (topS 59)) := ⟨rfl, rfl, rfl, by decide +kernel, rfl, by decide +kernel, by decide +kernel⟩
theorem fo_law_answer {P : Program} {w : World} {K : PySem.W.Frag} {mg : Str → Option Value} {base : Heap} {cl : Cl} {f : Addr} {fd : FuncData} (Fc : Fac K mg cl) (F : FnP K "_law_answer" (topS 59) f fd) (hm : mg "_law_answer" = some (.ref f)) (C_law_wholes : Cal P w K mg base cl "_law_wholes" ["_law_form", "_law_face_here"] 3 f_law_wholes) : FnOk P w K mg base (L2.CX P w) 4 f fd ["_law_form", "_law_face_here"] (spOf K cl 2 f_law_answer) := by
  refine (fn_ok (N := N_law_answer) (ps := ["_law_form", "_law_face_here"]) (b := m_law_answer) (k := 3) F sc_law_answer fun cdv A outer s H E hr => ?_).imp sp_cut
  have hu : (cxOf (L2.CX P w) P w K mg base N_law_answer "_law_answer" (defScope (topS 59)) f cdv A outer s H E).A.units + 64 < cLine := hr.units
  have tk : Takes (cxOf (L2.CX P w) P w K mg base N_law_answer "_law_answer" (defScope (topS 59)) f cdv A outer s H E) (fun c d _ H => E c d H) := takes_of rfl rfl rfl rfl
  have hp : PassesOwn (model P w) (cxOf (L2.CX P w) P w K mg base N_law_answer "_law_answer" (defScope (topS 59)) f cdv A outer s H E).A (cxOf (L2.CX P w) P w K mg base N_law_answer "_law_answer" (defScope (topS 59)) f cdv A outer s H E).env (cxOf (L2.CX P w) P w K mg base N_law_answer "_law_answer" (defScope (topS 59)) f cdv A outer s H E).xe := passes_of rfl
  exact s_cons (s_par rfl sc_law_answer.nd rfl rfl (by decide) rfl rfl (a_cons (v_call C_law_wholes hr tk (a_cons (v_var 0) (a_cons (v_var 1) (a_nil)))) (a_cons (v_op op_mul ops_mul (v_ix (v_var 0) (v_int)) (v_ix (v_var 0) (v_int))) (a_nil))) rfl) (s_cons (s_asg (v_lstO (a_nil)) (g_nm 4 sc_law_answer.nd)) (s_cons (s_for hp rfl (i_enum Fc.enumerate (a_cons (v_var 2) (a_nil))) (g_tp rfl (g_cs (g_nm 5 sc_law_answer.nd) (g_cs (g_nm 6 sc_law_answer.nd) (g_nl)))) (s_cons (s_asg (v_if (t_cmp op_lt ops_lt (v_op op_add ops_add (v_var 5) (v_int)) (v_callB call_len cas_len Fc.len boot_len (a_cons (v_var 2) (a_nil)))) (v_ix (v_var 2) (v_op op_add ops_add (v_var 5) (v_int))) (v_op op_add ops_add (v_ix (v_var 2) (v_int)) (v_var 3))) (g_nm 7 sc_law_answer.nd)) (s_one (s_if (t_cmp op_gt ops_gt (v_op op_sub ops_sub (v_var 7) (v_var 6)) (v_ix (v_var 0) (v_int))) (s_one (s_app (v_var 4) (v_var 6))) (s_nil))))) (s_one (s_ret (v_if (t_cmp (op_eqP hu) ops_eq (v_callB call_len cas_len Fc.len boot_len (a_cons (v_var 4) (a_nil))) (v_int)) (v_ix (v_var 4) (v_int)) (v_non))))))
theorem ok_law_answer {P : Program} {w : World} {K : PySem.W.Frag} {mg : Str → Option Value} {base : Heap} {cl : Cl} {f : Addr} {fd : FuncData} (Fc : Fac K mg cl) (F : FnP K "_law_answer" (topS 59) f fd) (hm : mg "_law_answer" = some (.ref f)) (C_law_wholes : Cal P w K mg base cl "_law_wholes" ["_law_form", "_law_face_here"] 3 f_law_wholes) : Cal P w K mg base cl "_law_answer" ["_law_form", "_law_face_here"] 4 f_law_answer := ⟨f, fd, hm, F.kp, (F.bindsN fun _ _ _ _ _ _ us hl => match us, hl with | [_, _], _ => rfl), fo_law_answer Fc F hm C_law_wholes⟩
theorem sc_law_blank : FnScope N_law_blank [] (defScope (topS 60)) := ⟨rfl, rfl, rfl, by decide +kernel, rfl, by decide +kernel, by decide +kernel⟩
theorem fo_law_blank {P : Program} {w : World} {K : PySem.W.Frag} {mg : Str → Option Value} {base : Heap} {cl : Cl} {f : Addr} {fd : FuncData} (Fc : Fac K mg cl) (F : FnP K "_law_blank" (topS 60) f fd) (hm : mg "_law_blank" = some (.ref f)) : FnOk P w K mg base (L2.CX P w) 1 f fd [] (spOf K cl 0 f_law_blank) := by
  refine (fn_ok (N := N_law_blank) (ps := []) (b := m_law_blank) (k := 0) F sc_law_blank fun cdv A outer s H E hr => ?_).imp sp_cut
  exact s_one (s_ret (v_tup (a_cons (v_str) (a_nil))))
theorem ok_law_blank {P : Program} {w : World} {K : PySem.W.Frag} {mg : Str → Option Value} {base : Heap} {cl : Cl} {f : Addr} {fd : FuncData} (Fc : Fac K mg cl) (F : FnP K "_law_blank" (topS 60) f fd) (hm : mg "_law_blank" = some (.ref f)) : Cal P w K mg base cl "_law_blank" [] 1 f_law_blank := ⟨f, fd, hm, F.kp, (F.bindsN fun _ _ _ _ _ _ us hl => match us, hl with | [], _ => rfl), fo_law_blank Fc F hm⟩
theorem sc_law_face : FnScope N_law_face ["_law_form"] (defScope (topS 61)) := ⟨rfl, rfl, rfl, by decide +kernel, rfl, by decide +kernel, by decide +kernel⟩
theorem fo_law_face {P : Program} {w : World} {K : PySem.W.Frag} {mg : Str → Option Value} {base : Heap} {cl : Cl} {f : Addr} {fd : FuncData} (Fc : Fac K mg cl) (F : FnP K "_law_face" (topS 61) f fd) (hm : mg "_law_face" = some (.ref f)) (C_law_blank : Cal P w K mg base cl "_law_blank" [] 1 f_law_blank) : FnOk P w K mg base (L2.CX P w) 2 f fd ["_law_form"] (spOf K cl 1 f_law_face) := by
  refine (fn_ok (N := N_law_face) (ps := ["_law_form"]) (b := m_law_face) (k := 1) F sc_law_face fun cdv A outer s H E hr => ?_).imp sp_cut
  exact s_one (s_ret (v_op op_rep01 ops_repT (v_tup (a_cons (v_tup (a_cons (v_op op_sub ops_sub (v_ix (v_var 0) (v_int)) (v_int)) (a_cons (v_call0 C_law_blank hr) (a_nil)))) (a_nil))) (v_ix (v_var 0) (v_int))))
theorem ok_law_face {P : Program} {w : World} {K : PySem.W.Frag} {mg : Str → Option Value} {base : Heap} {cl : Cl} {f : Addr} {fd : FuncData} (Fc : Fac K mg cl) (F : FnP K "_law_face" (topS 61) f fd) (hm : mg "_law_face" = some (.ref f)) (C_law_blank : Cal P w K mg base cl "_law_blank" [] 1 f_law_blank) : Cal P w K mg base cl "_law_face" ["_law_form"] 2 f_law_face := ⟨f, fd, hm, F.kp, (F.bindsN fun _ _ _ _ _ _ us hl => match us, hl with | [_], _ => rfl), fo_law_face Fc F hm C_law_blank⟩
theorem sc_law_fates : FnScope N_law_fates ["_law_tin", "_law_many_so"] (defScope (topS 62)) := ⟨rfl, rfl, rfl, by decide +kernel, rfl, by decide +kernel, by decide +kernel⟩
theorem fo_law_fates {P : Program} {w : World} {K : PySem.W.Frag} {mg : Str → Option Value} {base : Heap} {cl : Cl} {f : Addr} {fd : FuncData} (Fc : Fac K mg cl) (F : FnP K "_law_fates" (topS 62) f fd) (hm : mg "_law_fates" = some (.ref f)) (C_law_of : Cal P w K mg base cl "_law_of" ["_law_tin", "_law_goods_so"] 2 f_law_of) : FnOk P w K mg base (L2.CX P w) 3 f fd ["_law_tin", "_law_many_so"] (spOf K cl 2 f_law_fates) := by
  refine (fn_ok (N := N_law_fates) (ps := ["_law_tin", "_law_many_so"]) (b := m_law_fates) (k := 2) F sc_law_fates fun cdv A outer s H E hr => ?_).imp sp_cut
  exact s_one (s_ret (v_callTy call_tuple_of cas_tupleOf Fc.tuple boot_tuple (a_cons (v_lc1 rfl sc_law_fates.nd (i_rng1 Fc.range (a_cons (v_var 1) (a_nil))) (blkOk_by (N := N_law_fates) (sc := defScope (topS 62)) (own := [("_law_lap_here", 2)]) (by decide +kernel)) (fun _ _ _ _ _ => pg_name (i := 2) sc_law_fates.nd rfl (Or.inl rfl)) (fun _ _ _ _ _ => ts_nil) (fun _ _ _ _ _ => v_call C_law_of hr takes0 (a_cons (v_var 0) (a_cons (v_lst (a_cons (v_str) (a_cons (v_str) (a_cons (v_str) (a_nil))))) (a_nil))))) (a_nil))))
theorem ok_law_fates {P : Program} {w : World} {K : PySem.W.Frag} {mg : Str → Option Value} {base : Heap} {cl : Cl} {f : Addr} {fd : FuncData} (Fc : Fac K mg cl) (F : FnP K "_law_fates" (topS 62) f fd) (hm : mg "_law_fates" = some (.ref f)) (C_law_of : Cal P w K mg base cl "_law_of" ["_law_tin", "_law_goods_so"] 2 f_law_of) : Cal P w K mg base cl "_law_fates" ["_law_tin", "_law_many_so"] 3 f_law_fates := ⟨f, fd, hm, F.kp, (F.bindsN fun _ _ _ _ _ _ us hl => match us, hl with | [_, _], _ => rfl), fo_law_fates Fc F hm C_law_of⟩
theorem sc_law_fallen : FnScope N_law_fallen ["_law_cells_so", "_law_flight_so", "_law_fates_so"] (defScope (topS 63)) := ⟨rfl, rfl, rfl, by decide +kernel, rfl, by decide +kernel, by decide +kernel⟩
theorem fo_law_fallen {P : Program} {w : World} {K : PySem.W.Frag} {mg : Str → Option Value} {base : Heap} {cl : Cl} {f : Addr} {fd : FuncData} (Fc : Fac K mg cl) (F : FnP K "_law_fallen" (topS 63) f fd) (hm : mg "_law_fallen" = some (.ref f)) : FnOk P w K mg base (L2.CX P w) 1 f fd ["_law_cells_so", "_law_flight_so", "_law_fates_so"] (spOf K cl 3 f_law_fallen) := by
  refine (fn_ok (N := N_law_fallen) (ps := ["_law_cells_so", "_law_flight_so", "_law_fates_so"]) (b := m_law_fallen) (k := 0) F sc_law_fallen fun cdv A outer s H E hr => ?_).imp (sp_raw (h := rfl))
  have hu : (cxOf (L2.CX P w) P w K mg base N_law_fallen "_law_fallen" (defScope (topS 63)) f cdv A outer s H E).A.units + 64 < cLine := hr.units
  have hp : PassesOwn (model P w) (cxOf (L2.CX P w) P w K mg base N_law_fallen "_law_fallen" (defScope (topS 63)) f cdv A outer s H E).A (cxOf (L2.CX P w) P w K mg base N_law_fallen "_law_fallen" (defScope (topS 63)) f cdv A outer s H E).env (cxOf (L2.CX P w) P w K mg base N_law_fallen "_law_fallen" (defScope (topS 63)) f cdv A outer s H E).xe := passes_of rfl
  exact s_cons (s_asg (v_callTy call_list_of cas_listOfO Fc.list boot_list (a_cons (v_var 0) (a_nil))) (g_nm 3 sc_law_fallen.nd)) (s_cons (s_for hp rfl (i_zip Fc.zip (a_cons (v_var 1) (a_cons (v_var 2) (a_nil)))) (g_tp rfl (g_cs (g_nm 4 sc_law_fallen.nd) (g_cs (g_nm 5 sc_law_fallen.nd) (g_nl)))) (s_one (s_if (t_cmp (op_neP hu) ops_eq (v_var 5) (v_str)) (s_one (s_asg (v_if (t_cmp (op_eqP hu) ops_eq (v_var 5) (v_str)) (v_ix (v_var 4) (v_int)) (v_tup (a_cons (v_str) (a_nil)))) (g_sb (v_var 3) (v_ix (v_var 4) (v_int))))) (s_nil)))) (s_one (s_ret (v_var 3))))
theorem ok_law_fallen {P : Program} {w : World} {K : PySem.W.Frag} {mg : Str → Option Value} {base : Heap} {cl : Cl} {f : Addr} {fd : FuncData} (Fc : Fac K mg cl) (F : FnP K "_law_fallen" (topS 63) f fd) (hm : mg "_law_fallen" = some (.ref f)) : Cal P w K mg base cl "_law_fallen" ["_law_cells_so", "_law_flight_so", "_law_fates_so"] 1 f_law_fallen := ⟨f, fd, hm, F.kp, (F.bindsN fun _ _ _ _ _ _ us hl => match us, hl with | [_, _, _], _ => rfl), fo_law_fallen Fc F hm⟩
theorem sc_law_mending : FnScope N_law_mending ["_law_form", "_law_face_here"] (defScope (topS 64)) := ⟨rfl, rfl, rfl, by decide +kernel, rfl, by decide +kernel, by decide +kernel⟩
theorem fo_law_mending {P : Program} {w : World} {K : PySem.W.Frag} {mg : Str → Option Value} {base : Heap} {cl : Cl} {f : Addr} {fd : FuncData} (Fc : Fac K mg cl) (F : FnP K "_law_mending" (topS 64) f fd) (hm : mg "_law_mending" = some (.ref f)) (C_law_answer : Cal P w K mg base cl "_law_answer" ["_law_form", "_law_face_here"] 4 f_law_answer) (C_law_shows : Cal P w K mg base cl "_law_shows" ["_law_form", "_law_face_here", "_law_n"] 2 f_law_shows) (C_law_blank : Cal P w K mg base cl "_law_blank" [] 1 f_law_blank) (C_law_lap : Cal P w K mg base cl "_law_lap" ["_law_form", "_law_n"] 1 f_law_lap) : FnOk P w K mg base (L2.CX P w) 5 f fd ["_law_form", "_law_face_here"] (spOf K cl 2 f_law_mending) := by
  replace C_law_shows := C_law_shows.up (lv' := 4) (by decide)
  replace C_law_blank := C_law_blank.up (lv' := 4) (by decide)
  replace C_law_lap := C_law_lap.up (lv' := 4) (by decide)
  refine (fn_ok (N := N_law_mending) (ps := ["_law_form", "_law_face_here"]) (b := m_law_mending) (k := 4) F sc_law_mending fun cdv A outer s H E hr => ?_).imp sp_frz
  have hu : (cxOf (L2.CX P w) P w K mg base N_law_mending "_law_mending" (defScope (topS 64)) f cdv A outer s H E).A.units + 64 < cLine := hr.units
  have tk : Takes (cxOf (L2.CX P w) P w K mg base N_law_mending "_law_mending" (defScope (topS 64)) f cdv A outer s H E) (fun c d _ H => E c d H) := takes_of rfl rfl rfl rfl
  have hp : PassesOwn (model P w) (cxOf (L2.CX P w) P w K mg base N_law_mending "_law_mending" (defScope (topS 64)) f cdv A outer s H E).A (cxOf (L2.CX P w) P w K mg base N_law_mending "_law_mending" (defScope (topS 64)) f cdv A outer s H E).env (cxOf (L2.CX P w) P w K mg base N_law_mending "_law_mending" (defScope (topS 64)) f cdv A outer s H E).xe := passes_of rfl
  exact s_cons (s_par rfl sc_law_mending.nd rfl rfl (by decide) rfl rfl (a_cons (v_call C_law_answer hr tk (a_cons (v_var 0) (a_cons (v_var 1) (a_nil)))) (a_cons (v_lstO (a_nil)) (a_nil))) rfl) (s_cons (s_for hp rfl (i_rng1 Fc.range (a_cons (v_ix (v_var 0) (v_int)) (a_nil))) (g_nm 4 sc_law_mending.nd) (s_cons (s_par rfl sc_law_mending.nd rfl rfl (by decide) rfl rfl (a_cons (v_op op_mod ops_mod (v_callTy call_int1 cas_int Fc.int boot_int (a_cons (v_op op_add ops_add (v_var 2) (v_var 4)) (a_nil))) (v_ix (v_var 0) (v_int))) (a_cons (v_op op_sub ops_sub (v_op op_add ops_add (v_var 2) (v_var 4)) (v_ix (v_var 0) (v_int))) (a_nil))) rfl) (s_one (s_if ((w_and (t_cmp (op_neP hu) ops_eq (v_ix (v_var 1) (v_var 5)) (v_tup (a_cons (v_str) (a_nil)))) (w_and1 (t_not (t_val (v_call C_law_shows hr tk (a_cons (v_var 0) (a_cons (v_var 1) (a_cons (v_var 6) (a_nil))))))))).pt) (s_one (s_app (v_var 3) (v_tup (a_cons (v_var 5) (a_cons (v_tup (a_cons (v_call C_law_lap hr tk (a_cons (v_var 0) (a_cons (v_var 6) (a_nil)))) (a_cons (v_call0 C_law_blank hr) (a_nil)))) (a_nil)))))) (s_nil))))) (s_one (s_ret (v_var 3))))
theorem ok_law_mending {P : Program} {w : World} {K : PySem.W.Frag} {mg : Str → Option Value} {base : Heap} {cl : Cl} {f : Addr} {fd : FuncData} (Fc : Fac K mg cl) (F : FnP K "_law_mending" (topS 64) f fd) (hm : mg "_law_mending" = some (.ref f)) (C_law_answer : Cal P w K mg base cl "_law_answer" ["_law_form", "_law_face_here"] 4 f_law_answer) (C_law_shows : Cal P w K mg base cl "_law_shows" ["_law_form", "_law_face_here", "_law_n"] 2 f_law_shows) (C_law_blank : Cal P w K mg base cl "_law_blank" [] 1 f_law_blank) (C_law_lap : Cal P w K mg base cl "_law_lap" ["_law_form", "_law_n"] 1 f_law_lap) : Cal P w K mg base cl "_law_mending" ["_law_form", "_law_face_here"] 5 f_law_mending := ⟨f, fd, hm, F.kp, (F.bindsN fun _ _ _ _ _ _ us hl => match us, hl with | [_, _], _ => rfl), fo_law_mending Fc F hm C_law_answer C_law_shows C_law_blank C_law_lap⟩
theorem sc_law_is_note : FnScope N_law_is_note ["_law_note_here"] (defScope (topS 65)) := ⟨rfl, rfl, rfl, by decide +kernel, rfl, by decide +kernel, by decide +kernel⟩
theorem fo_law_is_note {P : Program} {w : World} {K : PySem.W.Frag} {mg : Str → Option Value} {base : Heap} {cl : Cl} {f : Addr} {fd : FuncData} (Fc : Fac K mg cl) (F : FnP K "_law_is_note" (topS 65) f fd) (hm : mg "_law_is_note" = some (.ref f)) : FnOk P w K mg base (L2.CX P w) 1 f fd ["_law_note_here"] (spOf K cl 1 f_law_is_note) := by
  refine (fn_ok (N := N_law_is_note) (ps := ["_law_note_here"]) (b := m_law_is_note) (k := 0) F sc_law_is_note fun cdv A outer s H E hr => ?_).imp sp_cut
  have hu1 : (cxOf (L2.CX P w) P w K mg base N_law_is_note "_law_is_note" (defScope (topS 65)) f cdv A outer s H E).A.units + 1 < cLine := Nat.lt_of_le_of_lt (Nat.add_le_add_left (by decide) _) hr.units
  have hu : (cxOf (L2.CX P w) P w K mg base N_law_is_note "_law_is_note" (defScope (topS 65)) f cdv A outer s H E).A.units + 64 < cLine := hr.units
  exact s_cons (s_if ((w_or (t_not (t_val (v_isi ok_tuple Fc.isinstance Fc.tuple boot_tuple (v_var 0)))) (w_or (t_cmp (op_eqP hu) ops_eq (v_var 0) (v_tup (a_nil))) (w_or1 (t_cmp (op_notInP hu) ops_in (v_ix (v_var 0) (v_int)) (v_tup (a_cons (v_str) (a_cons (v_str) (a_cons (v_str) (a_nil))))))))).pt) (s_one (s_ret (v_bl))) (s_nil)) (s_cons (s_asg (v_dic3 hu1 (v_ix (v_var 0) (v_int))) (g_nm 1 sc_law_is_note.nd)) (s_cons (s_if ((w_or (t_cmp (op_neP hu) ops_eq (v_callB call_len cas_len Fc.len boot_len (a_cons (v_var 0) (a_nil))) (v_var 1)) (w_or1 (t_cmp (op_neP hu) ops_eq (v_lc1 rfl sc_law_is_note.nd (i_seq (v_sl (v_var 0) (o_some (v_int)) (o_some (v_op op_sub ops_sub (v_var 1) (v_int))))) (blkOk_by (N := N_law_is_note) (sc := defScope (topS 65)) (own := [("_law_own", 2)]) (by decide +kernel)) (fun _ _ _ _ _ => pg_name (i := 2) sc_law_is_note.nd rfl (Or.inl rfl)) (fun _ _ _ _ _ => ts_one (t_not (t_val (v_isi ok_str Fc.isinstance Fc.str boot_str (v_var 2))))) (fun _ _ _ _ _ => v_int)) (v_lst (a_nil))))).pt) (s_one (s_ret (v_bl))) (s_nil)) (s_one (s_ret (v_cmp (op_eqP hu) ops_eq (v_lc1 rfl sc_law_is_note.nd (i_seq (v_sl (v_var 0) (o_some (v_callB (call_max2 rfl) cas_max Fc.max boot_max (a_cons (v_int) (a_cons (v_op op_sub ops_sub (v_var 1) (v_int)) (a_nil))))) o_none)) (blkOk_by (N := N_law_is_note) (sc := defScope (topS 65)) (own := [("_law_own", 2)]) (by decide +kernel)) (fun _ _ _ _ _ => pg_name (i := 2) sc_law_is_note.nd rfl (Or.inl rfl)) (fun _ _ _ _ _ => ts_one ((w_or (t_not (t_val (v_isi ok_int Fc.isinstance Fc.int boot_int (v_var 2)))) (w_or1 (t_val (v_isi ok_bool Fc.isinstance Fc.bool boot_bool (v_var 2))))).pt)) (fun _ _ _ _ _ => v_int)) (v_lst (a_nil)))))))
theorem ok_law_is_note {P : Program} {w : World} {K : PySem.W.Frag} {mg : Str → Option Value} {base : Heap} {cl : Cl} {f : Addr} {fd : FuncData} (Fc : Fac K mg cl) (F : FnP K "_law_is_note" (topS 65) f fd) (hm : mg "_law_is_note" = some (.ref f)) : Cal P w K mg base cl "_law_is_note" ["_law_note_here"] 1 f_law_is_note := ⟨f, fd, hm, F.kp, (F.bindsN fun _ _ _ _ _ _ us hl => match us, hl with | [_], _ => rfl), fo_law_is_note Fc F hm⟩
theorem sc_law_are_fates : FnScope N_law_are_fates ["_law_fates_so", "_law_many_so"] (defScope (topS 66)) := ⟨rfl, rfl, rfl, by decide +kernel, rfl, by decide +kernel, by decide +kernel⟩
theorem fo_law_are_fates {P : Program} {w : World} {K : PySem.W.Frag} {mg : Str → Option Value} {base : Heap} {cl : Cl} {f : Addr} {fd : FuncData} (Fc : Fac K mg cl) (F : FnP K "_law_are_fates" (topS 66) f fd) (hm : mg "_law_are_fates" = some (.ref f)) : FnOk P w K mg base (L2.CX P w) 1 f fd ["_law_fates_so", "_law_many_so"] (spOf K cl 2 f_law_are_fates) := by
  refine (fn_ok (N := N_law_are_fates) (ps := ["_law_fates_so", "_law_many_so"]) (b := m_law_are_fates) (k := 0) F sc_law_are_fates fun cdv A outer s H E hr => ?_).imp sp_cut
  have hu : (cxOf (L2.CX P w) P w K mg base N_law_are_fates "_law_are_fates" (defScope (topS 66)) f cdv A outer s H E).A.units + 64 < cLine := hr.units
  exact s_cons (s_if ((w_or (t_not (t_val (v_isi ok_tuple Fc.isinstance Fc.tuple boot_tuple (v_var 0)))) (w_or1 (t_cmp (op_neP hu) ops_eq (v_callB call_len cas_len Fc.len boot_len (a_cons (v_var 0) (a_nil))) (v_var 1)))).pt) (s_one (s_ret (v_bl))) (s_nil)) (s_one (s_ret (v_cmp (op_eqP hu) ops_eq (v_lc1 rfl sc_law_are_fates.nd (i_seq (v_var 0)) (blkOk_by (N := N_law_are_fates) (sc := defScope (topS 66)) (own := [("_law_own", 2)]) (by decide +kernel)) (fun _ _ _ _ _ => pg_name (i := 2) sc_law_are_fates.nd rfl (Or.inl rfl)) (fun _ _ _ _ _ => ts_one (t_cmp (op_notInP hu) ops_in (v_var 2) (v_tup (a_cons (v_str) (a_cons (v_str) (a_cons (v_str) (a_nil))))))) (fun _ _ _ _ _ => v_int)) (v_lst (a_nil)))))
theorem ok_law_are_fates {P : Program} {w : World} {K : PySem.W.Frag} {mg : Str → Option Value} {base : Heap} {cl : Cl} {f : Addr} {fd : FuncData} (Fc : Fac K mg cl) (F : FnP K "_law_are_fates" (topS 66) f fd) (hm : mg "_law_are_fates" = some (.ref f)) : Cal P w K mg base cl "_law_are_fates" ["_law_fates_so", "_law_many_so"] 1 f_law_are_fates := ⟨f, fd, hm, F.kp, (F.bindsN fun _ _ _ _ _ _ us hl => match us, hl with | [_, _], _ => rfl), fo_law_are_fates Fc F hm⟩
theorem sc_law_alone : FnScope N_law_alone ["_law_form", "_law_face_here"] (defScope (topS 67)) := ⟨rfl, rfl, rfl, by decide +kernel, rfl, by decide +kernel, by decide +kernel⟩
theorem fo_law_alone {P : Program} {w : World} {K : PySem.W.Frag} {mg : Str → Option Value} {base : Heap} {cl : Cl} {f : Addr} {fd : FuncData} (Fc : Fac K mg cl) (F : FnP K "_law_alone" (topS 67) f fd) (hm : mg "_law_alone" = some (.ref f)) (C_law_answer : Cal P w K mg base cl "_law_answer" ["_law_form", "_law_face_here"] 4 f_law_answer) (C_law_shows : Cal P w K mg base cl "_law_shows" ["_law_form", "_law_face_here", "_law_n"] 2 f_law_shows) (C_law_blank : Cal P w K mg base cl "_law_blank" [] 1 f_law_blank) (C_law_lap : Cal P w K mg base cl "_law_lap" ["_law_form", "_law_n"] 1 f_law_lap) : FnOk P w K mg base (L2.CX P w) 5 f fd ["_law_form", "_law_face_here"] (spOf K cl 2 f_law_alone) := by
  replace C_law_shows := C_law_shows.up (lv' := 4) (by decide)
  replace C_law_blank := C_law_blank.up (lv' := 4) (by decide)
  replace C_law_lap := C_law_lap.up (lv' := 4) (by decide)
  refine (fn_ok (N := N_law_alone) (ps := ["_law_form", "_law_face_here"]) (b := m_law_alone) (k := 4) F sc_law_alone fun cdv A outer s H E hr => ?_).imp (sp_raw (h := rfl))
  have tk : Takes (cxOf (L2.CX P w) P w K mg base N_law_alone "_law_alone" (defScope (topS 67)) f cdv A outer s H E) (fun c d _ H => E c d H) := takes_of rfl rfl rfl rfl
  have hp : PassesOwn (model P w) (cxOf (L2.CX P w) P w K mg base N_law_alone "_law_alone" (defScope (topS 67)) f cdv A outer s H E).A (cxOf (L2.CX P w) P w K mg base N_law_alone "_law_alone" (defScope (topS 67)) f cdv A outer s H E).env (cxOf (L2.CX P w) P w K mg base N_law_alone "_law_alone" (defScope (topS 67)) f cdv A outer s H E).xe := passes_of rfl
  exact s_cons (s_par rfl sc_law_alone.nd rfl rfl (by decide) rfl rfl (a_cons (v_call C_law_answer hr tk (a_cons (v_var 0) (a_cons (v_var 1) (a_nil)))) (a_cons (v_callTy call_list_of cas_listOfO Fc.list boot_list (a_cons (v_var 1) (a_nil))) (a_nil))) rfl) (s_cons (s_for hp rfl (i_rng1 Fc.range (a_cons (v_ix (v_var 0) (v_int)) (a_nil))) (g_nm 4 sc_law_alone.nd) (s_one (s_if (t_val (v_call C_law_shows hr tk (a_cons (v_var 0) (a_cons (v_var 1) (a_cons (v_op op_add ops_add (v_var 2) (v_var 4)) (a_nil)))))) (s_one (s_asg (v_tup (a_cons (v_call C_law_lap hr tk (a_cons (v_var 0) (a_cons (v_op op_sub ops_sub (v_op op_add ops_add (v_var 2) (v_var 4)) (v_ix (v_var 0) (v_int))) (a_nil)))) (a_cons (v_call0 C_law_blank hr) (a_nil)))) (g_sb (v_var 3) (v_op op_mod ops_mod (v_callTy call_int1 cas_int Fc.int boot_int (a_cons (v_op op_add ops_add (v_var 2) (v_var 4)) (a_nil))) (v_ix (v_var 0) (v_int)))))) (s_nil)))) (s_one (s_ret (v_var 3))))
theorem ok_law_alone {P : Program} {w : World} {K : PySem.W.Frag} {mg : Str → Option Value} {base : Heap} {cl : Cl} {f : Addr} {fd : FuncData} (Fc : Fac K mg cl) (F : FnP K "_law_alone" (topS 67) f fd) (hm : mg "_law_alone" = some (.ref f)) (C_law_answer : Cal P w K mg base cl "_law_answer" ["_law_form", "_law_face_here"] 4 f_law_answer) (C_law_shows : Cal P w K mg base cl "_law_shows" ["_law_form", "_law_face_here", "_law_n"] 2 f_law_shows) (C_law_blank : Cal P w K mg base cl "_law_blank" [] 1 f_law_blank) (C_law_lap : Cal P w K mg base cl "_law_lap" ["_law_form", "_law_n"] 1 f_law_lap) : Cal P w K mg base cl "_law_alone" ["_law_form", "_law_face_here"] 5 f_law_alone := ⟨f, fd, hm, F.kp, (F.bindsN fun _ _ _ _ _ _ us hl => match us, hl with | [_, _], _ => rfl), fo_law_alone Fc F hm C_law_answer C_law_shows C_law_blank C_law_lap⟩
theorem sc_law_mended : FnScope N_law_mended ["_law_form", "_law_face_here"] (defScope (topS 68)) := ⟨rfl, rfl, rfl, by decide +kernel, rfl, by decide +kernel, by decide +kernel⟩
theorem fo_law_mended {P : Program} {w : World} {K : PySem.W.Frag} {mg : Str → Option Value} {base : Heap} {cl : Cl} {f : Addr} {fd : FuncData} (Fc : Fac K mg cl) (F : FnP K "_law_mended" (topS 68) f fd) (hm : mg "_law_mended" = some (.ref f)) (C_law_mending : Cal P w K mg base cl "_law_mending" ["_law_form", "_law_face_here"] 5 f_law_mending) : FnOk P w K mg base (L2.CX P w) 6 f fd ["_law_form", "_law_face_here"] (spOf K cl 2 f_law_mended) := by
  refine (fn_ok (N := N_law_mended) (ps := ["_law_form", "_law_face_here"]) (b := m_law_mended) (k := 5) F sc_law_mended fun cdv A outer s H E hr => ?_).imp (sp_raw (h := rfl))
  have tk : Takes (cxOf (L2.CX P w) P w K mg base N_law_mended "_law_mended" (defScope (topS 68)) f cdv A outer s H E) (fun c d _ H => E c d H) := takes_of rfl rfl rfl rfl
  have hp : PassesOwn (model P w) (cxOf (L2.CX P w) P w K mg base N_law_mended "_law_mended" (defScope (topS 68)) f cdv A outer s H E).A (cxOf (L2.CX P w) P w K mg base N_law_mended "_law_mended" (defScope (topS 68)) f cdv A outer s H E).env (cxOf (L2.CX P w) P w K mg base N_law_mended "_law_mended" (defScope (topS 68)) f cdv A outer s H E).xe := passes_of rfl
  exact s_cons (s_asg (v_callTy call_list_of cas_listOfO Fc.list boot_list (a_cons (v_var 1) (a_nil))) (g_nm 2 sc_law_mended.nd)) (s_cons (s_for hp rfl (i_seq (v_call C_law_mending hr tk (a_cons (v_var 0) (a_cons (v_var 1) (a_nil))))) (g_nm 3 sc_law_mended.nd) (s_one (s_asg (v_ix (v_var 3) (v_int)) (g_sb (v_var 2) (v_ix (v_var 3) (v_int)))))) (s_one (s_ret (v_var 2))))
theorem ok_law_mended {P : Program} {w : World} {K : PySem.W.Frag} {mg : Str → Option Value} {base : Heap} {cl : Cl} {f : Addr} {fd : FuncData} (Fc : Fac K mg cl) (F : FnP K "_law_mended" (topS 68) f fd) (hm : mg "_law_mended" = some (.ref f)) (C_law_mending : Cal P w K mg base cl "_law_mending" ["_law_form", "_law_face_here"] 5 f_law_mending) : Cal P w K mg base cl "_law_mended" ["_law_form", "_law_face_here"] 6 f_law_mended := ⟨f, fd, hm, F.kp, (F.bindsN fun _ _ _ _ _ _ us hl => match us, hl with | [_, _], _ => rfl), fo_law_mended Fc F hm C_law_mending⟩
theorem sc_law_frame : FnScope N_law_frame ["_law_form"] (defScope (topS 69)) := ⟨rfl, rfl, rfl, by decide +kernel, rfl, by decide +kernel, by decide +kernel⟩
theorem fo_law_frame {P : Program} {w : World} {K : PySem.W.Frag} {mg : Str → Option Value} {base : Heap} {cl : Cl} {f : Addr} {fd : FuncData} (Fc : Fac K mg cl) (F : FnP K "_law_frame" (topS 69) f fd) (hm : mg "_law_frame" = some (.ref f)) (C_law_face : Cal P w K mg base cl "_law_face" ["_law_form"] 2 f_law_face) : FnOk P w K mg base (L2.CX P w) 3 f fd ["_law_form"] (spOf K cl 1 f_law_frame) := by
  refine (fn_ok (N := N_law_frame) (ps := ["_law_form"]) (b := m_law_frame) (k := 2) F sc_law_frame fun cdv A outer s H E hr => ?_).imp (sp_raw (h := rfl))
  have tk : Takes (cxOf (L2.CX P w) P w K mg base N_law_frame "_law_frame" (defScope (topS 69)) f cdv A outer s H E) (fun c d _ H => E c d H) := takes_of rfl rfl rfl rfl
  exact s_one (s_ret (v_lstO (a_cons (v_callTy call_list_of cas_listOfO Fc.list boot_list (a_cons (v_call C_law_face hr tk (a_cons (v_var 0) (a_nil))) (a_nil))) (a_cons (v_lstO (a_nil)) (a_cons (v_int) (a_cons (v_int) (a_cons (v_int) (a_cons (v_bl) (a_cons (v_int) (a_nil))))))))))
theorem ok_law_frame {P : Program} {w : World} {K : PySem.W.Frag} {mg : Str → Option Value} {base : Heap} {cl : Cl} {f : Addr} {fd : FuncData} (Fc : Fac K mg cl) (F : FnP K "_law_frame" (topS 69) f fd) (hm : mg "_law_frame" = some (.ref f)) (C_law_face : Cal P w K mg base cl "_law_face" ["_law_form"] 2 f_law_face) : Cal P w K mg base cl "_law_frame" ["_law_form"] 3 f_law_frame := ⟨f, fd, hm, F.kp, (F.bindsN fun _ _ _ _ _ _ us hl => match us, hl with | [_], _ => rfl), fo_law_frame Fc F hm C_law_face⟩
theorem sc_law_settle : FnScope N_law_settle ["_law_frame_here"] (defScope (topS 70)) := ⟨rfl, rfl, rfl, by decide +kernel, rfl, by decide +kernel, by decide +kernel⟩
theorem fo_law_settle {P : Program} {w : World} {K : PySem.W.Frag} {mg : Str → Option Value} {base : Heap} {cl : Cl} {f : Addr} {fd : FuncData} (Fc : Fac K mg cl) (F : FnP K "_law_settle" (topS 70) f fd) (hm : mg "_law_settle" = some (.ref f)) : FnOk P w K mg base (L2.CX P w) 1 f fd ["_law_frame_here"] (spOf K cl 1 f_law_settle) := by
  refine (fn_ok (N := N_law_settle) (ps := ["_law_frame_here"]) (b := m_law_settle) (k := 0) F sc_law_settle fun cdv A outer s H E hr => ?_).imp (sp_raw (h := rfl))
  have hp : PassesOwn (model P w) (cxOf (L2.CX P w) P w K mg base N_law_settle "_law_settle" (defScope (topS 70)) f cdv A outer s H E).A (cxOf (L2.CX P w) P w K mg base N_law_settle "_law_settle" (defScope (topS 70)) f cdv A outer s H E).env (cxOf (L2.CX P w) P w K mg base N_law_settle "_law_settle" (defScope (topS 70)) f cdv A outer s H E).xe := passes_of rfl
  exact s_cons (s_for hp rfl (i_seq (v_ix (v_var 0) (v_int))) (g_nm 1 sc_law_settle.nd) (s_one (s_asg (v_ix (v_var 1) (v_int)) (g_sb (v_ix (v_var 0) (v_int)) (v_ix (v_var 1) (v_int)))))) (s_one (s_mul rfl (a_cons (v_lstO (a_nil)) (a_cons (v_ix (v_var 0) (v_int)) (a_nil))) (g_cs (g_sb (v_var 0) (v_int)) (g_cs (g_sb (v_var 0) (v_int)) (g_nl)))))
theorem ok_law_settle {P : Program} {w : World} {K : PySem.W.Frag} {mg : Str → Option Value} {base : Heap} {cl : Cl} {f : Addr} {fd : FuncData} (Fc : Fac K mg cl) (F : FnP K "_law_settle" (topS 70) f fd) (hm : mg "_law_settle" = some (.ref f)) : Cal P w K mg base cl "_law_settle" ["_law_frame_here"] 1 f_law_settle := ⟨f, fd, hm, F.kp, (F.bindsN fun _ _ _ _ _ _ us hl => match us, hl with | [_], _ => rfl), fo_law_settle Fc F hm⟩
theorem sc_law_is_count : FnScope N_law_is_count ["_law_own", "_law_most_so"] (defScope (topS 72)) := ⟨rfl, rfl, rfl, by decide +kernel, rfl, by decide +kernel, by decide +kernel⟩
theorem fo_law_is_count {P : Program} {w : World} {K : PySem.W.Frag} {mg : Str → Option Value} {base : Heap} {cl : Cl} {f : Addr} {fd : FuncData} (Fc : Fac K mg cl) (F : FnP K "_law_is_count" (topS 72) f fd) (hm : mg "_law_is_count" = some (.ref f)) : FnOk P w K mg base (L2.CX P w) 1 f fd ["_law_own", "_law_most_so"] (spOf K cl 2 f_law_is_count) := by
  refine (fn_ok (N := N_law_is_count) (ps := ["_law_own", "_law_most_so"]) (b := m_law_is_count) (k := 0) F sc_law_is_count fun cdv A outer s H E hr => ?_).imp sp_cut
  exact s_one (s_ret (v_and (v_isi ok_int Fc.isinstance Fc.int boot_int (v_var 0)) (v_and (v_not (v_isi ok_bool Fc.isinstance Fc.bool boot_bool (v_var 0))) (v_one (v_chain op_le ops_le op_le ops_le (v_int) (v_var 0) (v_var 1))))))
theorem ok_law_is_count {P : Program} {w : World} {K : PySem.W.Frag} {mg : Str → Option Value} {base : Heap} {cl : Cl} {f : Addr} {fd : FuncData} (Fc : Fac K mg cl) (F : FnP K "_law_is_count" (topS 72) f fd) (hm : mg "_law_is_count" = some (.ref f)) : Cal P w K mg base cl "_law_is_count" ["_law_own", "_law_most_so"] 1 f_law_is_count := ⟨f, fd, hm, F.kp, (F.bindsN fun _ _ _ _ _ _ us hl => match us, hl with | [_, _], _ => rfl), fo_law_is_count Fc F hm⟩
end Hr
set_option Elab.async false
set_option linter.all false
set_option maxRecDepth 100000
set_option maxHeartbeats 4000000
namespace Hr
open PySem PySem.Spec PyProof.Rows L2
theorem sc_law_dealt : FnScope N_law_dealt ["_law_form", "_law_frame_here", "_law_deal", "_law_lone_so"] (defScope (topS 71)) := ⟨rfl, rfl, rfl, by decide +kernel, rfl, by decide +kernel, by decide +kernel⟩
theorem fo_law_dealt {P : Program} {w : World} {K : PySem.W.Frag} {mg : Str → Option Value} {base : Heap} {cl : Cl} {f : Addr} {fd : FuncData} (Fc : Fac K mg cl) (F : FnP K "_law_dealt" (topS 71) f fd) (hm : mg "_law_dealt" = some (.ref f)) (C_law_is_note : Cal P w K mg base cl "_law_is_note" ["_law_note_here"] 1 f_law_is_note) (C_law_settle : Cal P w K mg base cl "_law_settle" ["_law_frame_here"] 1 f_law_settle) (C_law_lap : Cal P w K mg base cl "_law_lap" ["_law_form", "_law_n"] 1 f_law_lap) (C_law_are_fates : Cal P w K mg base cl "_law_are_fates" ["_law_fates_so", "_law_many_so"] 1 f_law_are_fates) (C_law_fallen : Cal P w K mg base cl "_law_fallen" ["_law_cells_so", "_law_flight_so", "_law_fates_so"] 1 f_law_fallen) (C_law_answer : Cal P w K mg base cl "_law_answer" ["_law_form", "_law_face_here"] 4 f_law_answer) (C_law_mending : Cal P w K mg base cl "_law_mending" ["_law_form", "_law_face_here"] 5 f_law_mending) (C_law_is_count : Cal P w K mg base cl "_law_is_count" ["_law_own", "_law_most_so"] 1 f_law_is_count) (C_law_alone : Cal P w K mg base cl "_law_alone" ["_law_form", "_law_face_here"] 5 f_law_alone) (C_law_mended : Cal P w K mg base cl "_law_mended" ["_law_form", "_law_face_here"] 6 f_law_mended) : FnOk P w K mg base (L2.CX P w) 7 f fd ["_law_form", "_law_frame_here", "_law_deal", "_law_lone_so"] (spOf K cl 4 f_law_dealt) := by
  replace C_law_is_note := C_law_is_note.up (lv' := 6) (by decide)
  replace C_law_settle := C_law_settle.up (lv' := 6) (by decide)
  replace C_law_lap := C_law_lap.up (lv' := 6) (by decide)
  replace C_law_are_fates := C_law_are_fates.up (lv' := 6) (by decide)
  replace C_law_fallen := C_law_fallen.up (lv' := 6) (by decide)
  replace C_law_answer := C_law_answer.up (lv' := 6) (by decide)
  replace C_law_mending := C_law_mending.up (lv' := 6) (by decide)
  replace C_law_is_count := C_law_is_count.up (lv' := 6) (by decide)
  replace C_law_alone := C_law_alone.up (lv' := 6) (by decide)
  refine (fn_ok (N := N_law_dealt) (ps := ["_law_form", "_law_frame_here", "_law_deal", "_law_lone_so"]) (b := m_law_dealt) (k := 6) F sc_law_dealt fun cdv A outer s H E hr => ?_).imp (sp_raw (h := rfl))
  have hu : (cxOf (L2.CX P w) P w K mg base N_law_dealt "_law_dealt" (defScope (topS 71)) f cdv A outer s H E).A.units + 64 < cLine := hr.units
  have tk : Takes (cxOf (L2.CX P w) P w K mg base N_law_dealt "_law_dealt" (defScope (topS 71)) f cdv A outer s H E) (fun c d _ H => E c d H) := takes_of rfl rfl rfl rfl
  exact s_cons (s_if ((w_or (t_not (t_val (v_isi ok_tuple Fc.isinstance Fc.tuple boot_tuple (v_var 2)))) (w_or (t_cmp (op_eqP hu) ops_eq (v_var 2) (v_tup (a_nil))) (w_or1 (t_cmp (op_neP hu) ops_eq (v_cmp (op_inP hu) ops_in (v_ix (v_var 2) (v_int)) (v_tup (a_cons (v_str) (a_cons (v_str) (a_cons (v_str) (a_nil)))))) (v_ix (v_var 1) (v_int)))))).pt) (s_one (s_ret (v_bl))) (s_nil)) (s_cons (s_if ((w_and (t_cmp (op_eqP hu) ops_eq (v_ix (v_var 2) (v_int)) (v_str)) (w_and (t_cmp (op_eqP hu) ops_eq (v_callB call_len cas_len Fc.len boot_len (a_cons (v_var 2) (a_nil))) (v_int)) (w_and1 (t_val (v_call C_law_is_note hr tk (a_cons (v_ix (v_var 2) (v_int)) (a_nil))))))).pt) (s_cons (s_if (t_cmp (op_eqP hu) ops_eq (v_callB call_len cas_len Fc.len boot_len (a_cons (v_ix (v_var 1) (v_int)) (a_nil))) (v_ix (v_var 0) (v_int))) (s_one (s_drop (v_call C_law_settle hr tk (a_cons (v_var 1) (a_nil))))) (s_nil)) (s_cons (s_app (v_ix (v_var 1) (v_int)) (v_tup (a_cons (v_op op_mod ops_mod (v_callTy call_int1 cas_int Fc.int boot_int (a_cons (v_ix (v_var 1) (v_int)) (a_nil))) (v_ix (v_var 0) (v_int))) (a_cons (v_tup (a_cons (v_call C_law_lap hr tk (a_cons (v_var 0) (a_cons (v_ix (v_var 1) (v_int)) (a_nil)))) (a_cons (v_ix (v_var 2) (v_int)) (a_nil)))) (a_nil))))) (s_cons (s_asg (v_op op_add ops_add (v_ix (v_var 1) (v_int)) (v_int)) (g_sb (v_var 1) (v_int))) (s_one (s_ret (v_bl)))))) (s_nil)) (s_cons (s_if (t_cmp (op_eqP hu) ops_eq (v_var 2) (v_tup (a_cons (v_str) (a_nil)))) (s_cons (s_drop (v_call C_law_settle hr tk (a_cons (v_var 1) (a_nil)))) (s_one (s_ret (v_bl)))) (s_nil)) (s_cons (s_if ((w_and (t_cmp (op_eqP hu) ops_eq (v_ix (v_var 2) (v_int)) (v_str)) (w_and (t_cmp (op_eqP hu) ops_eq (v_callB call_len cas_len Fc.len boot_len (a_cons (v_var 2) (a_nil))) (v_int)) (w_and1 (t_val (v_call C_law_are_fates hr tk (a_cons (v_ix (v_var 2) (v_int)) (a_cons (v_callB call_len cas_len Fc.len boot_len (a_cons (v_ix (v_var 1) (v_int)) (a_nil))) (a_nil)))))))).pt) (s_cons (s_asg (v_op op_sub ops_sub (v_ix (v_var 1) (v_int)) (v_callB call_len cas_len Fc.len boot_len (a_cons (v_ix (v_var 1) (v_int)) (a_nil)))) (g_nm 4 sc_law_dealt.nd)) (s_cons (s_mul rfl (a_cons (v_call C_law_fallen hr tk (a_cons (v_ix (v_var 1) (v_int)) (a_cons (v_ix (v_var 1) (v_int)) (a_cons (v_ix (v_var 2) (v_int)) (a_nil))))) (a_cons (v_lstO (a_nil)) (a_nil))) (g_cs (g_sb (v_var 1) (v_int)) (g_cs (g_sb (v_var 1) (v_int)) (g_nl)))) (s_cons (s_setLc2 (by decide) rfl sc_law_dealt.nd rfl rfl (sw_true rfl rfl rfl (by decide +kernel)) (i_enum Fc.enumerate (a_cons (v_ix (v_var 2) (v_int)) (a_nil))) (blkOk_by (N := N_law_dealt) (sc := defScope (topS 71)) (own := [("_law_k", 9), ("_law_own", 10)]) (by decide +kernel)) (fun _ _ _ _ _ => pg_tup rfl (pgs_cons (pg_name (i := 9) sc_law_dealt.nd rfl (Or.inl rfl)) (pgs_cons (pg_name (i := 10) sc_law_dealt.nd rfl (Or.inl rfl)) pgs_nil))) (fun _ _ _ _ _ => ts_one (t_cmp (op_neP hu) ops_eq (v_var 10) (v_str))) (fun _ _ _ _ _ => v_var 9)) (s_cons (s_asg (v_op op_add ops_add (v_var 4) (v_ix (v_op op_cat ops_cat (v_var 5) (v_lst (a_cons (v_callB call_len cas_len Fc.len boot_len (a_cons (v_ix (v_var 2) (v_int)) (a_nil))) (a_nil)))) (v_int))) (g_sb (v_var 1) (v_int))) (s_cons (s_mul rfl (a_cons (v_var 4) (a_cons (v_ix (v_var 1) (v_int)) (a_cons (v_bl) (a_nil)))) (g_cs (g_sb (v_var 1) (v_int)) (g_cs (g_sb (v_var 1) (v_int)) (g_cs (g_sb (v_var 1) (v_int)) (g_nl))))) (s_one (s_ret (v_bl)))))))) (s_nil)) (s_cons (s_if ((w_or (t_cmp (op_notInP hu) ops_in (v_ix (v_var 2) (v_int)) (v_tup (a_cons (v_str) (a_cons (v_str) (a_nil))))) (w_or1 (t_isN (v_call C_law_answer hr tk (a_cons (v_var 0) (a_cons (v_ix (v_var 1) (v_int)) (a_nil))))))).pt) (s_one (s_ret (v_bl))) (s_nil)) (s_cons (s_if (t_cmp (op_eqP hu) ops_eq (v_ix (v_var 2) (v_int)) (v_str)) (s_cons (s_asg (v_call C_law_mending hr tk (a_cons (v_var 0) (a_cons (v_ix (v_var 1) (v_int)) (a_nil)))) (g_nm 6 sc_law_dealt.nd)) (s_cons (s_if ((w_or (t_cmp (op_neP hu) ops_eq (v_callB call_len cas_len Fc.len boot_len (a_cons (v_var 2) (a_nil))) (v_int)) (w_or (t_not (t_val (v_call C_law_is_count hr tk (a_cons (v_ix (v_var 2) (v_int)) (a_cons (v_callB call_len cas_len Fc.len boot_len (a_cons (v_var 6) (a_nil))) (a_nil)))))) (w_or1 (t_not (t_val (v_call C_law_are_fates hr tk (a_cons (v_ix (v_var 2) (v_int)) (a_cons (v_ix (v_var 2) (v_int)) (a_nil))))))))).pt) (s_one (s_ret (v_bl))) (s_nil)) (s_cons (s_asg (v_call C_law_fallen hr tk (a_cons (v_ix (v_var 1) (v_int)) (a_cons (v_sl (v_var 6) o_none (o_some (v_ix (v_var 2) (v_int)))) (a_cons (v_ix (v_var 2) (v_int)) (a_nil))))) (g_sb (v_var 1) (v_int))) (s_one (s_ret (v_bl)))))) (s_nil)) (s_cons (s_if (t_cmp (op_neP hu) ops_eq (v_var 2) (v_tup (a_cons (v_str) (a_nil)))) (s_one (s_ret (v_bl))) (s_nil)) (s_cons (s_asg (v_call C_law_answer hr tk (a_cons (v_var 0) (a_cons (v_ix (v_var 1) (v_int)) (a_nil)))) (g_nm 7 sc_law_dealt.nd)) (s_cons (s_setLc1 rfl sc_law_dealt.nd rfl rfl (sw_true rfl rfl rfl (by decide +kernel)) (i_rng2 Fc.range (a_cons (v_ix (v_var 1) (v_int)) (a_cons (v_op op_add ops_add (v_ix (v_var 1) (v_int)) (v_int)) (a_nil)))) (blkOk_by (N := N_law_dealt) (sc := defScope (topS 71)) (own := [("_law_n", 11)]) (by decide +kernel)) (fun _ _ _ _ _ => pg_name (i := 11) sc_law_dealt.nd rfl (Or.inl rfl)) (fun _ _ _ _ _ => ts_one (t_cmp (op_eqP hu) ops_eq (v_op op_mod ops_mod (v_callTy call_int1 cas_int Fc.int boot_int (a_cons (v_var 11) (a_nil))) (v_op op_mul ops_mul (v_ix (v_var 0) (v_int)) (v_ix (v_var 0) (v_int)))) (v_var 7))) (fun _ _ _ _ _ => v_var 11)) (s_cons (s_asg (v_if (t_val (v_var 3)) (v_call C_law_alone hr tk (a_cons (v_var 0) (a_cons (v_ix (v_var 1) (v_int)) (a_nil)))) (v_call C_law_mended hr tk (a_cons (v_var 0) (a_cons (v_ix (v_var 1) (v_int)) (a_nil))))) (g_sb (v_var 1) (v_int))) (s_cons (s_asg (v_if (t_cmp (op_neP hu) ops_eq (v_var 8) (v_lst (a_nil))) (v_ix (v_var 8) (v_int)) (v_var 7)) (g_sb (v_var 1) (v_int))) (s_cons (s_mul rfl (a_cons (v_ix (v_var 1) (v_int)) (a_cons (v_ix (v_var 1) (v_int)) (a_cons (v_bl) (a_nil)))) (g_cs (g_sb (v_var 1) (v_int)) (g_cs (g_sb (v_var 1) (v_int)) (g_cs (g_sb (v_var 1) (v_int)) (g_nl))))) (s_one (s_ret (v_bl))))))))))))))
theorem ok_law_dealt {P : Program} {w : World} {K : PySem.W.Frag} {mg : Str → Option Value} {base : Heap} {cl : Cl} {f : Addr} {fd : FuncData} (Fc : Fac K mg cl) (F : FnP K "_law_dealt" (topS 71) f fd) (hm : mg "_law_dealt" = some (.ref f)) (C_law_is_note : Cal P w K mg base cl "_law_is_note" ["_law_note_here"] 1 f_law_is_note) (C_law_settle : Cal P w K mg base cl "_law_settle" ["_law_frame_here"] 1 f_law_settle) (C_law_lap : Cal P w K mg base cl "_law_lap" ["_law_form", "_law_n"] 1 f_law_lap) (C_law_are_fates : Cal P w K mg base cl "_law_are_fates" ["_law_fates_so", "_law_many_so"] 1 f_law_are_fates) (C_law_fallen : Cal P w K mg base cl "_law_fallen" ["_law_cells_so", "_law_flight_so", "_law_fates_so"] 1 f_law_fallen) (C_law_answer : Cal P w K mg base cl "_law_answer" ["_law_form", "_law_face_here"] 4 f_law_answer) (C_law_mending : Cal P w K mg base cl "_law_mending" ["_law_form", "_law_face_here"] 5 f_law_mending) (C_law_is_count : Cal P w K mg base cl "_law_is_count" ["_law_own", "_law_most_so"] 1 f_law_is_count) (C_law_alone : Cal P w K mg base cl "_law_alone" ["_law_form", "_law_face_here"] 5 f_law_alone) (C_law_mended : Cal P w K mg base cl "_law_mended" ["_law_form", "_law_face_here"] 6 f_law_mended) : Cal P w K mg base cl "_law_dealt" ["_law_form", "_law_frame_here", "_law_deal", "_law_lone_so"] 7 f_law_dealt := ⟨f, fd, hm, F.kp, (F.bindsN fun _ _ _ _ _ _ us hl => match us, hl with | [_, _, _, _], _ => rfl), fo_law_dealt Fc F hm C_law_is_note C_law_settle C_law_lap C_law_are_fates C_law_fallen C_law_answer C_law_mending C_law_is_count C_law_alone C_law_mended⟩
theorem sc_law_run : FnScope N_law_run ["_law_form", "_law_tale", "_law_lone_so"] (defScope (topS 73)) := ⟨rfl, rfl, rfl, by decide +kernel, rfl, by decide +kernel, by decide +kernel⟩
theorem fo_law_run {P : Program} {w : World} {K : PySem.W.Frag} {mg : Str → Option Value} {base : Heap} {cl : Cl} {f : Addr} {fd : FuncData} (Fc : Fac K mg cl) (F : FnP K "_law_run" (topS 73) f fd) (hm : mg "_law_run" = some (.ref f)) (C_law_frame : Cal P w K mg base cl "_law_frame" ["_law_form"] 3 f_law_frame) (C_law_dealt : Cal P w K mg base cl "_law_dealt" ["_law_form", "_law_frame_here", "_law_deal", "_law_lone_so"] 7 f_law_dealt) : FnOk P w K mg base (L2.CX P w) 8 f fd ["_law_form", "_law_tale", "_law_lone_so"] (spOf K cl 3 f_law_run) := by
  replace C_law_frame := C_law_frame.up (lv' := 7) (by decide)
  refine (fn_ok (N := N_law_run) (ps := ["_law_form", "_law_tale", "_law_lone_so"]) (b := m_law_run) (k := 7) F sc_law_run fun cdv A outer s H E hr => ?_).imp (sp_raw (h := rfl))
  have tk : Takes (cxOf (L2.CX P w) P w K mg base N_law_run "_law_run" (defScope (topS 73)) f cdv A outer s H E) (fun c d _ H => E c d H) := takes_of rfl rfl rfl rfl
  have hp : PassesOwn (model P w) (cxOf (L2.CX P w) P w K mg base N_law_run "_law_run" (defScope (topS 73)) f cdv A outer s H E).A (cxOf (L2.CX P w) P w K mg base N_law_run "_law_run" (defScope (topS 73)) f cdv A outer s H E).env (cxOf (L2.CX P w) P w K mg base N_law_run "_law_run" (defScope (topS 73)) f cdv A outer s H E).xe := passes_of rfl
  exact s_cons (s_asg (v_call C_law_frame hr tk (a_cons (v_var 0) (a_nil))) (g_nm 3 sc_law_run.nd)) (s_cons (s_if (t_not (t_val (v_isi ok_tuple Fc.isinstance Fc.tuple boot_tuple (v_var 1)))) (s_one (s_ret (v_non))) (s_nil)) (s_cons (s_for hp rfl (i_seq (v_var 1)) (g_nm 4 sc_law_run.nd) (s_one (s_if (t_not (t_val (v_call C_law_dealt hr tk (a_cons (v_var 0) (a_cons (v_var 3) (a_cons (v_var 4) (a_cons (v_var 2) (a_nil)))))))) (s_one (s_ret (v_non))) (s_nil)))) (s_one (s_ret (v_var 3)))))
theorem ok_law_run {P : Program} {w : World} {K : PySem.W.Frag} {mg : Str → Option Value} {base : Heap} {cl : Cl} {f : Addr} {fd : FuncData} (Fc : Fac K mg cl) (F : FnP K "_law_run" (topS 73) f fd) (hm : mg "_law_run" = some (.ref f)) (C_law_frame : Cal P w K mg base cl "_law_frame" ["_law_form"] 3 f_law_frame) (C_law_dealt : Cal P w K mg base cl "_law_dealt" ["_law_form", "_law_frame_here", "_law_deal", "_law_lone_so"] 7 f_law_dealt) : Cal P w K mg base cl "_law_run" ["_law_form", "_law_tale", "_law_lone_so"] 8 f_law_run := ⟨f, fd, hm, F.kp, (F.bindsN fun _ _ _ _ _ _ us hl => match us, hl with | [_, _, _], _ => rfl), fo_law_run Fc F hm C_law_frame C_law_dealt⟩
theorem sc_law_note : FnScope N_law_note ["_law_tin"] (defScope (topS 74)) := ⟨rfl, rfl, rfl, by decide +kernel, rfl, by decide +kernel, by decide +kernel⟩
theorem fo_law_note {P : Program} {w : World} {K : PySem.W.Frag} {mg : Str → Option Value} {base : Heap} {cl : Cl} {f : Addr} {fd : FuncData} (Fc : Fac K mg cl) (F : FnP K "_law_note" (topS 74) f fd) (hm : mg "_law_note" = some (.ref f)) (C_law_take : Cal P w K mg base cl "_law_take" ["_law_tin", "_law_below_so"] 1 f_law_take) (C_law_blank : Cal P w K mg base cl "_law_blank" [] 1 f_law_blank) (C_law_of : Cal P w K mg base cl "_law_of" ["_law_tin", "_law_goods_so"] 2 f_law_of) : FnOk P w K mg base (L2.CX P w) 3 f fd ["_law_tin"] (spOf K cl 1 f_law_note) := by
  replace C_law_take := C_law_take.up (lv' := 2) (by decide)
  replace C_law_blank := C_law_blank.up (lv' := 2) (by decide)
  refine (fn_ok (N := N_law_note) (ps := ["_law_tin"]) (b := m_law_note) (k := 2) F sc_law_note fun cdv A outer s H E hr => ?_).imp sp_cut
  have hu : (cxOf (L2.CX P w) P w K mg base N_law_note "_law_note" (defScope (topS 74)) f cdv A outer s H E).A.units + 64 < cLine := hr.units
  have tk : Takes (cxOf (L2.CX P w) P w K mg base N_law_note "_law_note" (defScope (topS 74)) f cdv A outer s H E) (fun c d _ H => E c d H) := takes_of rfl rfl rfl rfl
  exact s_cons (s_asg (v_call C_law_take hr tk (a_cons (v_var 0) (a_cons (v_int) (a_nil)))) (g_nm 1 sc_law_note.nd)) (s_cons (s_if (t_cmp (op_eqP hu) ops_eq (v_var 1) (v_int)) (s_one (s_ret (v_call0 C_law_blank hr))) (s_nil)) (s_cons (s_asg (v_call C_law_of hr tk (a_cons (v_var 0) (a_cons (v_lst (a_cons (v_str) (a_cons (v_str) (a_cons (v_str) (a_cons (v_str) (a_nil)))))) (a_nil)))) (g_nm 2 sc_law_note.nd)) (s_cons (s_asg (v_call C_law_of hr tk (a_cons (v_var 0) (a_cons (v_lst (a_cons (v_int) (a_cons (v_int) (a_cons (v_int) (a_cons (v_int) (a_nil)))))) (a_nil)))) (g_nm 3 sc_law_note.nd)) (s_one (s_ret (v_if (t_cmp (op_eqP hu) ops_eq (v_var 1) (v_int)) (v_tup (a_cons (v_str) (a_cons (v_var 2) (a_cons (v_int) (a_cons (v_var 3) (a_nil)))))) (v_tup (a_cons (v_str) (a_cons (v_var 2) (a_cons (v_call C_law_of hr tk (a_cons (v_var 0) (a_cons (v_lst (a_cons (v_str) (a_cons (v_str) (a_cons (v_str) (a_nil))))) (a_nil)))) (a_cons (v_int) (a_cons (v_var 3) (a_nil)))))))))))))
theorem ok_law_note {P : Program} {w : World} {K : PySem.W.Frag} {mg : Str → Option Value} {base : Heap} {cl : Cl} {f : Addr} {fd : FuncData} (Fc : Fac K mg cl) (F : FnP K "_law_note" (topS 74) f fd) (hm : mg "_law_note" = some (.ref f)) (C_law_take : Cal P w K mg base cl "_law_take" ["_law_tin", "_law_below_so"] 1 f_law_take) (C_law_blank : Cal P w K mg base cl "_law_blank" [] 1 f_law_blank) (C_law_of : Cal P w K mg base cl "_law_of" ["_law_tin", "_law_goods_so"] 2 f_law_of) : Cal P w K mg base cl "_law_note" ["_law_tin"] 3 f_law_note := ⟨f, fd, hm, F.kp, (F.bindsN fun _ _ _ _ _ _ us hl => match us, hl with | [_], _ => rfl), fo_law_note Fc F hm C_law_take C_law_blank C_law_of⟩
theorem sc_law_drawn_life : FnScope N_law_drawn_life ["_law_tin", "_law_form", "_law_many_so", "_law_mends_so"] (defScope (topS 75)) := ⟨rfl, rfl, rfl, by decide +kernel, rfl, by decide +kernel, by decide +kernel⟩
theorem fo_law_drawn_life {P : Program} {w : World} {K : PySem.W.Frag} {mg : Str → Option Value} {base : Heap} {cl : Cl} {f : Addr} {fd : FuncData} (Fc : Fac K mg cl) (F : FnP K "_law_drawn_life" (topS 75) f fd) (hm : mg "_law_drawn_life" = some (.ref f)) (C_law_frame : Cal P w K mg base cl "_law_frame" ["_law_form"] 3 f_law_frame) (C_law_take : Cal P w K mg base cl "_law_take" ["_law_tin", "_law_below_so"] 1 f_law_take) (C_law_note : Cal P w K mg base cl "_law_note" ["_law_tin"] 3 f_law_note) (C_law_dealt : Cal P w K mg base cl "_law_dealt" ["_law_form", "_law_frame_here", "_law_deal", "_law_lone_so"] 7 f_law_dealt) (C_law_fates : Cal P w K mg base cl "_law_fates" ["_law_tin", "_law_many_so"] 3 f_law_fates) (C_law_of : Cal P w K mg base cl "_law_of" ["_law_tin", "_law_goods_so"] 2 f_law_of) (C_law_answer : Cal P w K mg base cl "_law_answer" ["_law_form", "_law_face_here"] 4 f_law_answer) (C_law_mending : Cal P w K mg base cl "_law_mending" ["_law_form", "_law_face_here"] 5 f_law_mending) : FnOk P w K mg base (L2.CX P w) 8 f fd ["_law_tin", "_law_form", "_law_many_so", "_law_mends_so"] (spOf K cl 4 f_law_drawn_life) := by
  replace C_law_frame := C_law_frame.up (lv' := 7) (by decide)
  replace C_law_take := C_law_take.up (lv' := 7) (by decide)
  replace C_law_note := C_law_note.up (lv' := 7) (by decide)
  replace C_law_fates := C_law_fates.up (lv' := 7) (by decide)
  replace C_law_of := C_law_of.up (lv' := 7) (by decide)
  replace C_law_answer := C_law_answer.up (lv' := 7) (by decide)
  replace C_law_mending := C_law_mending.up (lv' := 7) (by decide)
  refine (fn_ok (N := N_law_drawn_life) (ps := ["_law_tin", "_law_form", "_law_many_so", "_law_mends_so"]) (b := m_law_drawn_life) (k := 7) F sc_law_drawn_life fun cdv A outer s H E hr => ?_).imp sp_cut
  have hu : (cxOf (L2.CX P w) P w K mg base N_law_drawn_life "_law_drawn_life" (defScope (topS 75)) f cdv A outer s H E).A.units + 64 < cLine := hr.units
  have tk : Takes (cxOf (L2.CX P w) P w K mg base N_law_drawn_life "_law_drawn_life" (defScope (topS 75)) f cdv A outer s H E) (fun c d _ H => E c d H) := takes_of rfl rfl rfl rfl
  have hp : PassesOwn (model P w) (cxOf (L2.CX P w) P w K mg base N_law_drawn_life "_law_drawn_life" (defScope (topS 75)) f cdv A outer s H E).A (cxOf (L2.CX P w) P w K mg base N_law_drawn_life "_law_drawn_life" (defScope (topS 75)) f cdv A outer s H E).env (cxOf (L2.CX P w) P w K mg base N_law_drawn_life "_law_drawn_life" (defScope (topS 75)) f cdv A outer s H E).xe := passes_of rfl
  exact s_cons (s_par rfl sc_law_drawn_life.nd rfl rfl (by decide) rfl rfl (a_cons (v_lstO (a_nil)) (a_cons (v_call C_law_frame hr tk (a_cons (v_var 1) (a_nil))) (a_nil))) rfl) (s_cons (s_for hp rfl (i_rng1 Fc.range (a_cons (v_var 2) (a_nil))) (g_nm 6 sc_law_drawn_life.nd) (s_cons (s_asg (v_lstO (a_nil)) (g_nm 7 sc_law_drawn_life.nd)) (s_cons (s_for hp rfl (i_rng1 Fc.range (a_cons (v_call C_law_take hr tk (a_cons (v_var 0) (a_cons (v_op op_add ops_add (v_ix (v_var 1) (v_int)) (v_int)) (a_nil)))) (a_nil))) (g_nm 8 sc_law_drawn_life.nd) (s_cons (s_app (v_var 7) (v_tup (a_cons (v_str) (a_cons (v_call C_law_note hr tk (a_cons (v_var 0) (a_nil))) (a_nil))))) (s_one (s_if (t_cmp (op_eqP hu) ops_eq (v_call C_law_take hr tk (a_cons (v_var 0) (a_cons (v_int) (a_nil)))) (v_int)) (s_one (s_app (v_var 7) (v_tup (a_cons (v_str) (a_nil))))) (s_nil))))) (s_cons (s_for hp rfl (i_seq (v_var 7)) (g_nm 9 sc_law_drawn_life.nd) (s_one (s_drop (v_call C_law_dealt hr tk (a_cons (v_var 1) (a_cons (v_var 5) (a_cons (v_var 9) (a_cons (v_bl) (a_nil))))))))) (s_cons (s_asg (v_call C_law_fates hr tk (a_cons (v_var 0) (a_cons (v_callB call_len cas_len Fc.len boot_len (a_cons (v_ix (v_var 5) (v_int)) (a_nil))) (a_nil)))) (g_nm 10 sc_law_drawn_life.nd)) (s_cons (s_if (t_cmp (op_eqP hu) ops_eq (v_call C_law_take hr tk (a_cons (v_var 0) (a_cons (v_int) (a_nil)))) (v_int)) (s_cons (s_asg (v_call C_law_take hr tk (a_cons (v_var 0) (a_cons (v_op op_add ops_add (v_ix (v_var 1) (v_int)) (v_int)) (a_nil)))) (g_nm 11 sc_law_drawn_life.nd)) (s_one (s_asg (v_callTy call_tuple_of cas_tupleOf Fc.tuple boot_tuple (a_cons (v_lc1 rfl sc_law_drawn_life.nd (i_rng1 Fc.range (a_cons (v_callB call_len cas_len Fc.len boot_len (a_cons (v_var 10) (a_nil))) (a_nil))) (blkOk_by (N := N_law_drawn_life) (sc := defScope (topS 75)) (own := [("_law_j", 12)]) (by decide +kernel)) (fun _ _ _ _ _ => pg_name (i := 12) sc_law_drawn_life.nd rfl (Or.inl rfl)) (fun _ _ _ _ _ => ts_nil) (fun _ _ _ _ _ => v_if (t_cmp op_lt ops_lt (v_var 12) (v_var 11)) (v_call C_law_of hr takes0 (a_cons (v_var 0) (a_cons (v_lst (a_cons (v_str) (a_cons (v_str) (a_nil)))) (a_nil)))) (v_str))) (a_nil))) (g_nm 10 sc_law_drawn_life.nd)))) (s_nil)) (s_cons (s_asg (v_op op_cat ops_catO (v_op op_cat ops_catO (v_var 4) (v_var 7)) (v_lst (a_cons (v_tup (a_cons (v_str) (a_cons (v_var 10) (a_nil)))) (a_nil)))) (g_nm 4 sc_law_drawn_life.nd)) (s_cons (s_drop (v_call C_law_dealt hr tk (a_cons (v_var 1) (a_cons (v_var 5) (a_cons (v_ix (v_var 4) (v_neg (v_int))) (a_cons (v_bl) (a_nil))))))) (s_one (s_if (t_cmp op_lt ops_lt (v_op op_add ops_add (v_var 6) (v_int)) (v_var 2)) (s_cons (s_if (t_isN (v_call C_law_answer hr tk (a_cons (v_var 1) (a_cons (v_ix (v_var 5) (v_int)) (a_nil))))) (s_one (s_ret (v_callTy call_tuple_of cas_tupleOf Fc.tuple boot_tuple (a_cons (v_var 4) (a_nil))))) (s_nil)) (s_cons (s_for hp rfl (i_rng1 Fc.range (a_cons (v_if (t_val (v_var 3)) (v_call C_law_take hr tk (a_cons (v_var 0) (a_cons (v_int) (a_nil)))) (v_int)) (a_nil))) (g_nm 8 sc_law_drawn_life.nd) (s_cons (s_asg (v_call C_law_take hr tk (a_cons (v_var 0) (a_cons (v_op op_add ops_add (v_callB call_len cas_len Fc.len boot_len (a_cons (v_call C_law_mending hr tk (a_cons (v_var 1) (a_cons (v_ix (v_var 5) (v_int)) (a_nil)))) (a_nil))) (v_int)) (a_nil)))) (g_nm 11 sc_law_drawn_life.nd)) (s_cons (s_app (v_var 4) (v_tup (a_cons (v_str) (a_cons (v_var 11) (a_cons (v_call C_law_fates hr tk (a_cons (v_var 0) (a_cons (v_var 11) (a_nil)))) (a_nil)))))) (s_one (s_drop (v_call C_law_dealt hr tk (a_cons (v_var 1) (a_cons (v_var 5) (a_cons (v_ix (v_var 4) (v_neg (v_int))) (a_cons (v_bl) (a_nil))))))))))) (s_cons (s_app (v_var 4) (v_tup (a_cons (v_str) (a_nil)))) (s_one (s_drop (v_call C_law_dealt hr tk (a_cons (v_var 1) (a_cons (v_var 5) (a_cons (v_ix (v_var 4) (v_neg (v_int))) (a_cons (v_bl) (a_nil))))))))))) (s_nil))))))))))) (s_one (s_ret (v_callTy call_tuple_of cas_tupleOf Fc.tuple boot_tuple (a_cons (v_var 4) (a_nil))))))
theorem ok_law_drawn_life {P : Program} {w : World} {K : PySem.W.Frag} {mg : Str → Option Value} {base : Heap} {cl : Cl} {f : Addr} {fd : FuncData} (Fc : Fac K mg cl) (F : FnP K "_law_drawn_life" (topS 75) f fd) (hm : mg "_law_drawn_life" = some (.ref f)) (C_law_frame : Cal P w K mg base cl "_law_frame" ["_law_form"] 3 f_law_frame) (C_law_take : Cal P w K mg base cl "_law_take" ["_law_tin", "_law_below_so"] 1 f_law_take) (C_law_note : Cal P w K mg base cl "_law_note" ["_law_tin"] 3 f_law_note) (C_law_dealt : Cal P w K mg base cl "_law_dealt" ["_law_form", "_law_frame_here", "_law_deal", "_law_lone_so"] 7 f_law_dealt) (C_law_fates : Cal P w K mg base cl "_law_fates" ["_law_tin", "_law_many_so"] 3 f_law_fates) (C_law_of : Cal P w K mg base cl "_law_of" ["_law_tin", "_law_goods_so"] 2 f_law_of) (C_law_answer : Cal P w K mg base cl "_law_answer" ["_law_form", "_law_face_here"] 4 f_law_answer) (C_law_mending : Cal P w K mg base cl "_law_mending" ["_law_form", "_law_face_here"] 5 f_law_mending) : Cal P w K mg base cl "_law_drawn_life" ["_law_tin", "_law_form", "_law_many_so", "_law_mends_so"] 8 f_law_drawn_life := ⟨f, fd, hm, F.kp, (F.bindsN fun _ _ _ _ _ _ us hl => match us, hl with | [_, _, _, _], _ => rfl), fo_law_drawn_life Fc F hm C_law_frame C_law_take C_law_note C_law_dealt C_law_fates C_law_of C_law_answer C_law_mending⟩
end Hr
set_option Elab.async false
set_option linter.all false
set_option maxRecDepth 100000
set_option maxHeartbeats 4000000
namespace Hr
open PySem PySem.Spec PyProof.Rows L2
theorem sc_law_safe_form : FnScope N_law_safe_form ["_law_tin", "_law_most_so"] (defScope (topS 76)) := ⟨rfl, rfl, rfl, by decide +kernel, rfl, by decide +kernel, by decide +kernel⟩
theorem fo_law_safe_form {P : Program} {w : World} {K : PySem.W.Frag} {mg : Str → Option Value} {base : Heap} {cl : Cl} {f : Addr} {fd : FuncData} (Fc : Fac K mg cl) (F : FnP K "_law_safe_form" (topS 76) f fd) (hm : mg "_law_safe_form" = some (.ref f)) (C_law_take : Cal P w K mg base cl "_law_take" ["_law_tin", "_law_below_so"] 1 f_law_take) : FnOk P w K mg base (L2.CX P w) 2 f fd ["_law_tin", "_law_most_so"] (spOf K cl 2 f_law_safe_form) := by
  refine (fn_ok (N := N_law_safe_form) (ps := ["_law_tin", "_law_most_so"]) (b := m_law_safe_form) (k := 1) F sc_law_safe_form fun cdv A outer s H E hr => ?_).imp sp_cut
  have hu : (cxOf (L2.CX P w) P w K mg base N_law_safe_form "_law_safe_form" (defScope (topS 76)) f cdv A outer s H E).A.units + 64 < cLine := hr.units
  have tk : Takes (cxOf (L2.CX P w) P w K mg base N_law_safe_form "_law_safe_form" (defScope (topS 76)) f cdv A outer s H E) (fun c d _ H => E c d H) := takes_of rfl rfl rfl rfl
  exact s_cons (s_asg (v_op op_add ops_add (v_int) (v_call C_law_take hr tk (a_cons (v_var 0) (a_cons (v_op op_sub ops_sub (v_var 1) (v_int)) (a_nil))))) (g_nm 2 sc_law_safe_form.nd)) (s_cons (s_asg (v_op op_add ops_add (v_int) (v_call C_law_take hr tk (a_cons (v_var 0) (a_cons (v_int) (a_nil))))) (g_nm 3 sc_law_safe_form.nd)) (s_cons (s_asg (v_if (t_cmp (op_eqP hu) ops_eq (v_var 3) (v_int)) (v_op op_fdiv ops_div (v_op op_sub ops_sub (v_op op_mul ops_mul (v_int) (v_var 2)) (v_int)) (v_int)) (v_op op_sub ops_sub (v_var 2) (v_int))) (g_nm 4 sc_law_safe_form.nd)) (s_one (s_ret (v_tup (a_cons (v_var 2) (a_cons (v_callB (call_max2 rfl) cas_max Fc.max boot_max (a_cons (v_int) (a_cons (v_op op_sub ops_sub (v_var 4) (v_call C_law_take hr tk (a_cons (v_var 0) (a_cons (v_int) (a_nil))))) (a_nil)))) (a_cons (v_var 3) (a_nil)))))))))
theorem ok_law_safe_form {P : Program} {w : World} {K : PySem.W.Frag} {mg : Str → Option Value} {base : Heap} {cl : Cl} {f : Addr} {fd : FuncData} (Fc : Fac K mg cl) (F : FnP K "_law_safe_form" (topS 76) f fd) (hm : mg "_law_safe_form" = some (.ref f)) (C_law_take : Cal P w K mg base cl "_law_take" ["_law_tin", "_law_below_so"] 1 f_law_take) : Cal P w K mg base cl "_law_safe_form" ["_law_tin", "_law_most_so"] 2 f_law_safe_form := ⟨f, fd, hm, F.kp, (F.bindsN fun _ _ _ _ _ _ us hl => match us, hl with | [_, _], _ => rfl), fo_law_safe_form Fc F hm C_law_take⟩
theorem sc_law_by_hand_right : FnScope N_law_by_hand_right [] (defScope (topS 77)) := ⟨rfl, rfl, rfl, by decide +kernel, rfl, by decide +kernel, by decide +kernel⟩
theorem fo_law_by_hand_right {P : Program} {w : World} {K : PySem.W.Frag} {mg : Str → Option Value} {base : Heap} {cl : Cl} {f : Addr} {fd : FuncData} (Fc : Fac K mg cl) (F : FnP K "_law_by_hand_right" (topS 77) f fd) (hm : mg "_law_by_hand_right" = some (.ref f)) (C_law_blank : Cal P w K mg base cl "_law_blank" [] 1 f_law_blank) (C_law_lists : Cal P w K mg base cl "_law_lists" ["_law_matter"] 9 (f_law_lists 8)) (K_mended : CalK P w K mg base cl "mended" ["shape", "picture"] ["shape", "picture"] [0, 1] 13 f_mended) (C_mend_writes : Cal P w K mg base cl "mend_writes" ["shape", "picture"] 13 f_mend_writes) (C_mended : Cal P w K mg base cl "mended" ["shape", "picture"] 13 f_mended) (C_law_answer : Cal P w K mg base cl "_law_answer" ["_law_form", "_law_face_here"] 4 f_law_answer) (C_partly_mended : Cal P w K mg base cl "partly_mended" ["shape", "picture", "many", "fates"] 13 f_partly_mended) (K_partly_mended : CalK P w K mg base cl "partly_mended" ["shape", "picture", "many", "fates"] ["picture", "many", "shape", "fates"] [2, 0, 1, 3] 13 f_partly_mended) (C_law_same : Cal P w K mg base cl "_law_same" ["_law_got", "_law_due"] 9 (f_law_same 8)) : FnOk P w K mg base (L2.CX P w) 14 f fd [] (spOf K cl 0 f_law_by_hand_right) := by
  replace C_law_blank := C_law_blank.up (lv' := 13) (by decide)
  replace C_law_lists := C_law_lists.up (lv' := 13) (by decide)
  replace C_law_answer := C_law_answer.up (lv' := 13) (by decide)
  replace C_law_same := C_law_same.up (lv' := 13) (by decide)
  refine (fn_ok (N := N_law_by_hand_right) (ps := []) (b := m_law_by_hand_right) (k := 13) F sc_law_by_hand_right fun cdv A outer s H E hr => ?_).imp sp_cut
  have tk : Takes (cxOf (L2.CX P w) P w K mg base N_law_by_hand_right "_law_by_hand_right" (defScope (topS 77)) f cdv A outer s H E) (fun c d _ H => E c d H) := takes_of rfl rfl rfl rfl
  exact s_cons (s_par rfl sc_law_by_hand_right.nd rfl rfl (by decide) rfl rfl (a_cons (v_call0 C_law_blank hr) (a_cons (v_tup (a_cons (v_int) (a_cons (v_int) (a_cons (v_int) (a_nil))))) (a_nil))) rfl) (s_cons (s_asg (v_tup (a_cons (v_tup (a_cons (v_int) (a_cons (v_var 0) (a_nil)))) (a_cons (v_tup (a_cons (v_int) (a_cons (v_var 0) (a_nil)))) (a_cons (v_tup (a_cons (v_int) (a_cons (v_var 0) (a_nil)))) (a_cons (v_tup (a_cons (v_int) (a_cons (v_var 0) (a_nil)))) (a_cons (v_tup (a_cons (v_int) (a_cons (v_var 0) (a_nil)))) (a_cons (v_tup (a_cons (v_int) (a_cons (v_var 0) (a_nil)))) (a_nil)))))))) (g_nm 2 sc_law_by_hand_right.nd)) (s_cons (s_asg (v_tup (a_cons (v_tup (a_cons (v_int) (a_cons (v_var 0) (a_nil)))) (a_cons (v_tup (a_cons (v_str) (a_nil))) (a_cons (v_tup (a_cons (v_int) (a_cons (v_var 0) (a_nil)))) (a_cons (v_tup (a_cons (v_int) (a_cons (v_var 0) (a_nil)))) (a_nil)))))) (g_nm 3 sc_law_by_hand_right.nd)) (s_cons (s_asg (v_lst (a_cons (v_call C_mend_writes hr tk (a_cons (v_var 1) (a_cons (v_var 2) (a_nil)))) (a_cons (v_sl (v_call C_mended hr tk (a_cons (v_var 1) (a_cons (v_var 2) (a_nil)))) o_none (o_some (v_int))) (a_cons (v_call C_mend_writes hr tk (a_cons (v_tup (a_cons (v_int) (a_cons (v_int) (a_cons (v_int) (a_nil))))) (a_cons (v_var 3) (a_nil)))) (a_cons (v_callK0 K_mended hr tk (k_cons (v_lst (a_cons (v_int) (a_cons (v_int) (a_cons (v_int) (a_nil))))) (k_cons (v_call C_law_lists hr tk (a_cons (v_var 3) (a_nil))) (k_nil)))) (a_nil)))))) (g_nm 4 sc_law_by_hand_right.nd)) (s_cons (s_asg (v_lst (a_cons (v_tup (a_cons (v_tup (a_cons (v_int) (a_cons (v_tup (a_cons (v_int) (a_cons (v_var 0) (a_nil)))) (a_nil)))) (a_cons (v_tup (a_cons (v_int) (a_cons (v_tup (a_cons (v_int) (a_cons (v_var 0) (a_nil)))) (a_nil)))) (a_nil)))) (a_cons (v_tup (a_cons (v_tup (a_cons (v_int) (a_cons (v_var 0) (a_nil)))) (a_cons (v_tup (a_cons (v_int) (a_cons (v_var 0) (a_nil)))) (a_nil)))) (a_cons (v_tup (a_cons (v_tup (a_cons (v_int) (a_cons (v_tup (a_cons (v_int) (a_cons (v_var 0) (a_nil)))) (a_nil)))) (a_nil))) (a_cons (v_tup (a_cons (v_tup (a_cons (v_int) (a_cons (v_var 0) (a_nil)))) (a_cons (v_tup (a_cons (v_str) (a_nil))) (a_cons (v_tup (a_cons (v_int) (a_cons (v_var 0) (a_nil)))) (a_cons (v_tup (a_cons (v_int) (a_cons (v_var 0) (a_nil)))) (a_nil)))))) (a_nil)))))) (g_nm 5 sc_law_by_hand_right.nd)) (s_cons (s_asg (v_op op_cat ops_catO (v_var 4) (v_lst (a_cons (v_sl (v_call C_partly_mended hr tk (a_cons (v_var 1) (a_cons (v_var 2) (a_cons (v_int) (a_cons (v_tup (a_cons (v_str) (a_cons (v_str) (a_nil)))) (a_nil)))))) o_none (o_some (v_int))) (a_cons (v_callK0 K_partly_mended hr tk (k_cons (v_var 3) (k_cons (v_int) (k_cons (v_tup (a_cons (v_int) (a_cons (v_int) (a_cons (v_int) (a_nil))))) (k_cons (v_lst (a_nil)) (k_nil)))))) (a_cons (v_call C_law_answer hr tk (a_cons (v_var 1) (a_cons (v_call C_partly_mended hr tk (a_cons (v_var 1) (a_cons (v_var 2) (a_cons (v_int) (a_cons (v_tup (a_cons (v_str) (a_nil))) (a_nil)))))) (a_nil)))) (a_nil)))))) (g_nm 4 sc_law_by_hand_right.nd)) (s_cons (s_app (v_var 4) (v_sl (v_call C_partly_mended hr tk (a_cons (v_var 1) (a_cons (v_var 2) (a_cons (v_int) (a_cons (v_tup (a_cons (v_str) (a_nil))) (a_nil)))))) o_none (o_some (v_int)))) (s_one (s_ret (v_call C_law_same hr tk (a_cons (v_var 4) (a_cons (v_op op_cat ops_catO (v_var 5) (v_lst (a_cons (v_tup (a_cons (v_tup (a_cons (v_str) (a_nil))) (a_cons (v_tup (a_cons (v_int) (a_cons (v_var 0) (a_nil)))) (a_nil)))) (a_cons (v_var 3) (a_cons (v_int) (a_cons (v_tup (a_cons (v_tup (a_cons (v_str) (a_nil))) (a_cons (v_tup (a_cons (v_int) (a_cons (v_var 0) (a_nil)))) (a_nil)))) (a_nil))))))) (a_nil))))))))))))
theorem ok_law_by_hand_right {P : Program} {w : World} {K : PySem.W.Frag} {mg : Str → Option Value} {base : Heap} {cl : Cl} {f : Addr} {fd : FuncData} (Fc : Fac K mg cl) (F : FnP K "_law_by_hand_right" (topS 77) f fd) (hm : mg "_law_by_hand_right" = some (.ref f)) (C_law_blank : Cal P w K mg base cl "_law_blank" [] 1 f_law_blank) (C_law_lists : Cal P w K mg base cl "_law_lists" ["_law_matter"] 9 (f_law_lists 8)) (K_mended : CalK P w K mg base cl "mended" ["shape", "picture"] ["shape", "picture"] [0, 1] 13 f_mended) (C_mend_writes : Cal P w K mg base cl "mend_writes" ["shape", "picture"] 13 f_mend_writes) (C_mended : Cal P w K mg base cl "mended" ["shape", "picture"] 13 f_mended) (C_law_answer : Cal P w K mg base cl "_law_answer" ["_law_form", "_law_face_here"] 4 f_law_answer) (C_partly_mended : Cal P w K mg base cl "partly_mended" ["shape", "picture", "many", "fates"] 13 f_partly_mended) (K_partly_mended : CalK P w K mg base cl "partly_mended" ["shape", "picture", "many", "fates"] ["picture", "many", "shape", "fates"] [2, 0, 1, 3] 13 f_partly_mended) (C_law_same : Cal P w K mg base cl "_law_same" ["_law_got", "_law_due"] 9 (f_law_same 8)) : Cal P w K mg base cl "_law_by_hand_right" [] 14 f_law_by_hand_right := ⟨f, fd, hm, F.kp, (F.bindsN fun _ _ _ _ _ _ us hl => match us, hl with | [], _ => rfl), fo_law_by_hand_right Fc F hm C_law_blank C_law_lists K_mended C_mend_writes C_mended C_law_answer C_partly_mended K_partly_mended C_law_same⟩
theorem sc_law_reply : FnScope N_law_reply ["_law_form", "_law_face_here", "_law_many_so", "_law_fates_so"] (defScope (topS 78)) := ⟨rfl, rfl, rfl, by decide +kernel, rfl, by decide +kernel, by decide +kernel⟩
theorem fo_law_reply {P : Program} {w : World} {K : PySem.W.Frag} {mg : Str → Option Value} {base : Heap} {cl : Cl} {f : Addr} {fd : FuncData} (Fc : Fac K mg cl) (F : FnP K "_law_reply" (topS 78) f fd) (hm : mg "_law_reply" = some (.ref f)) (C_partly_mended : Cal P w K mg base cl "partly_mended" ["shape", "picture", "many", "fates"] 13 f_partly_mended) : FnOk P w K mg base (L2.CX P w) 14 f fd ["_law_form", "_law_face_here", "_law_many_so", "_law_fates_so"] (spOf K cl 4 f_law_reply) := by
  obtain ⟨C0, C1, erT⟩ := Fc.erT
  refine (fn_ok (N := N_law_reply) (ps := ["_law_form", "_law_face_here", "_law_many_so", "_law_fates_so"]) (b := m_law_reply) (k := 13) F sc_law_reply fun cdv A outer s H E hr => ?_).imp sp_cut
  have tk : Takes (cxOf (L2.CX P w) P w K mg base N_law_reply "_law_reply" (defScope (topS 78)) f cdv A outer s H E) (fun c d _ H => E c d H) := takes_of rfl rfl rfl rfl
  have hp : PassesOwn (model P w) (cxOf (L2.CX P w) P w K mg base N_law_reply "_law_reply" (defScope (topS 78)) f cdv A outer s H E).A (cxOf (L2.CX P w) P w K mg base N_law_reply "_law_reply" (defScope (topS 78)) f cdv A outer s H E).env (cxOf (L2.CX P w) P w K mg base N_law_reply "_law_reply" (defScope (topS 78)) f cdv A outer s H E).xe := passes_of rfl
  exact s_cons (s_asg (v_str) (g_nm 4 sc_law_reply.nd)) (s_cons (s_try2 erT rfl rfl sc_law_reply.nd rfl rfl rfl rfl rfl rfl Fc.isinstance Fc.ValueError (fun W pn xe tk hp => v_call C_partly_mended hr tk (a_cons (v_var 0) (a_cons (v_var 1) (a_cons (v_var 2) (a_cons (v_var 3) (a_nil)))))) rfl rfl rfl rfl rfl rfl rfl rfl rfl) (s_one (s_ret (v_var 4))))
theorem ok_law_reply {P : Program} {w : World} {K : PySem.W.Frag} {mg : Str → Option Value} {base : Heap} {cl : Cl} {f : Addr} {fd : FuncData} (Fc : Fac K mg cl) (F : FnP K "_law_reply" (topS 78) f fd) (hm : mg "_law_reply" = some (.ref f)) (C_partly_mended : Cal P w K mg base cl "partly_mended" ["shape", "picture", "many", "fates"] 13 f_partly_mended) : Cal P w K mg base cl "_law_reply" ["_law_form", "_law_face_here", "_law_many_so", "_law_fates_so"] 14 f_law_reply := ⟨f, fd, hm, F.kp, (F.bindsN fun _ _ _ _ _ _ us hl => match us, hl with | [_, _, _, _], _ => rfl), fo_law_reply Fc F hm C_partly_mended⟩
theorem sc_law_refused_right : FnScope N_law_refused_right [] (defScope (topS 79)) := ⟨rfl, rfl, rfl, by decide +kernel, rfl, by decide +kernel, by decide +kernel⟩
theorem fo_law_refused_right {P : Program} {w : World} {K : PySem.W.Frag} {mg : Str → Option Value} {base : Heap} {cl : Cl} {f : Addr} {fd : FuncData} (Fc : Fac K mg cl) (F : FnP K "_law_refused_right" (topS 79) f fd) (hm : mg "_law_refused_right" = some (.ref f)) (C_law_blank : Cal P w K mg base cl "_law_blank" [] 1 f_law_blank) (C_law_reply : Cal P w K mg base cl "_law_reply" ["_law_form", "_law_face_here", "_law_many_so", "_law_fates_so"] 14 f_law_reply) (C_law_same : Cal P w K mg base cl "_law_same" ["_law_got", "_law_due"] 9 (f_law_same 8)) : FnOk P w K mg base (L2.CX P w) 15 f fd [] (spOf K cl 0 f_law_refused_right) := by
  replace C_law_blank := C_law_blank.up (lv' := 14) (by decide)
  replace C_law_same := C_law_same.up (lv' := 14) (by decide)
  refine (fn_ok (N := N_law_refused_right) (ps := []) (b := m_law_refused_right) (k := 14) F sc_law_refused_right fun cdv A outer s H E hr => ?_).imp sp_cut
  have tk : Takes (cxOf (L2.CX P w) P w K mg base N_law_refused_right "_law_refused_right" (defScope (topS 79)) f cdv A outer s H E) (fun c d _ H => E c d H) := takes_of rfl rfl rfl rfl
  exact s_cons (s_asg (v_call0 C_law_blank hr) (g_nm 0 sc_law_refused_right.nd)) (s_cons (s_mul rfl (a_cons (v_tup (a_cons (v_tup (a_cons (v_int) (a_cons (v_var 0) (a_nil)))) (a_cons (v_tup (a_cons (v_str) (a_nil))) (a_cons (v_tup (a_cons (v_int) (a_cons (v_var 0) (a_nil)))) (a_cons (v_tup (a_cons (v_int) (a_cons (v_var 0) (a_nil)))) (a_nil)))))) (a_cons (v_lst (a_cons (v_str) (a_cons (v_bl) (a_nil)))) (a_nil))) (g_cs (g_nm 1 sc_law_refused_right.nd) (g_cs (g_nm 2 sc_law_refused_right.nd) (g_nl)))) (s_cons (s_setLc2 (by decide) rfl sc_law_refused_right.nd rfl rfl (sw_true rfl rfl rfl (by decide +kernel)) (i_seq (v_tup (a_cons (v_tup (a_cons (v_int) (a_cons (v_tup (a_cons (v_str) (a_cons (v_str) (a_nil)))) (a_nil)))) (a_cons (v_tup (a_cons (v_neg (v_int)) (a_cons (v_tup (a_nil)) (a_nil)))) (a_cons (v_tup (a_cons (v_int) (a_cons (v_tup (a_nil)) (a_nil)))) (a_cons (v_tup (a_cons (v_int) (a_cons (v_tup (a_cons (v_str) (a_cons (v_str) (a_nil)))) (a_nil)))) (a_cons (v_tup (a_cons (v_int) (a_cons (v_tup (a_cons (v_str) (a_nil))) (a_nil)))) (a_cons (v_tup (a_cons (v_int) (a_cons (v_tup (a_cons (v_str) (a_nil))) (a_nil)))) (a_nil))))))))) (blkOk_by (N := N_law_refused_right) (sc := defScope (topS 79)) (own := [("_law_own", 4), ("_law_its", 5)]) (by decide +kernel)) (fun _ _ _ _ _ => pg_tup rfl (pgs_cons (pg_name (i := 4) sc_law_refused_right.nd rfl (Or.inl rfl)) (pgs_cons (pg_name (i := 5) sc_law_refused_right.nd rfl (Or.inl rfl)) pgs_nil))) (fun _ _ _ _ _ => ts_nil) (fun _ _ _ _ _ => v_call C_law_reply hr takes0 (a_cons (v_tup (a_cons (v_int) (a_cons (v_int) (a_cons (v_int) (a_nil))))) (a_cons (v_var 1) (a_cons (v_var 4) (a_cons (v_var 5) (a_nil))))))) (s_cons (s_asg (v_op op_cat ops_cat (v_op op_cat ops_cat (v_var 3) (v_lc1 rfl sc_law_refused_right.nd (i_seq (v_tup (a_cons (v_tup (a_cons (v_int) (a_cons (v_int) (a_cons (v_int) (a_nil))))) (a_cons (v_tup (a_cons (v_int) (a_cons (v_int) (a_cons (v_int) (a_nil))))) (a_cons (v_non) (a_nil)))))) (blkOk_by (N := N_law_refused_right) (sc := defScope (topS 79)) (own := [("_law_own", 4)]) (by decide +kernel)) (fun _ _ _ _ _ => pg_name (i := 4) sc_law_refused_right.nd rfl (Or.inl rfl)) (fun _ _ _ _ _ => ts_nil) (fun _ _ _ _ _ => v_call C_law_reply hr takes0 (a_cons (v_var 4) (a_cons (v_var 1) (a_cons (v_int) (a_cons (v_tup (a_nil)) (a_nil)))))))) (v_lc1 rfl sc_law_refused_right.nd (i_seq (v_tup (a_cons (v_sl (v_var 1) o_none (o_some (v_int))) (a_cons (v_non) (a_cons (v_op op_rep01 ops_repT (v_tup (a_cons (v_tup (a_cons (v_int) (a_cons (v_var 0) (a_nil)))) (a_nil))) (v_int)) (a_nil)))))) (blkOk_by (N := N_law_refused_right) (sc := defScope (topS 79)) (own := [("_law_own", 4)]) (by decide +kernel)) (fun _ _ _ _ _ => pg_name (i := 4) sc_law_refused_right.nd rfl (Or.inl rfl)) (fun _ _ _ _ _ => ts_nil) (fun _ _ _ _ _ => v_call C_law_reply hr takes0 (a_cons (v_tup (a_cons (v_int) (a_cons (v_int) (a_cons (v_int) (a_nil))))) (a_cons (v_var 4) (a_cons (v_int) (a_cons (v_tup (a_nil)) (a_nil)))))))) (g_nm 3 sc_law_refused_right.nd)) (s_cons (s_asg (v_op op_cat ops_cat (v_var 3) (v_lst (a_cons (v_call C_law_reply hr tk (a_cons (v_tup (a_cons (v_int) (a_cons (v_int) (a_cons (v_int) (a_nil))))) (a_cons (v_op op_rep01 ops_repT (v_tup (a_cons (v_tup (a_cons (v_str) (a_nil))) (a_nil))) (v_int)) (a_cons (v_int) (a_cons (v_tup (a_nil)) (a_nil)))))) (a_cons (v_call C_law_reply hr tk (a_cons (v_tup (a_cons (v_int) (a_cons (v_int) (a_cons (v_int) (a_nil))))) (a_cons (v_op op_rep01 ops_repT (v_tup (a_cons (v_tup (a_cons (v_str) (a_nil))) (a_nil))) (v_int)) (a_cons (v_int) (a_cons (v_tup (a_nil)) (a_nil)))))) (a_nil))))) (g_nm 3 sc_law_refused_right.nd)) (s_one (s_ret (v_call C_law_same hr tk (a_cons (v_var 3) (a_cons (v_op op_cat ops_cat (v_op op_rep ops_repL (v_lst (a_cons (v_var 2) (a_nil))) (v_int)) (v_op op_rep ops_repL (v_lst (a_cons (v_lst (a_cons (v_str) (a_cons (v_bl) (a_nil)))) (a_nil))) (v_int))) (a_nil))))))))))
theorem ok_law_refused_right {P : Program} {w : World} {K : PySem.W.Frag} {mg : Str → Option Value} {base : Heap} {cl : Cl} {f : Addr} {fd : FuncData} (Fc : Fac K mg cl) (F : FnP K "_law_refused_right" (topS 79) f fd) (hm : mg "_law_refused_right" = some (.ref f)) (C_law_blank : Cal P w K mg base cl "_law_blank" [] 1 f_law_blank) (C_law_reply : Cal P w K mg base cl "_law_reply" ["_law_form", "_law_face_here", "_law_many_so", "_law_fates_so"] 14 f_law_reply) (C_law_same : Cal P w K mg base cl "_law_same" ["_law_got", "_law_due"] 9 (f_law_same 8)) : Cal P w K mg base cl "_law_refused_right" [] 15 f_law_refused_right := ⟨f, fd, hm, F.kp, (F.bindsN fun _ _ _ _ _ _ us hl => match us, hl with | [], _ => rfl), fo_law_refused_right Fc F hm C_law_blank C_law_reply C_law_same⟩
theorem sc_law : FnScope N_law ["_law_script"] (defScope (topS 80)) := ⟨rfl, rfl, rfl, by decide +kernel, rfl, by decide +kernel, by decide +kernel⟩
theorem fo_law {P : Program} {w : World} {K : PySem.W.Frag} {mg : Str → Option Value} {base : Heap} {cl : Cl} {f : Addr} {fd : FuncData} (Fc : Fac K mg cl) (F : FnP K "law" (topS 80) f fd) (hm : mg "law" = some (.ref f)) (C_law_by_hand_right : Cal P w K mg base cl "_law_by_hand_right" [] 14 f_law_by_hand_right) (C_law_box : Cal P w K mg base cl "_law_box" ["_law_script", "_law_k"] 1 f_law_box) (C_law_cells : Cal P w K mg base cl "_law_cells" ["_law_script", "_law_most_so"] 1 f_law_cells) (C_law_safe_form : Cal P w K mg base cl "_law_safe_form" ["_law_tin", "_law_most_so"] 2 f_law_safe_form) (C_law_run : Cal P w K mg base cl "_law_run" ["_law_form", "_law_tale", "_law_lone_so"] 8 f_law_run) (C_law_drawn_life : Cal P w K mg base cl "_law_drawn_life" ["_law_tin", "_law_form", "_law_many_so", "_law_mends_so"] 8 f_law_drawn_life) (C_law_take : Cal P w K mg base cl "_law_take" ["_law_tin", "_law_below_so"] 1 f_law_take) (C_law_answer : Cal P w K mg base cl "_law_answer" ["_law_form", "_law_face_here"] 4 f_law_answer) (C_law_mending : Cal P w K mg base cl "_law_mending" ["_law_form", "_law_face_here"] 5 f_law_mending) (C_law_fates : Cal P w K mg base cl "_law_fates" ["_law_tin", "_law_many_so"] 3 f_law_fates) (C_law_fallen : Cal P w K mg base cl "_law_fallen" ["_law_cells_so", "_law_flight_so", "_law_fates_so"] 1 f_law_fallen) (C_mended : Cal P w K mg base cl "mended" ["shape", "picture"] 13 f_mended) (C_partly_mended : Cal P w K mg base cl "partly_mended" ["shape", "picture", "many", "fates"] 13 f_partly_mended) (C_mend_writes : Cal P w K mg base cl "mend_writes" ["shape", "picture"] 13 f_mend_writes) (C_law_lists : Cal P w K mg base cl "_law_lists" ["_law_matter"] 9 (f_law_lists 8)) (C_law_same : Cal P w K mg base cl "_law_same" ["_law_got", "_law_due"] 9 (f_law_same 8)) (C_law_mended : Cal P w K mg base cl "_law_mended" ["_law_form", "_law_face_here"] 6 f_law_mended) (C_law_refused_right : Cal P w K mg base cl "_law_refused_right" [] 15 f_law_refused_right) : FnOk P w K mg base (L2.CX P w) 16 f fd ["_law_script"] (spOf K cl 1 f_law) := by
  replace C_law_by_hand_right := C_law_by_hand_right.up (lv' := 15) (by decide)
  replace C_law_box := C_law_box.up (lv' := 15) (by decide)
  replace C_law_cells := C_law_cells.up (lv' := 15) (by decide)
  replace C_law_safe_form := C_law_safe_form.up (lv' := 15) (by decide)
  replace C_law_run := C_law_run.up (lv' := 15) (by decide)
  replace C_law_drawn_life := C_law_drawn_life.up (lv' := 15) (by decide)
  replace C_law_take := C_law_take.up (lv' := 15) (by decide)
  replace C_law_answer := C_law_answer.up (lv' := 15) (by decide)
  replace C_law_mending := C_law_mending.up (lv' := 15) (by decide)
  replace C_law_fates := C_law_fates.up (lv' := 15) (by decide)
  replace C_law_fallen := C_law_fallen.up (lv' := 15) (by decide)
  replace C_mended := C_mended.up (lv' := 15) (by decide)
  replace C_partly_mended := C_partly_mended.up (lv' := 15) (by decide)
  replace C_mend_writes := C_mend_writes.up (lv' := 15) (by decide)
  replace C_law_lists := C_law_lists.up (lv' := 15) (by decide)
  replace C_law_same := C_law_same.up (lv' := 15) (by decide)
  replace C_law_mended := C_law_mended.up (lv' := 15) (by decide)
  refine (fn_ok (N := N_law) (ps := ["_law_script"]) (b := m_law) (k := 15) F sc_law fun cdv A outer s H E hr => ?_).imp (sp_raw (h := rfl))
  have hu : (cxOf (L2.CX P w) P w K mg base N_law "law" (defScope (topS 80)) f cdv A outer s H E).A.units + 64 < cLine := hr.units
  have tk : Takes (cxOf (L2.CX P w) P w K mg base N_law "law" (defScope (topS 80)) f cdv A outer s H E) (fun c d _ H => E c d H) := takes_of rfl rfl rfl rfl
  have hp : PassesOwn (model P w) (cxOf (L2.CX P w) P w K mg base N_law "law" (defScope (topS 80)) f cdv A outer s H E).A (cxOf (L2.CX P w) P w K mg base N_law "law" (defScope (topS 80)) f cdv A outer s H E).env (cxOf (L2.CX P w) P w K mg base N_law "law" (defScope (topS 80)) f cdv A outer s H E).xe := passes_of rfl
  exact s_cons (s_if (t_not (t_val (v_callX C_law_by_hand_right hr))) (s_one (s_ret (v_bl))) (s_nil)) (s_cons (s_asg (v_call C_law_box hr tk (a_cons (v_call C_law_cells hr tk (a_cons (v_var 0) (a_cons (v_int) (a_nil)))) (a_cons (v_int) (a_nil)))) (g_nm 1 sc_law.nd)) (s_cons (s_asg (v_call C_law_safe_form hr tk (a_cons (v_var 1) (a_cons (v_int) (a_nil)))) (g_nm 2 sc_law.nd)) (s_cons (s_asg (v_call C_law_run hr tk (a_cons (v_var 2) (a_cons (v_call C_law_drawn_life hr tk (a_cons (v_var 1) (a_cons (v_var 2) (a_cons (v_op op_add ops_add (v_int) (v_call C_law_take hr tk (a_cons (v_var 1) (a_cons (v_int) (a_nil))))) (a_cons (v_bl) (a_nil)))))) (a_cons (v_bl) (a_nil))))) (g_nm 3 sc_law.nd)) (s_cons (s_asg (v_callTy call_tuple_of cas_tupleOf Fc.tuple boot_tuple (a_cons (v_ix (v_var 3) (v_int)) (a_nil))) (g_nm 4 sc_law.nd)) (s_cons (s_asg (v_call C_law_answer hr tk (a_cons (v_var 2) (a_cons (v_var 4) (a_nil)))) (g_nm 5 sc_law.nd)) (s_cons (s_if (t_isN (v_var 5)) (s_one (s_ret (v_bl))) (s_nil)) (s_cons (s_asg (v_op op_sub ops_sub (v_ix (v_var 2) (v_int)) (v_ix (v_var 2) (v_int))) (g_nm 6 sc_law.nd)) (s_cons (s_setLc1 rfl sc_law.nd rfl rfl (sw_true rfl rfl rfl (by decide +kernel)) (i_rng2 Fc.range (a_cons (v_int) (a_cons (v_op op_add ops_add (v_var 6) (v_int)) (a_nil)))) (blkOk_by (N := N_law) (sc := defScope (topS 80)) (own := [("_law_j", 16)]) (by decide +kernel)) (fun _ _ _ _ _ => pg_name (i := 16) sc_law.nd rfl (Or.inl rfl)) (fun _ _ _ _ _ => ts_nil) (fun _ _ _ _ _ => v_ix (v_var 4) (v_op op_mod ops_mod (v_callTy call_int1 cas_int Fc.int boot_int (a_cons (v_op op_sub ops_sub (v_var 5) (v_var 16)) (a_nil))) (v_ix (v_var 2) (v_int))))) (s_cons (s_for hp rfl (i_rng1 Fc.range (a_cons (v_int) (a_nil))) (g_nm 8 sc_law.nd) (s_cons (s_asg (v_call C_law_mending hr tk (a_cons (v_var 2) (a_cons (v_var 4) (a_nil)))) (g_nm 9 sc_law.nd)) (s_cons (s_asg (v_call C_law_take hr tk (a_cons (v_var 1) (a_cons (v_op op_add ops_add (v_callB call_len cas_len Fc.len boot_len (a_cons (v_var 9) (a_nil))) (v_int)) (a_nil)))) (g_nm 10 sc_law.nd)) (s_cons (s_asg (v_call C_law_fates hr tk (a_cons (v_var 1) (a_cons (v_var 10) (a_nil)))) (g_nm 11 sc_law.nd)) (s_cons (s_asg (v_callTy call_tuple_of cas_tupleOf Fc.tuple boot_tuple (a_cons (v_call C_law_fallen hr tk (a_cons (v_var 4) (a_cons (v_sl (v_var 9) o_none (o_some (v_var 10))) (a_cons (v_var 11) (a_nil))))) (a_nil))) (g_nm 12 sc_law.nd)) (s_cons (s_asg (v_lst (a_cons (v_call C_mend_writes hr tk (a_cons (v_call C_law_lists hr tk (a_cons (v_var 2) (a_nil))) (a_cons (v_call C_law_lists hr tk (a_cons (v_var 4) (a_nil))) (a_nil)))) (a_cons (v_call C_partly_mended hr tk (a_cons (v_var 2) (a_cons (v_var 4) (a_cons (v_var 10) (a_cons (v_callTy call_list_of cas_listOf Fc.list boot_list (a_cons (v_var 11) (a_nil))) (a_nil)))))) (a_cons (v_call C_mended hr tk (a_cons (v_var 2) (a_cons (v_var 4) (a_nil)))) (a_nil))))) (g_nm 13 sc_law.nd)) (s_cons (s_if (t_not (t_val (v_call C_law_same hr tk (a_cons (v_var 13) (a_cons (v_lst (a_cons (v_callTy call_tuple_of cas_tupleOf Fc.tuple boot_tuple (a_cons (v_var 9) (a_nil))) (a_cons (v_var 12) (a_cons (v_callTy call_tuple_of cas_tupleOf Fc.tuple boot_tuple (a_cons (v_call C_law_mended hr tk (a_cons (v_var 2) (a_cons (v_var 4) (a_nil)))) (a_nil))) (a_nil))))) (a_nil)))))) (s_one (s_ret (v_bl))) (s_nil)) (s_cons (s_for hp rfl (i_seq (v_sl (v_var 13) (o_some (v_int)) o_none)) (g_nm 14 sc_law.nd) (s_cons (s_setLc1 rfl sc_law.nd rfl rfl (sw_true rfl rfl rfl (by decide +kernel)) (i_rng2 Fc.range (a_cons (v_int) (a_cons (v_op op_add ops_add (v_var 6) (v_int)) (a_nil)))) (blkOk_by (N := N_law) (sc := defScope (topS 80)) (own := [("_law_j", 16)]) (by decide +kernel)) (fun _ _ _ _ _ => pg_name (i := 16) sc_law.nd rfl (Or.inl rfl)) (fun _ _ _ _ _ => ts_nil) (fun _ _ _ _ _ => v_ix (v_var 14) (v_op op_mod ops_mod (v_callTy call_int1 cas_int Fc.int boot_int (a_cons (v_op op_sub ops_sub (v_var 5) (v_var 16)) (a_nil))) (v_ix (v_var 2) (v_int))))) (s_one (s_if ((w_or (t_cmp (op_neP hu) ops_eq (v_call C_law_answer hr tk (a_cons (v_var 2) (a_cons (v_var 14) (a_nil)))) (v_var 5)) (w_or1 (t_cmp (op_neP hu) ops_eq (v_var 15) (v_var 7)))).pt) (s_one (s_ret (v_bl))) (s_nil))))) (s_one (s_asg (v_ix (v_var 13) (v_int)) (g_nm 4 sc_law.nd))))))))))) (s_one (s_ret (v_callX C_law_refused_right hr))))))))))))
theorem ok_law {P : Program} {w : World} {K : PySem.W.Frag} {mg : Str → Option Value} {base : Heap} {cl : Cl} {f : Addr} {fd : FuncData} (Fc : Fac K mg cl) (F : FnP K "law" (topS 80) f fd) (hm : mg "law" = some (.ref f)) (C_law_by_hand_right : Cal P w K mg base cl "_law_by_hand_right" [] 14 f_law_by_hand_right) (C_law_box : Cal P w K mg base cl "_law_box" ["_law_script", "_law_k"] 1 f_law_box) (C_law_cells : Cal P w K mg base cl "_law_cells" ["_law_script", "_law_most_so"] 1 f_law_cells) (C_law_safe_form : Cal P w K mg base cl "_law_safe_form" ["_law_tin", "_law_most_so"] 2 f_law_safe_form) (C_law_run : Cal P w K mg base cl "_law_run" ["_law_form", "_law_tale", "_law_lone_so"] 8 f_law_run) (C_law_drawn_life : Cal P w K mg base cl "_law_drawn_life" ["_law_tin", "_law_form", "_law_many_so", "_law_mends_so"] 8 f_law_drawn_life) (C_law_take : Cal P w K mg base cl "_law_take" ["_law_tin", "_law_below_so"] 1 f_law_take) (C_law_answer : Cal P w K mg base cl "_law_answer" ["_law_form", "_law_face_here"] 4 f_law_answer) (C_law_mending : Cal P w K mg base cl "_law_mending" ["_law_form", "_law_face_here"] 5 f_law_mending) (C_law_fates : Cal P w K mg base cl "_law_fates" ["_law_tin", "_law_many_so"] 3 f_law_fates) (C_law_fallen : Cal P w K mg base cl "_law_fallen" ["_law_cells_so", "_law_flight_so", "_law_fates_so"] 1 f_law_fallen) (C_mended : Cal P w K mg base cl "mended" ["shape", "picture"] 13 f_mended) (C_partly_mended : Cal P w K mg base cl "partly_mended" ["shape", "picture", "many", "fates"] 13 f_partly_mended) (C_mend_writes : Cal P w K mg base cl "mend_writes" ["shape", "picture"] 13 f_mend_writes) (C_law_lists : Cal P w K mg base cl "_law_lists" ["_law_matter"] 9 (f_law_lists 8)) (C_law_same : Cal P w K mg base cl "_law_same" ["_law_got", "_law_due"] 9 (f_law_same 8)) (C_law_mended : Cal P w K mg base cl "_law_mended" ["_law_form", "_law_face_here"] 6 f_law_mended) (C_law_refused_right : Cal P w K mg base cl "_law_refused_right" [] 15 f_law_refused_right) : Cal P w K mg base cl "law" ["_law_script"] 16 f_law := ⟨f, fd, hm, F.kp, (F.bindsN fun _ _ _ _ _ _ us hl => match us, hl with | [_], _ => rfl), fo_law Fc F hm C_law_by_hand_right C_law_box C_law_cells C_law_safe_form C_law_run C_law_drawn_life C_law_take C_law_answer C_law_mending C_law_fates C_law_fallen C_mended C_partly_mended C_mend_writes C_law_lists C_law_same C_law_mended C_law_refused_right⟩
end Hr
set_option Elab.async false
set_option linter.all false
set_option maxRecDepth 100000
set_option maxHeartbeats 4000000
namespace Hr
open PySem PySem.Spec PyProof.Rows L2
/-! ### running the mirrors: rules -/
def Ev {α : Type} (r : Re α) (Q : α → Tab → Prop) : Prop := ∃ a T, r = .ok a T ∧ Q a T
theorem Ev.of {α : Type} {r : Re α} {a : α} {T : Tab} {Q : α → Tab → Prop} (h : r = .ok a T) (q : Q a T) : Ev r Q := ⟨a, T, h, q⟩
theorem Ev.bd {α β : Type} {r : Re α} {k : α → Tab → Re β} {Q : β → Tab → Prop} (h : Ev r fun a T => Ev (k a T) Q) : Ev (r.bd k) Q := by
  obtain ⟨a, T, e, b, T', e2, q⟩ := h
  exact ⟨b, T', by rw [e]; exact e2, q⟩
theorem Ev.imp {α : Type} {r : Re α} {Q Q' : α → Tab → Prop} (h : Ev r Q) (i : ∀ a T, Q a T → Q' a T) : Ev r Q' := by
  obtain ⟨a, T, e, q⟩ := h
  exact ⟨a, T, e, i a T q⟩
theorem Ev.eq {α : Type} {r : Re α} {a : α} {T : Tab} (h : Ev r fun a' T' => a' = a ∧ T' = T) : r = .ok a T := by
  obtain ⟨a', T', e, rfl, rfl⟩ := h
  exact e
section
variable {ρ : Rho} {T T' : Tab} {a b : MS} {m c : ME} {g : MG} {d : Vd} {Q : Fl → Tab → Prop}
def flK (Q : Fl → Tab → Prop) (b : MS) : Fl → Tab → Prop := fun fl T => match fl with
  | .nx ρ => Ev (b ρ T) Q
  | .rt d => Q (.rt d) T
theorem e_seq (h : Ev (a ρ T) (flK Q b)) : Ev (sSeq a b ρ T) Q := Ev.bd (h.imp fun fl T q => by
  cases fl with
  | nx ρ => exact q
  | rt d => exact ⟨_, _, rfl, q⟩)
theorem e_asg (h : m ρ T = .ok d T') (k : Ev (g (.one d) ρ T') fun ρ T => Q (.nx ρ) T) : Ev (sAsg m g ρ T) Q := by
  unfold sAsg
  rw [h, bd_ok]
  exact Ev.bd (k.imp fun ρ T q => ⟨_, _, rfl, q⟩)
theorem e_set {i : Nat} (h : m ρ T = .ok d T') (k : Q (.nx (ρ.set i (some d))) T') : Ev (sAsg m (gNm i) ρ T) Q := e_asg h ⟨_, _, rfl, k⟩
theorem e_ret (h : m ρ T = .ok d T') (k : Q (.rt d) T') : Ev (sRet m ρ T) Q := by
  unfold sRet
  rw [h, bd_ok]
  exact ⟨_, _, rfl, k⟩
theorem e_ifT (h : c ρ T = .ok (.dat (.bool true)) T') (k : Ev (a ρ T') Q) : Ev (sIf c a b ρ T) Q := by
  unfold sIf
  rw [h, bd_ok]
  exact k
theorem e_ifF (h : c ρ T = .ok (.dat (.bool false)) T') (k : Ev (b ρ T') Q) : Ev (sIf c a b ρ T) Q := by
  unfold sIf
  rw [h, bd_ok]
  exact k
theorem e_if {x : Bool} (h : c ρ T = .ok (.dat (.bool x)) T') (k1 : x = true → Ev (a ρ T') Q) (k2 : x = false → Ev (b ρ T') Q) : Ev (sIf c a b ρ T) Q := by
  cases x with
  | true => exact e_ifT h (k1 rfl)
  | false => exact e_ifF h (k2 rfl)
theorem e_skip (k : Q (.nx ρ) T) : Ev (sSkip ρ T) Q := ⟨_, _, rfl, k⟩
theorem e_drop (h : m ρ T = .ok d T') (k : Q (.nx ρ) T') : Ev (sDrop m ρ T) Q := by
  unfold sDrop
  rw [h, bd_ok]
  exact ⟨_, _, rfl, k⟩
theorem e_par {i j : Nat} {ms : MA} {x y : Vd} (h : ms ρ T = .ok [x, y] T') (k : Q (.nx ((ρ.set i (some x)).set j (some y))) T') : Ev (sPar i j ms ρ T) Q := by
  unfold sPar
  rw [h, bd_ok]
  exact ⟨_, _, rfl, k⟩
theorem e_app {e : ME} {k : Nat} {xs : List Vd} {T1 : Tab} (h : m ρ T = .ok (.own k) T) (hl : ∃ ys, T[k]? = some (some ys)) (he : e ρ T = .ok d T1) (hx : T1[k]? = some (some xs)) (hn : xs.length ≤ 100000)
    (q : Q (.nx ρ) (T1.set k (some (xs ++ [d])))) : Ev (sApp m e ρ T) Q := by
  obtain ⟨ys, hy⟩ := hl
  unfold sApp
  rw [h, bd_ok]
  have : liv (.own k) T = true := by simp [liv, hy]
  simp only [this, if_true, he, bd_ok, hx, hn]
  exact ⟨_, _, rfl, q⟩
end
/-! closed tables -/
def Good (T : Tab) : Prop := closed T.length T = true
theorem good_iff {n : Nat} {T : Tab} : closed n T = true ↔ ∀ k xs, k < n → T[k]? = some (some xs) → xs.all (below n) = true := by
  unfold closed
  rw [List.all_eq_true]
  constructor
  · intro h k xs hk e
    exact h (some xs) (List.mem_of_getElem? (by rw [List.getElem?_take_of_lt hk]; exact e))
  · intro h e he
    obtain ⟨k, hk⟩ := List.mem_iff_getElem?.mp he
    have hk2 : k < n := by
      have := (List.getElem?_eq_some_iff.mp hk).1
      rw [List.length_take] at this
      omega
    rw [List.getElem?_take_of_lt hk2] at hk
    cases e with
    | none => rfl
    | some xs => exact h k xs hk2 hk
theorem below_mono {n m : Nat} (h : n ≤ m) {d : Vd} (b : below n d = true) : below m d = true := by
  cases d with
  | own k => exact decide_eq_true (Nat.lt_of_lt_of_le (of_decide_eq_true b) h)
  | dat x => rfl
  | scr ns => rfl
theorem all_mono {n m : Nat} (h : n ≤ m) {xs : List Vd} (b : xs.all (below n) = true) : xs.all (below m) = true := List.all_eq_true.mpr fun d hd => below_mono h (List.all_eq_true.mp b d hd)
theorem all_dat (n : Nat) (xs : List PyData) : (xs.map Vd.dat).all (below n) = true := by
  induction xs with
  | nil => rfl
  | cons x xs ih => simp [below, ih]
theorem Good.get {T : Tab} (h : Good T) {k : Nat} {xs : List Vd} (e : T[k]? = some (some xs)) : xs.all (below T.length) = true := good_iff.mp h k xs (List.getElem?_eq_some_iff.mp e).1 e
theorem Good.snoc {T : Tab} (h : Good T) {xs : List Vd} (hx : xs.all (below (T.length + 1)) = true) : Good (T ++ [some xs]) := good_iff.mpr fun k ys hk e => by
  rw [List.length_append, List.length_singleton] at hk ⊢
  by_cases q : k < T.length
  · rw [List.getElem?_append_left q] at e
    exact all_mono (Nat.le_succ _) (h.get e)
  · have : k = T.length := by omega
    subst this
    simp at e
    subst e
    exact hx
theorem Good.snocD {T : Tab} (h : Good T) (xs : List PyData) : Good (T ++ [some (xs.map Vd.dat)]) := h.snoc (all_dat _ _)
theorem Good.snocN {T : Tab} (h : Good T) : Good (T ++ [some []]) := h.snoc rfl
theorem Good.set {T : Tab} (h : Good T) {k : Nat} {xs : List Vd} (hx : xs.all (below T.length) = true) : Good (T.set k (some xs)) := good_iff.mpr fun j ys hj e => by
  rw [List.length_set] at hj ⊢
  by_cases q : k = j
  · subst q
    rw [List.getElem?_set_self hj] at e
    have : xs = ys := by simpa using e
    subst this
    exact hx
  · rw [List.getElem?_set_ne q] at e
    exact h.get e
theorem Good.setD {T : Tab} (h : Good T) {k : Nat} (xs : List PyData) : Good (T.set k (some (xs.map Vd.dat))) := h.set (all_dat _ _)
/-! defs -/
section
variable {ds : List Vd} {T : Tab} {n : Nat} {m : MS} {Q : Vd → Tab → Prop}
theorem e_fn (h : Ev (m (ds.map some ++ List.replicate (n - ds.length) none) T) fun fl T' => match fl with
    | .rt d => Q d T'
    | .nx _ => Q (.dat .none) T') : Ev (mFn n m ds T) Q := Ev.bd (h.imp fun fl T q => by
  cases fl with
  | nx ρ => exact ⟨_, _, rfl, q⟩
  | rt d => exact ⟨_, _, rfl, q⟩)
theorem e_cut {f : List Vd → Tab → Re Vd} (h : Ev (f ds T) fun d T' => closed T.length T' = true ∧ below T.length d = true ∧ Q d (T'.take T.length)) : Ev (fCut f ds T) Q := by
  obtain ⟨d, T', e, c, b, q⟩ := h
  refine ⟨d, T'.take T.length, ?_, q⟩
  unfold fCut
  simp [e, c, b]
theorem e_frz {f : List Vd → Tab → Re Vd} (h : Ev (f ds T) fun d T' => ∃ k xs, d = .own k ∧ T.length ≤ k ∧ T'[k]? = some (some (xs.map Vd.dat)) ∧ closed T.length T' = true ∧ Q (.dat (.list xs)) (T'.take T.length)) : Ev (fFrz f ds T) Q := by
  obtain ⟨d, T', e, k, xs, rfl, hk, hx, c, q⟩ := h
  refine ⟨_, T'.take T.length, ?_, q⟩
  unfold fFrz
  simp [e, hx, dats_map, hk, c]
end
theorem take_snoc {T : Tab} {o : Option (List Vd)} : (T ++ [o]).take T.length = T := by simp
theorem closed_snoc {T : Tab} (h : Good T) (o : Option (List Vd)) : closed T.length (T ++ [o]) = true := by
  unfold closed
  rw [take_snoc]
  have := h
  unfold Good closed at this
  rw [List.take_length] at this
  exact this
/-- T stands ahead of S -/
def Pre (T S : Tab) : Prop := ∃ R, S = T ++ R
theorem Pre.refl (T : Tab) : Pre T T := ⟨[], by simp⟩
theorem Pre.trans {T S R : Tab} (a : Pre T S) (b : Pre S R) : Pre T R := by
  obtain ⟨x, rfl⟩ := a
  obtain ⟨y, rfl⟩ := b
  exact ⟨x ++ y, by simp⟩
theorem Pre.snoc (T : Tab) (o : Option (List Vd)) : Pre T (T ++ [o]) := ⟨[o], rfl⟩
theorem Pre.take {T S : Tab} (h : Pre T S) : S.take T.length = T := by
  obtain ⟨x, rfl⟩ := h
  simp
theorem Pre.closed {T S : Tab} (h : Pre T S) (g : Good T) : Hr.closed T.length S = true := by
  unfold Hr.closed
  rw [h.take]
  have := g
  unfold Good Hr.closed at this
  rw [List.take_length] at this
  exact this
theorem Pre.get {T S : Tab} (h : Pre T S) {k : Nat} {o : Option (List Vd)} (e : T[k]? = some o) : S[k]? = some o := by
  obtain ⟨x, rfl⟩ := h
  have := (List.getElem?_eq_some_iff.mp e).1
  rw [List.getElem?_append_left this]
  exact e
theorem Pre.items {T S : Tab} (h : Pre T S) {x : Vd} {xs : List Vd} (e : itemsOf x T = some xs) : itemsOf x S = some xs := by
  cases x with
  | dat x => cases x <;> exact e
  | scr ns => exact e
  | own k =>
    unfold itemsOf at e ⊢
    simp only at e ⊢
    cases q : T[k]? with
    | none => rw [q] at e; cases e
    | some o => rw [q] at e; rw [h.get q]; exact e
/-- a pure def -/
theorem ev_pure {ds : List Vd} {T : Tab} {n : Nat} {m : MS} {d : PyData} (g : Good T) (h : Ev (m (ds.map some ++ List.replicate (n - ds.length) none) T) fun fl T' => fl = .rt (.dat d) ∧ Pre T T') : fCut (mFn n m) ds T = .ok (.dat d) T :=
  Ev.eq (e_cut (e_fn (h.imp fun fl T' q => by
    obtain ⟨rfl, p⟩ := q
    exact ⟨p.closed g, rfl, rfl, p.take⟩)))
/-! walks -/
theorem nw_seq {x : Vd} {T : Tab} {xs : List Vd} (h : itemsOf x T = some xs) (i : Nat) : nextOf (.seq x) i T = some ((xs[i]?).map .one) := by
  unfold nextOf
  simp only [h]
theorem nw_rng {lo : Int} {n : Nat} {T : Tab} (i : Nat) : nextOf (.rng lo n) i T = some ((((List.range n).map fun j => lo + (j : Nat))[i]?).map fun z => .one (.dat (.int z))) := by
  unfold nextOf
  by_cases h : i < n
  · simp [h]
  · have : (List.range n)[i]? = none := by simp; omega
    simp [h, this]
theorem nw_zp {x y : Vd} {T : Tab} {xs ys : List Vd} (h : itemsOf x T = some xs) (h2 : itemsOf y T = some ys) {i : Nat} (hi : i ≤ (xs.zip ys).length) : nextOf (.zp x y) i T = some (((xs.zip ys)[i]?).map fun p => .two p.1 p.2) := by
  unfold nextOf
  simp only [h, h2]
  unfold pairAt
  rw [List.length_zip] at hi
  by_cases q : i < min xs.length ys.length
  · have h1 : i < xs.length := by omega
    have h3 : i < ys.length := by omega
    have h6 : (xs.zip ys)[i]? = some (xs[i], ys[i]) := by
      rw [List.getElem?_eq_getElem (by rw [List.length_zip]; exact q), List.getElem_zip]
    rw [h6, List.getElem?_eq_getElem h1, List.getElem?_eq_getElem h3] <;> rfl
  · have e : i = min xs.length ys.length := by omega
    have h4 : (xs.zip ys)[i]? = none := by simp [List.length_zip]; omega
    rw [h4]
    have h5 : xs[i]? = none ∨ ys[i]? = none := by
      by_cases q1 : xs.length ≤ ys.length
      · left; simp; omega
      · right; simp; omega
    cases hx : xs[i]? with
    | none => simp only [if_pos e] <;> rfl
    | some a =>
      rcases h5 with h5 | h5
      · rw [h5] at hx; cases hx
      · rw [h5]; simp only [if_pos e] <;> rfl
theorem nw_en {x : Vd} {T : Tab} {xs : List Vd} (h : itemsOf x T = some xs) {i : Nat} (hi : i ≤ xs.length) : nextOf (.en x) i T = some (((xs.zipIdx)[i]?).map fun p => .two (.dat (.int (p.2 : Nat))) p.1) := by
  unfold nextOf
  simp only [h]
  unfold enumAt
  rw [List.getElem?_zipIdx]
  cases hx : xs[i]? with
  | none =>
    have : i = xs.length := by
      have := List.getElem?_eq_none_iff.mp hx
      omega
    simp [this]
  | some a => simp
theorem fu_seq {x : Vd} {T : Tab} {xs : List Vd} (h : itemsOf x T = some xs) : fuelOf (.seq x) T = xs.length := by
  unfold fuelOf lenOf
  simp only [h]
theorem fu_zp {x y : Vd} {T : Tab} {xs ys : List Vd} (h : itemsOf x T = some xs) (h2 : itemsOf y T = some ys) : fuelOf (.zp x y) T = (xs.zip ys).length := by
  unfold fuelOf lenOf
  simp only [h, h2, List.length_zip]
theorem fu_en {x : Vd} {T : Tab} {xs : List Vd} (h : itemsOf x T = some xs) : fuelOf (.en x) T = xs.zipIdx.length := by
  unfold fuelOf lenOf
  simp only [h, List.length_zipIdx]
/-! loops -/
theorem e_for {α : Type} {ρ : Rho} {T T1 : Tab} {mi : MI} {g : MG} {body : MS} {Q : Fl → Tab → Prop} {it : Itv} (ys : List α) (enc : α → Xt) (I : Nat → Rho → Tab → Prop) (hm : mi ρ T = .ok it T1) (hf : fuelOf it T1 = ys.length)
    (hi : ∀ i ρ T, i ≤ ys.length → I i ρ T → nextOf it i T = some ((ys[i]?).map enc)) (h0 : I 0 ρ T1)
    (hs : ∀ i y ρ T, ys[i]? = some y → I i ρ T → Ev (g (enc y) ρ T) fun ρ1 T1 => Ev (body ρ1 T1) fun fl T' => ∃ ρ', fl = .nx ρ' ∧ I (i + 1) ρ' T') (hq : ∀ ρ T, I ys.length ρ T → Q (.nx ρ) T) : Ev (sFor mi g body ρ T) Q := by
  unfold sFor
  rw [hm, bd_ok, hf]
  have go : ∀ n i ρ T, i + n = ys.length → I i ρ T → Ev (loop it g body n i ρ T) Q := by
    intro n
    induction n with
    | zero =>
      intro i ρ T e h
      have hn : nextOf it i T = some none := by rw [hi i ρ T (by omega) h, List.getElem?_eq_none (by omega)]; rfl
      unfold loop
      simp only [hn]
      have : i = ys.length := by omega
      subst this
      exact ⟨_, _, rfl, hq ρ T h⟩
    | succ n ih =>
      intro i ρ T e h
      have hlt : i < ys.length := by omega
      have hn : nextOf it i T = some (some (enc ys[i])) := by rw [hi i ρ T (by omega) h, List.getElem?_eq_getElem hlt]; rfl
      unfold loop
      simp only [hn]
      refine Ev.bd ((hs i ys[i] ρ T (List.getElem?_eq_getElem hlt) h).imp fun ρ1 T1 q => Ev.bd (q.imp fun fl T2 q => ?_))
      obtain ⟨ρ', rfl, h2⟩ := q
      exact ih (i + 1) ρ' T2 (by omega) h2
  exact go ys.length 0 ρ T1 (by omega) h0
/-! comprehensions -/
theorem lc_ev {α : Type} {ρ : Rho} {T : Tab} {it : Itv} {bnd : Xt → Rho → Option Rho} {tt el : ME} (ys : List α) (enc : α → Xt) (b : α → Bool) (v : α → PyData) (g : Good T) (hz : ys.length ≤ 100000)
    (hi : ∀ i S, i ≤ ys.length → Pre T S → nextOf it i S = some ((ys[i]?).map enc))
    (hs : ∀ y ∈ ys, ∀ S, Good S → Pre T S → ∃ ρ1, bnd (enc y) ρ = some ρ1 ∧ tt ρ1 S = .ok (.dat (.bool (b y))) S ∧ (b y = true → el ρ1 S = .ok (.dat (v y)) S)) :
    lcl it bnd tt el T.length ys.length 0 ρ (T ++ [some []]) = .ok (.dat (.list ((ys.filter b).map v))) T := by
  have go : ∀ n i (acc : List PyData), i + n = ys.length → acc.length ≤ i → lcl it bnd tt el T.length n i ρ (T ++ [some (acc.map Vd.dat)]) = .ok (.dat (.list (acc ++ ((ys.drop i).filter b).map v))) T := by
    have fin : ∀ acc : List PyData, lcEnd T.length (T ++ [some (acc.map Vd.dat)]) = .ok (.dat (.list acc)) T := by
      intro acc
      unfold lcEnd
      simp [dats_map, closed_snoc g]
    intro n
    induction n with
    | zero =>
      intro i acc e ha
      have hn : nextOf it i (T ++ [some (acc.map Vd.dat)]) = some none := by rw [hi i _ (by omega) (Pre.snoc _ _), List.getElem?_eq_none (by omega)]; rfl
      unfold lcl
      simp only [hn, fin]
      rw [List.drop_eq_nil_of_le (by omega)]
      simp
    | succ n ih =>
      intro i acc e ha
      have hlt : i < ys.length := by omega
      have hn : nextOf it i (T ++ [some (acc.map Vd.dat)]) = some (some (enc ys[i])) := by rw [hi i _ (by omega) (Pre.snoc _ _), List.getElem?_eq_getElem hlt]; rfl
      obtain ⟨ρ1, h1, h2, h3⟩ := hs ys[i] (List.getElem_mem hlt) (T ++ [some (acc.map Vd.dat)]) (g.snocD acc) (Pre.snoc _ _)
      unfold lcl
      simp only [hn]
      unfold lcStep
      simp only [h1, h2, ne_ok, bd_ok]
      rw [List.drop_eq_getElem_cons hlt]
      cases hb : b ys[i] with
      | false =>
        unfold lcEl
        simp only
        rw [ih (i + 1) acc (by omega) (by omega), List.filter_cons_of_neg (by simp [hb])]
      | true =>
        unfold lcEl
        simp only [h3 hb, ne_ok, bd_ok]
        unfold lcPut
        have e1 : (T ++ [some (acc.map Vd.dat)])[T.length]? = some (some (acc.map Vd.dat)) := by simp
        have e2 : (T ++ [some (acc.map Vd.dat)]).set T.length (some (acc.map Vd.dat ++ [Vd.dat (v ys[i])])) = T ++ [some ((acc ++ [v ys[i]]).map Vd.dat)] := by simp
        simp only [e1, e2]
        rw [if_pos (by simp; omega), ih (i + 1) (acc ++ [v ys[i]]) (by omega) (by simp; omega), List.filter_cons_of_pos (by simp [hb])]
        simp
  have := go ys.length 0 [] (by omega) (by simp)
  simpa using this
end Hr
set_option Elab.async false
set_option linter.all false
set_option maxRecDepth 100000
set_option maxHeartbeats 4000000
namespace Hr
open PySem PySem.Spec PyProof.Rows L2
/-! ### values: what simp unfolds -/
section
variable {ρ : Rho} {T : Tab} {a b c : ME} {r ms : MA} {f : List Vd → Tab → Re Vd} {f1 : Vd → Tab → Re Vd} {f2 g2 : Vd → Vd → Tab → Re Vd}
@[simp] theorem x_var (i : Nat) : mVar i ρ T = match ρ[i]? with
  | some (some d) => .ok d T
  | _ => .bad := rfl
@[simp] theorem x_C (x : PyData) : mC x ρ T = .ok (.dat x) T := rfl
@[simp] theorem x_m1 : m1 f1 a ρ T = (a ρ T).bd f1 := rfl
@[simp] theorem x_m2 : m2 f2 a b ρ T = (a ρ T).bd fun x T => (b ρ T).bd fun y T => f2 x y T := rfl
@[simp] theorem x_and : mAnd a b ρ T = (a ρ T).bd fun x T => match x with
  | .dat (.bool true) => b ρ T
  | .dat (.bool false) => .ok (.dat (.bool false)) T
  | _ => .bad := rfl
@[simp] theorem x_or : mOr a b ρ T = (a ρ T).bd fun x T => match x with
  | .dat (.bool true) => .ok (.dat (.bool true)) T
  | .dat (.bool false) => b ρ T
  | _ => .bad := rfl
@[simp] theorem x_not : mNot a ρ T = (a ρ T).bd fNot := rfl
@[simp] theorem x_fNot (k : Bool) : fNot (.dat (.bool k)) T = .ok (.dat (.bool (!k))) T := rfl
@[simp] theorem x_if : mIf c a b ρ T = (c ρ T).bd fun x T => match x with
  | .dat (.bool true) => a ρ T
  | .dat (.bool false) => b ρ T
  | _ => .bad := rfl
@[simp] theorem x_nil : mNil ρ T = .ok [] T := rfl
@[simp] theorem x_cons : mCons a r ρ T = (a ρ T).bd fun x T => (r ρ T).bd fun xs T => .ok (x :: xs) T := rfl
@[simp] theorem x_N : mN f ms ρ T = (ms ρ T).bd f := rfl
@[simp] theorem x_chain : mChain f2 g2 a b c ρ T = (a ρ T).bd fun x T => (b ρ T).bd fun y T => (f2 x y T).bd fun z T => match z with
  | .dat (.bool true) => (c ρ T).bd fun w T => g2 y w T
  | .dat (.bool false) => .ok (.dat (.bool false)) T
  | _ => .bad := rfl
@[simp] theorem x_call1 {x : Vd} : fCall 1 f [x] T = f [x] T := rfl
@[simp] theorem x_call2 {x y : Vd} : fCall 2 f [x, y] T = f [x, y] T := rfl
@[simp] theorem x_call3 {x y z : Vd} : fCall 3 f [x, y, z] T = f [x, y, z] T := rfl
@[simp] theorem x_call4 {x y z u : Vd} : fCall 4 f [x, y, z, u] T = f [x, y, z, u] T := rfl
@[simp] theorem x_I (k : Int → Int → Bool) (g : Int → Int → PyData) (i j : Int) : fI k g (.dat (.int i)) (.dat (.int j)) T = if k i j = true then .ok (.dat (g i j)) T else .bad := rfl
@[simp] theorem x_cTrue (i j : Int) : cTrue i j = true := rfl
@[simp] theorem x_cPos (i j : Int) : (cPos i j = true) = (0 < j) := by simp [cPos]
@[simp] theorem x_cDiv (i j : Int) : (cDiv i j = true) = (0 < j ∧ j < 1073741824) := by simp [cDiv]
@[simp] theorem x_neg (i : Int) : fNeg (.dat (.int i)) T = .ok (.dat (.int (-i))) T := rfl
@[simp] theorem x_eq (neg : Bool) (d e : PyData) : fEq neg (.dat d) (.dat e) T = if shal d e = true then .ok (.dat (.bool (if neg then !PyData.eqv d e else PyData.eqv d e))) T else .bad := rfl
@[simp] theorem x_sh_int (d : PyData) (i : Int) : shal d (.int i) = true := by simp [shal, PyData.depth]
@[simp] theorem x_sh_str (d : PyData) (i : Str) : shal d (.str i) = true := by simp [shal, PyData.depth]
@[simp] theorem x_sh_bool (d : PyData) (i : Bool) : shal d (.bool i) = true := by simp [shal, PyData.depth]
@[simp] theorem x_sh_none (d : PyData) : shal d .none = true := by simp [shal, PyData.depth]
@[simp] theorem x_sh_t0 (d : PyData) : shal d (.tuple []) = true := by simp [shal, PyData.depth, PyData.depthAll]
@[simp] theorem x_sh_l0 (d : PyData) : shal d (.list []) = true := by simp [shal, PyData.depth, PyData.depthAll]
@[simp] theorem x_sh_t1 (d : PyData) (x : Str) : shal d (.tuple [.str x]) = true := by simp [shal, PyData.depth, PyData.depthAll]
@[simp] theorem x_is_ii (i : Int) : fIs "int" (.dat (.int i)) T = .ok (.dat (.bool true)) T := by simp [fIs, liv, tyN, isTy]
@[simp] theorem x_is_bi (i : Int) : fIs "bool" (.dat (.int i)) T = .ok (.dat (.bool false)) T := by simp [fIs, liv, tyN, isTy]
@[simp] theorem x_is_tt (xs : List PyData) : fIs "tuple" (.dat (.tuple xs)) T = .ok (.dat (.bool true)) T := by simp [fIs, liv, tyN, isTy]
@[simp] theorem x_is_lt (xs : List PyData) : fIs "list" (.dat (.tuple xs)) T = .ok (.dat (.bool false)) T := by simp [fIs, liv, tyN, isTy]
@[simp] theorem x_is_tl (xs : List PyData) : fIs "tuple" (.dat (.list xs)) T = .ok (.dat (.bool false)) T := by simp [fIs, liv, tyN, isTy]
@[simp] theorem x_is_ll (xs : List PyData) : fIs "list" (.dat (.list xs)) T = .ok (.dat (.bool true)) T := by simp [fIs, liv, tyN, isTy]
@[simp] theorem x_is_ss (x : Str) : fIs "str" (.dat (.str x)) T = .ok (.dat (.bool true)) T := by simp [fIs, liv, tyN, isTy]
@[simp] theorem x_is_is (x : Str) : fIs "int" (.dat (.str x)) T = .ok (.dat (.bool false)) T := by simp [fIs, liv, tyN, isTy]
@[simp] theorem x_is_si (x : Int) : fIs "str" (.dat (.int x)) T = .ok (.dat (.bool false)) T := by simp [fIs, liv, tyN, isTy]
@[simp] theorem x_is2_t (xs : List PyData) : fIs2 "list" "tuple" (.dat (.tuple xs)) T = .ok (.dat (.bool true)) T := by simp [fIs2, liv, tyN, isTy]
@[simp] theorem x_is2_l (xs : List PyData) : fIs2 "list" "tuple" (.dat (.list xs)) T = .ok (.dat (.bool true)) T := by simp [fIs2, liv, tyN, isTy]
@[simp] theorem x_is2_i (x : Int) : fIs2 "list" "tuple" (.dat (.int x)) T = .ok (.dat (.bool false)) T := by simp [fIs2, liv, tyN, isTy]
@[simp] theorem x_is2_s (x : Str) : fIs2 "list" "tuple" (.dat (.str x)) T = .ok (.dat (.bool false)) T := by simp [fIs2, liv, tyN, isTy]
@[simp] theorem x_is2_bs (x : Str) : fIs2 "bool" "str" (.dat (.str x)) T = .ok (.dat (.bool true)) T := by simp [fIs2, liv, tyN, isTy]
@[simp] theorem x_is2_bi (x : Int) : fIs2 "bool" "str" (.dat (.int x)) T = .ok (.dat (.bool false)) T := by simp [fIs2, liv, tyN, isTy]
@[simp] theorem x_is_bs (x : Str) : fIs "bool" (.dat (.str x)) T = .ok (.dat (.bool false)) T := by simp [fIs, liv, tyN, isTy]
@[simp] theorem x_isN_i (n : Bool) (x : Int) : fIsN n (.dat (.int x)) T = .ok (.dat (.bool (if n then true else false))) T := by cases n <;> rfl
@[simp] theorem x_isN_s (n : Bool) (x : Str) : fIsN n (.dat (.str x)) T = .ok (.dat (.bool (if n then true else false))) T := by cases n <;> rfl
@[simp] theorem x_isN_n (n : Bool) : fIsN n (.dat .none) T = .ok (.dat (.bool (if n then false else true))) T := by cases n <;> rfl
@[simp] theorem x_len_t (xs : List PyData) : fLen [.dat (.tuple xs)] T = .ok (.dat (.int xs.length)) T := by simp [fLen, itemsOf]
@[simp] theorem x_len_l (xs : List PyData) : fLen [.dat (.list xs)] T = .ok (.dat (.int xs.length)) T := by simp [fLen, itemsOf]
theorem x_len {x : Vd} {xs : List Vd} (h : itemsOf x T = some xs) : fLen [x] T = .ok (.dat (.int xs.length)) T := by
  cases x with
  | own k => simp only [fLen, h]
  | scr ns => simp only [fLen, h]
  | dat x =>
    cases x with
    | list ys => simp only [fLen, h]
    | tuple ys => simp only [fLen, h]
    | none => cases h
    | bool b => cases h
    | int i => cases h
    | str z => cases h
    | dict z => cases h
@[simp] theorem x_eqv_i (i j : Int) : PyData.eqv (.int i) (.int j) = decide (i = j) := by
  rw [PyData.eqv]
  by_cases h : i = j <;> simp [h]
@[simp] theorem x_eqv_s (x y : Str) : PyData.eqv (.str x) (.str y) = decide (x = y) := by
  rw [PyData.eqv]
  by_cases h : x = y <;> simp [h]
@[simp] theorem x_eqv_b (i j : Bool) : PyData.eqv (.bool i) (.bool j) = decide (i = j) := by
  rw [PyData.eqv]
  cases i <;> cases j <;> rfl
@[simp] theorem x_eqv_t0 (x : PyData) (xs : List PyData) : PyData.eqv (.tuple (x :: xs)) (.tuple []) = false := rfl
@[simp] theorem x_eqv_l0 (x : PyData) (xs : List PyData) : PyData.eqv (.list (x :: xs)) (.list []) = false := rfl
@[simp] theorem x_eqv_l00 : PyData.eqv (.list []) (.list []) = true := rfl
theorem x_ix {x : Vd} {xs : List Vd} {i : Int} {d : Vd} (h : itemsOf x T = some xs) (h0 : 0 ≤ i) (h1 : xs[i.toNat]? = some d) : fIx x (.dat (.int i)) T = .ok d T := by
  have hl : i.toNat < xs.length := (List.getElem?_eq_some_iff.mp h1).1
  have hl2 : i < xs.length := by omega
  unfold fIx
  simp only [h]
  have : atI xs i = some d := by
    unfold atI ixN
    rw [if_pos h0, if_pos hl2]
    exact h1
  simp only [this]
@[simp] theorem x_ix0 (x : PyData) (xs : List PyData) : fIx (.dat (.tuple (x :: xs))) (.dat (.int 0)) T = .ok (.dat x) T := x_ix rfl (by decide) rfl
@[simp] theorem x_ix1 (x y : PyData) (xs : List PyData) : fIx (.dat (.tuple (x :: y :: xs))) (.dat (.int 1)) T = .ok (.dat y) T := x_ix rfl (by decide) rfl
@[simp] theorem x_ix2 (x y z : PyData) (xs : List PyData) : fIx (.dat (.tuple (x :: y :: z :: xs))) (.dat (.int 2)) T = .ok (.dat z) T := x_ix rfl (by decide) rfl
@[simp] theorem x_ixl0 (x : PyData) (xs : List PyData) : fIx (.dat (.list (x :: xs))) (.dat (.int 0)) T = .ok (.dat x) T := x_ix rfl (by decide) rfl
theorem x_ixown {k : Nat} {xs : List Vd} {i : Int} {d : Vd} (h : T[k]? = some (some xs)) (h0 : 0 ≤ i) (h1 : xs[i.toNat]? = some d) : fIx (.own k) (.dat (.int i)) T = .ok d T := x_ix (by simp [itemsOf, h]) h0 h1
@[simp] theorem x_dats_nil : dats [] = some [] := rfl
@[simp] theorem x_dats_cons (x : PyData) (r : List Vd) : dats (.dat x :: r) = (dats r).map (x :: ·) := rfl
@[simp] theorem x_int_i (i : Int) : fInt [.dat (.int i)] T = .ok (.dat (.int i)) T := rfl
@[simp] theorem x_abs (i : Int) : fAbs [.dat (.int i)] T = .ok (.dat (.int (if i < 0 then -i else i))) T := rfl
@[simp] theorem x_tupt (xs : List PyData) : fTupleOf [.dat (.tuple xs)] T = .ok (.dat (.tuple xs)) T := rfl
@[simp] theorem x_tupl (xs : List PyData) : fTupleOf [.dat (.list xs)] T = .ok (.dat (.tuple xs)) T := by simp [fTupleOf, isLst, itemsOf, dats_map]
theorem x_tupo {k : Nat} {xs : List PyData} (h : T[k]? = some (some (xs.map Vd.dat))) : fTupleOf [.own k] T = .ok (.dat (.tuple xs)) T := by simp [fTupleOf, isLst, itemsOf, h, dats_map]
end
theorem bools_bl : ∀ bs : List Bool, bools (bs.map PyData.bool) = some bs
  | [] => rfl
  | b :: bs => by simp [bools, bools_bl bs]
theorem x_all {T : Tab} (bs : List Bool) : fAll [.dat (.list (bs.map PyData.bool))] T = .ok (.dat (.bool (bs.all id))) T := by
  unfold fAll
  simp only [bools_bl]
theorem x_allm {α : Type} {T : Tab} (v : α → Bool) (l : List α) : fAll [.dat (.list (l.map fun a => PyData.bool (v a)))] T = .ok (.dat (.bool (l.all v))) T := by
  have e : l.map (fun a => PyData.bool (v a)) = (l.map v).map PyData.bool := by rw [List.map_map]; rfl
  rw [e, x_all, List.all_map]
  rfl
/-- a pure def, its slots written out -/
theorem ev_p {ds : List Vd} {T : Tab} {n : Nat} {m : MS} {d : PyData} {ρ : Rho} (g : Good T) (h : Ev (m ρ T) fun fl T' => fl = .rt (.dat d) ∧ Pre T T') (hρ : ds.map some ++ List.replicate (n - ds.length) none = ρ := by (simp only [List.map_cons, List.map_nil, List.length_cons, List.length_nil, List.cons_append, List.nil_append, Nat.reduceAdd, Nat.reduceSub, Nat.zero_add, List.reduceReplicate]) <;> rfl) : fCut (mFn n m) ds T = .ok (.dat d) T := by
  subst hρ
  exact ev_pure g h
section
variable {ρ : Rho} {T : Tab} {a b : MS} {m c : ME} {g : MG} {d : Vd} {Q : Fl → Tab → Prop}
theorem p_set {i : Nat} (h : m ρ T = .ok d T) (k : Q (.nx (ρ.set i (some d))) T) : Ev (sAsg m (gNm i) ρ T) Q := e_set h k
theorem p_ret (h : m ρ T = .ok d T) (k : Q (.rt d) T) : Ev (sRet m ρ T) Q := e_ret h k
theorem p_ifT (h : c ρ T = .ok (.dat (.bool true)) T) (k : Ev (a ρ T) Q) : Ev (sIf c a b ρ T) Q := e_ifT h k
theorem p_ifF (h : c ρ T = .ok (.dat (.bool false)) T) (k : Ev (b ρ T) Q) : Ev (sIf c a b ρ T) Q := e_ifF h k
theorem p_if {x : Bool} (h : c ρ T = .ok (.dat (.bool x)) T) (k1 : x = true → Ev (a ρ T) Q) (k2 : x = false → Ev (b ρ T) Q) : Ev (sIf c a b ρ T) Q := e_if h k1 k2
theorem q_rt {d : Vd} (h : m ρ T = .ok d T) (k : Q (.rt d) T) : Ev (sRet m ρ T) (flK Q b) := e_ret h k
theorem p_rt {d : PyData} (h : m ρ T = .ok (.dat d) T) : Ev (sRet m ρ T) fun fl T' => fl = .rt (.dat d) ∧ Pre T T' := e_ret h ⟨rfl, Pre.refl _⟩
end
theorem filt {α : Type} (l : List α) : l.filter (fun _ => true) = l := List.filter_eq_self.mpr fun _ _ => rfl
/-! comprehensions, ready for use -/
section
variable {α : Type} {ρ : Rho} {T : Tab} {m : ME} {mi : MI} {tt el : ME} {i j : Nat}
theorem p_lc1 {it : Itv} (ys : List α) (enc : α → Vd) (b : α → Bool) (v : α → PyData) (g : Good T) (hm : mi ρ T = .ok it T) (hf : fuelOf it T = ys.length) (hz : ys.length ≤ 100000)
    (hi : ∀ k S, k ≤ ys.length → Pre T S → nextOf it k S = some ((ys[k]?).map fun y => .one (enc y)))
    (hs : ∀ y ∈ ys, ∀ S, Good S → Pre T S → tt ((ρ.set i none).set i (some (enc y))) S = .ok (.dat (.bool (b y))) S ∧ (b y = true → el ((ρ.set i none).set i (some (enc y))) S = .ok (.dat (v y)) S)) :
    mLc1 mi i tt el ρ T = .ok (.dat (.list ((ys.filter b).map v))) T := by
  unfold mLc1
  rw [hm, bd_ok, hf]
  exact lc_ev ys (fun y => .one (enc y)) b v g hz hi fun y hy S gS pS => ⟨_, rfl, hs y hy S gS pS⟩
theorem p_lc1s (ys : List α) (enc : α → Vd) (b : α → Bool) (v : α → PyData) (g : Good T) {x : Vd} (hm : m ρ T = .ok x T) (hx : itemsOf x T = some (ys.map enc)) (hz : ys.length ≤ 100000)
    (hs : ∀ y ∈ ys, ∀ S, Good S → Pre T S → tt ((ρ.set i none).set i (some (enc y))) S = .ok (.dat (.bool (b y))) S ∧ (b y = true → el ((ρ.set i none).set i (some (enc y))) S = .ok (.dat (v y)) S)) :
    mLc1 (mSeq m) i tt el ρ T = .ok (.dat (.list ((ys.filter b).map v))) T := by
  refine p_lc1 (it := .seq x) ys enc b v g (by simp [mSeq, hm, hasItems, hx]) (by rw [fu_seq hx]; simp) hz (fun k S _ p => ?_) hs
  rw [nw_seq (p.items hx)]
  simp
  rfl
theorem p_lc1r {lo : Int} {n : Nat} (b : Int → Bool) (v : Int → PyData) (g : Good T) (hm : mi ρ T = .ok (.rng lo n) T) (hz : n ≤ 100000)
    (hs : ∀ y, lo ≤ y → y < lo + n → ∀ S, Good S → Pre T S → tt ((ρ.set i none).set i (some (.dat (.int y)))) S = .ok (.dat (.bool (b y))) S ∧ (b y = true → el ((ρ.set i none).set i (some (.dat (.int y)))) S = .ok (.dat (v y)) S)) :
    mLc1 mi i tt el ρ T = .ok (.dat (.list ((((List.range n).map fun j => lo + (j : Nat)).filter b).map v))) T := by
  refine p_lc1 (it := .rng lo n) ((List.range n).map fun j => lo + (j : Nat)) (fun y => .dat (.int y)) b v g hm (by simp [fuelOf]) (by simpa using hz) (fun k S _ p => nw_rng k) fun y hy S gS pS => ?_
  obtain ⟨k, hk, rfl⟩ := List.mem_map.mp hy
  rw [List.mem_range] at hk
  exact hs _ (by omega) (by omega) S gS pS
theorem p_lc2 {it : Itv} (hij : i ≠ j) (ys : List α) (e1 e2 : α → Vd) (b : α → Bool) (v : α → PyData) (g : Good T) (hm : mi ρ T = .ok it T) (hf : fuelOf it T = ys.length) (hz : ys.length ≤ 100000)
    (hi : ∀ k S, k ≤ ys.length → Pre T S → nextOf it k S = some ((ys[k]?).map fun y => .two (e1 y) (e2 y)))
    (hs : ∀ y ∈ ys, ∀ S, Good S → Pre T S → tt ((((ρ.set j none).set i none).set i (some (e1 y))).set j (some (e2 y))) S = .ok (.dat (.bool (b y))) S ∧ (b y = true → el ((((ρ.set j none).set i none).set i (some (e1 y))).set j (some (e2 y))) S = .ok (.dat (v y)) S)) :
    mLc2 mi i j tt el ρ T = .ok (.dat (.list ((ys.filter b).map v))) T := by
  unfold mLc2
  rw [hm, bd_ok, hf]
  exact lc_ev ys (fun y => .two (e1 y) (e2 y)) b v g hz hi fun y hy S gS pS => ⟨_, rfl, hs y hy S gS pS⟩
/-- over a list of pairs -/
theorem p_lc2s (hij : i ≠ j) (ys : List α) (e1 e2 : α → PyData) (b : α → Bool) (v : α → PyData) (g : Good T) {x : Vd} (hm : m ρ T = .ok x T) (hx : itemsOf x T = some (ys.map fun y => .dat (.tuple [e1 y, e2 y]))) (hz : ys.length ≤ 100000)
    (hs : ∀ y ∈ ys, ∀ S, Good S → Pre T S → tt ((((ρ.set j none).set i none).set i (some (.dat (e1 y)))).set j (some (.dat (e2 y)))) S = .ok (.dat (.bool (b y))) S ∧ (b y = true → el ((((ρ.set j none).set i none).set i (some (.dat (e1 y)))).set j (some (.dat (e2 y)))) S = .ok (.dat (v y)) S)) :
    mLc2 (mSeq m) i j tt el ρ T = .ok (.dat (.list ((ys.filter b).map v))) T := by
  unfold mLc2
  have h1 : mSeq m ρ T = .ok (.seq x) T := by simp [mSeq, hm, hasItems, hx]
  have h2 : fuelOf (.seq x) T = ys.length := by rw [fu_seq hx]; simp
  rw [h1, bd_ok, h2]
  refine lc_ev ys (fun y => .one (.dat (.tuple [e1 y, e2 y]))) b v g hz (fun k S _ p => ?_) fun y hy S gS pS => ⟨_, rfl, hs y hy S gS pS⟩
  rw [nw_seq (p.items hx)]
  simp
  rfl
end
theorem ev_is_number {T : Tab} (g : Good T) (i : Int) : f_is_number [.dat (.int i)] T = .ok (.dat (.bool true)) T := by
  refine ev_p g ?_
  exact p_rt (by simp)
theorem ev_is_from {T : Tab} (g : Good T) (i l : Int) : f_is_from [.dat (.int i), .dat (.int l)] T = .ok (.dat (.bool (decide (l ≤ i)))) T := by
  refine ev_p g ?_
  exact p_rt (by simp [ev_is_number g])
theorem ev_is_within {T : Tab} (g : Good T) (i a b : Int) : f_is_within [.dat (.int i), .dat (.int a), .dat (.int b)] T = .ok (.dat (.bool (decide (a ≤ i ∧ i ≤ b)))) T := by
  refine ev_p g ?_
  refine p_rt ?_
  by_cases h : a ≤ i <;> simp [ev_is_number g, h]
theorem ev_is_long {T : Tab} (g : Good T) (xs : List PyData) (n : Int) : f_is_long [.dat (.tuple xs), .dat (.int n)] T = .ok (.dat (.bool (decide ((xs.length : Int) = n)))) T := by
  refine ev_p g ?_
  exact p_rt (by simp)
theorem ev_mark_in {T : Tab} (g : Good T) (K d m n : Int) (hK : 0 < K) (hK2 : K < 1073741824) (hm : 0 < m) : f_mark_in [.dat (.tuple [.int K, .int d, .int m]), .dat (.int n)] T = .ok (.dat (.int (n / K % m))) T := by
  refine ev_p g ?_
  exact p_rt (by simp [hK, hK2, hm])
theorem ev_is_shape {T : Tab} (g : Good T) (K d m : Int) (h1 : 2 ≤ K) (h2 : 1 ≤ d) (h3 : d ≤ K - 1) (h4 : 1 ≤ m) : f_is_shape [.dat (.tuple [.int K, .int d, .int m])] T = .ok (.dat (.bool true)) T :=
by
  refine ev_p g ?_
  exact e_seq (p_ifF (by simp [ev_is_long g, ev_is_from g, ev_is_within g, h1, h2, h3]) (e_skip (p_rt (by simp [ev_is_from g, h4]))))
end Hr
set_option Elab.async false
set_option linter.all false
set_option maxRecDepth 100000
set_option maxHeartbeats 4000000
namespace Hr
open PySem PySem.Spec PyProof.Rows L2
/-! ### records -/
def signs : List Nat := ("abcdefghijklmnopqrstuvwxyz0123456789" : Str).cps.toList
def isWord (s : Str) : Bool := decide (1 ≤ s.length) && (decide (s.length ≤ 12) && s.cps.toList.all fun c => decide (c ∈ signs))
theorem x_len_s {T : Tab} (s : Str) (h : s.length ≤ 1000) : fLen [.dat (.str s)] T = .ok (.dat (.int s.length)) T := by simp [fLen, h]
theorem ev_is_word {T : Tab} (g : Good T) (s : Str) (h : s.length ≤ 1000) : f_is_word [.dat (.str s)] T = .ok (.dat (.bool (isWord s))) T := by
  refine ev_p g ?_
  refine p_rt ?_
  have hl : mLc1 (mStr (mVar 0)) 1 (mC (.bool true)) (m2 fSign (mVar 1) (mC (.str "abcdefghijklmnopqrstuvwxyz0123456789"))) [some (.dat (.str s)), none] T = .ok (.dat (.list ((s.cps.toList.filter fun _ => true).map fun c => .bool (decide (c ∈ signs))))) T := by
    refine p_lc1 (it := .str s) s.cps.toList (fun c => .dat (.str ⟨#[c]⟩)) (fun _ => true) (fun c => .bool (decide (c ∈ signs))) g (by simp [mStr]) rfl ?_ (fun k S _ p => ?_) fun c hc S gS pS => ⟨rfl, fun _ => rfl⟩
    · have : s.cps.toList.length = s.length := rfl
      omega
    · show some ((s.cps[k]?).map fun c => Xt.one (.dat (.str ⟨#[c]⟩))) = _
      rw [← Array.getElem?_toList]
  rw [filt] at hl
  unfold isWord
  by_cases c1 : 1 ≤ s.length
  · by_cases c2 : s.length ≤ 12
    · have c3 : (1 : Int) ≤ s.length := by omega
      have c4 : (s.length : Int) ≤ 12 := by omega
      simp [x_len_s s h, c1, c2, c3, c4, hl, x_allm]
    · have c3 : (1 : Int) ≤ s.length := by omega
      have c4 : ¬ (s.length : Int) ≤ 12 := by omega
      simp [x_len_s s h, c1, c2, c3, c4]
  · have c3 : ¬ (1 : Int) ≤ s.length := by omega
    simp [x_len_s s h, c1, c3]
def Key (k : Str) : Prop := k = "a" ∨ k = "b" ∨ k = "c7" ∨ k = "@a"
def Wd (k : Str) : Prop := k = "x" ∨ k = "yy" ∨ k = "0"
theorem Wd.w {k : Str} (h : Wd k) : isWord k = true ∧ k.length ≤ 1000 := by
  rcases h with rfl | rfl | rfl <;> exact ⟨by decide +kernel, by decide +kernel⟩
theorem x_sls {s r : Str} {l h : Option Int} {T : Tab} (hl : s.length ≤ 1000) (e : cutS s l h = r) : fSl (.dat (.str s)) l h T = .ok (.dat (.str r)) T := by
  unfold fSl
  simp only [hl, if_true, e]
theorem ev_is_key {T : Tab} (g : Good T) {k : Str} (h : Key k) : f_is_key [.dat (.str k)] T = .ok (.dat (.bool true)) T := by
  refine ev_p g ?_
  refine p_rt ?_
  rcases h with rfl | rfl | rfl | rfl
  · simp [ev_is_word g "a" (by decide +kernel), show isWord "a" = true by decide +kernel]
  · simp [ev_is_word g "b" (by decide +kernel), show isWord "b" = true by decide +kernel]
  · simp [ev_is_word g "c7" (by decide +kernel), show isWord "c7" = true by decide +kernel]
  · have e1 : fSl (.dat (.str "@a")) none (some 1) T = .ok (.dat (.str "@")) T := x_sls (by decide +kernel) (show cutS ("@a" : Str) none (some 1) = "@" by decide +kernel)
    have e2 : fSl (.dat (.str "@a")) (some 1) none T = .ok (.dat (.str "a")) T := x_sls (by decide +kernel) (show cutS ("@a" : Str) (some 1) none = "a" by decide +kernel)
    simp [ev_is_word g "@a" (by decide +kernel), show isWord "@a" = false by decide +kernel, mSl, mPart, e1, e2, ev_is_word g "a" (by decide +kernel), show isWord "a" = true by decide +kernel]
/-- the records of the law -/
inductive Note : PyData → Prop
  | blank : Note (.tuple [.str "blank"])
  | drop {k : Str} {l : Int} : Key k → (0 ≤ l) → Note (.tuple [.str "drop", .str k, .int 0, .int l])
  | put {k w : Str} {l : Int} : Key k → Wd w → (0 ≤ l) → Note (.tuple [.str "put", .str k, .str w, .int 0, .int l])
theorem s_bd : (("drop" : Str) = "blank") = False := by simp; decide +kernel
theorem s_bp : (("put" : Str) = "blank") = False := by simp; decide +kernel
theorem s_dp : (("drop" : Str) = "put") = False := by simp; decide +kernel
theorem s_pd : (("put" : Str) = "drop") = False := by simp; decide +kernel
theorem x_sl {xs ys : List PyData} {l h : Option Int} {T : Tab} (e : cutG xs l h = ys) : fSl (.dat (.tuple xs)) l h T = .ok (.dat (.tuple ys)) T := by
  unfold fSl
  simp only [e]
theorem x_ixn {xs : List PyData} {i : Int} {d : PyData} {T : Tab} (e : atI (xs.map Vd.dat) i = some (.dat d)) : fIx (.dat (.tuple xs)) (.dat (.int i)) T = .ok (.dat d) T := by
  unfold fIx itemsOf
  simp only [e]
theorem ev_single_drop {T : Tab} (g : Good T) {k : Str} (h : Key k) : f_is_single [.dat (.tuple [.str "drop", .str k])] T = .ok (.dat (.bool true)) T := by
  refine ev_p g ?_
  exact e_seq (p_ifF (by simp [ev_is_key g h]) (e_skip (p_rt (by simp))))
theorem ev_single_put {T : Tab} (g : Good T) {k w : Str} (h : Key k) (hw : Wd w) : f_is_single [.dat (.tuple [.str "put", .str k, .str w])] T = .ok (.dat (.bool true)) T := by
  refine ev_p g ?_
  exact e_seq (p_ifF (by simp [ev_is_key g h]) (e_skip (p_rt (by simp [s_pd, ev_is_word g w hw.w.2, hw.w.1]))))
theorem ev_is_record {T : Tab} (g : Good T) {r : PyData} (h : Note r) : f_is_record [.dat r] T = .ok (.dat (.bool true)) T := by
  refine ev_p g ?_
  cases h with
  | blank => exact e_seq (p_ifF (by simp) (e_skip (e_seq (p_ifT (by simp) (q_rt (by simp) ⟨rfl, Pre.refl _⟩)))))
  | @drop k l hk hl =>
    have e1 : fSl (.dat (.tuple [.str "drop", .str k, .int 0, .int l])) none (some (-2)) T = .ok (.dat (.tuple [.str "drop", .str k])) T := x_sl rfl
    have e2 : fIx (.dat (.tuple [.str "drop", .str k, .int 0, .int l])) (.dat (.int (-2))) T = .ok (.dat (.int 0)) T := x_ixn rfl
    have e3 : fIx (.dat (.tuple [.str "drop", .str k, .int 0, .int l])) (.dat (.int (-1))) T = .ok (.dat (.int l)) T := x_ixn rfl
    exact e_seq (p_ifF (by simp) (e_skip (e_seq (p_ifF (by simp [s_bd]) (e_skip (p_rt (by simp [mSl, mPart, e1, e2, e3, ev_single_drop g hk, ev_is_from g, hl])))))))
  | @put k w l hk hw hl =>
    have e1 : fSl (.dat (.tuple [.str "put", .str k, .str w, .int 0, .int l])) none (some (-2)) T = .ok (.dat (.tuple [.str "put", .str k, .str w])) T := x_sl rfl
    have e2 : fIx (.dat (.tuple [.str "put", .str k, .str w, .int 0, .int l])) (.dat (.int (-2))) T = .ok (.dat (.int 0)) T := x_ixn rfl
    have e3 : fIx (.dat (.tuple [.str "put", .str k, .str w, .int 0, .int l])) (.dat (.int (-1))) T = .ok (.dat (.int l)) T := x_ixn rfl
    exact e_seq (p_ifF (by simp) (e_skip (e_seq (p_ifF (by simp [s_bp]) (e_skip (p_rt (by simp [mSl, mPart, e1, e2, e3, ev_single_put g hk hw, ev_is_from g, hl])))))))
end Hr
set_option Elab.async false
set_option linter.all false
set_option maxRecDepth 100000
set_option maxHeartbeats 4000000
namespace Hr
open PySem PySem.Spec PyProof.Rows L2
/-! ### data of tuples; lists for tuples; sameness -/
def Tp : Nat → PyData → Prop
  | 0, _ => False
  | n + 1, .tuple xs => xs.length ≤ 100 ∧ ∀ y ∈ xs, Tp n y
  | _ + 1, .int _ => True
  | _ + 1, .str _ => True
  | _ + 1, _ => False
def Tq : Nat → PyData → Prop
  | 0, _ => False
  | n + 1, .tuple xs => xs.length ≤ 100 ∧ ∀ y ∈ xs, Tq n y
  | n + 1, .list xs => xs.length ≤ 100 ∧ ∀ y ∈ xs, Tq n y
  | _ + 1, .int _ => True
  | _ + 1, .str _ => True
  | _ + 1, _ => False
def lst : Nat → PyData → PyData
  | n + 1, .tuple xs => .list (xs.map (lst n))
  | _, x => x
theorem Tp.q : ∀ {n : Nat} {x : PyData}, Tp n x → Tq n x
  | 0, _, h => h.elim
  | n + 1, .tuple xs, h => ⟨h.1, fun y hy => Tp.q (h.2 y hy)⟩
  | n + 1, .int i, h => trivial
  | n + 1, .str s, h => trivial
  | n + 1, .none, h => h.elim
  | n + 1, .bool b, h => h.elim
  | n + 1, .list b, h => h.elim
  | n + 1, .dict b, h => h.elim
theorem Tp.up : ∀ {n : Nat} {x : PyData}, Tp n x → Tp (n + 1) x
  | 0, _, h => h.elim
  | n + 1, .tuple xs, h => ⟨h.1, fun y hy => Tp.up (h.2 y hy)⟩
  | n + 1, .int i, h => trivial
  | n + 1, .str s, h => trivial
  | n + 1, .none, h => h.elim
  | n + 1, .bool b, h => h.elim
  | n + 1, .list b, h => h.elim
  | n + 1, .dict b, h => h.elim
theorem zip_map2 {α β γ : Type} (l : List α) (f : α → β) (g : α → γ) : (l.map f).zip (l.map g) = l.map fun a => (f a, g a) := by
  induction l with
  | nil => rfl
  | cons a l ih => simp [ih]
section
variable {α : Type} {ρ : Rho} {T : Tab} {m : ME} {ms : MA} {mi : MI} {tt el : ME} {i j : Nat}
theorem p_lc2z (hij : i ≠ j) (ys : List α) (e1 e2 : α → Vd) (b : α → Bool) (v : α → PyData) (g : Good T) {x y : Vd} (hm : ms ρ T = .ok [x, y] T) (hx : itemsOf x T = some (ys.map e1)) (hy : itemsOf y T = some (ys.map e2)) (hz : ys.length ≤ 100000)
    (hs : ∀ y ∈ ys, ∀ S, Good S → Pre T S → tt ((((ρ.set j none).set i none).set i (some (e1 y))).set j (some (e2 y))) S = .ok (.dat (.bool (b y))) S ∧ (b y = true → el ((((ρ.set j none).set i none).set i (some (e1 y))).set j (some (e2 y))) S = .ok (.dat (v y)) S)) :
    mLc2 (mZip ms) i j tt el ρ T = .ok (.dat (.list ((ys.filter b).map v))) T := by
  refine p_lc2 hij (it := .zp x y) ys e1 e2 b v g (by simp [mZip, hm, hasItems, hx, hy]) (by rw [fu_zp hx hy, zip_map2]; simp) hz (fun k S hk p => ?_) hs
  rw [nw_zp (p.items hx) (p.items hy) (by rw [zip_map2]; simpa using hk), zip_map2]
  simp
  rfl
theorem p_lc2e (hij : i ≠ j) (ys : List α) (e : α → Vd) (b : α × Nat → Bool) (v : α × Nat → PyData) (g : Good T) {x : Vd} (hm : ms ρ T = .ok [x] T) (hx : itemsOf x T = some (ys.map e)) (hz : ys.length ≤ 100000)
    (hs : ∀ y ∈ ys.zipIdx, ∀ S, Good S → Pre T S → tt ((((ρ.set j none).set i none).set i (some (.dat (.int (y.2 : Nat))))).set j (some (e y.1))) S = .ok (.dat (.bool (b y))) S ∧
      (b y = true → el ((((ρ.set j none).set i none).set i (some (.dat (.int (y.2 : Nat))))).set j (some (e y.1))) S = .ok (.dat (v y)) S)) :
    mLc2 (mEnum ms) i j tt el ρ T = .ok (.dat (.list ((ys.zipIdx.filter b).map v))) T := by
  refine p_lc2 hij (it := .en x) ys.zipIdx (fun y => .dat (.int (y.2 : Nat))) (fun y => e y.1) b v g (by simp [mEnum, hm, hasItems, hx]) (by rw [fu_en hx]; simp) (by simpa using hz) (fun k S hk p => ?_) hs
  rw [nw_en (p.items hx) (by simpa using hk), List.zipIdx_map]
  simp
  rfl
end
theorem ev_lists : ∀ (n : Nat) (T : Tab) (g : Good T) (x : PyData), Tp n x → f_law_lists n [.dat x] T = .ok (.dat (lst n x)) T
  | 0, _, _, _, h => h.elim
  | n + 1, T, g, .tuple xs, h => by
    unfold f_law_lists
    refine ev_p g ?_
    refine p_rt ?_
    have e := p_lc1s (ρ := [some (.dat (.tuple xs)), none]) (T := T) (m := mVar 0) (tt := mC (.bool true)) (el := mN (fCall 1 (f_law_lists n)) (mCons (mVar 1) mNil)) (i := 1) xs Vd.dat (fun _ => true) (lst n) g (x := .dat (.tuple xs)) rfl rfl (by have := h.1; omega)
      fun y hy S gS _ => ⟨rfl, fun _ => by simpa using ev_lists n S gS y (h.2 y hy)⟩
    rw [filt] at e
    simp [e, lst]
  | n + 1, T, g, .int i, h => by
    unfold f_law_lists
    refine ev_p g ?_
    exact p_rt (by simp [lst])
  | n + 1, T, g, .str i, h => by
    unfold f_law_lists
    refine ev_p g ?_
    exact p_rt (by simp [lst])
  | n + 1, _, _, .none, h => h.elim
  | n + 1, _, _, .bool b, h => h.elim
  | n + 1, _, _, .list b, h => h.elim
  | n + 1, _, _, .dict b, h => h.elim
theorem ev_tupled : ∀ (n : Nat) (T : Tab) (g : Good T) (x : PyData), Tp n x → f_tupled n [.dat x] T = .ok (.dat x) T
  | 0, _, _, _, h => h.elim
  | n + 1, T, g, .tuple xs, h => by
    unfold f_tupled
    refine ev_p g ?_
    refine p_rt ?_
    have e := p_lc1s (ρ := [some (.dat (.tuple xs)), none]) (T := T) (m := mVar 0) (tt := mC (.bool true)) (el := mN (fCall 1 (f_tupled n)) (mCons (mVar 1) mNil)) (i := 1) xs Vd.dat (fun _ => true) id g (x := .dat (.tuple xs)) rfl rfl (by have := h.1; omega)
      fun y hy S gS _ => ⟨rfl, fun _ => by simpa using ev_tupled n S gS y (h.2 y hy)⟩
    rw [filt, List.map_id] at e
    simp [e]
  | n + 1, T, g, .int i, h => by
    unfold f_tupled
    refine ev_p g ?_
    exact p_rt (by simp)
  | n + 1, T, g, .str i, h => by
    unfold f_tupled
    refine ev_p g ?_
    exact p_rt (by simp)
  | n + 1, _, _, .none, h => h.elim
  | n + 1, _, _, .bool b, h => h.elim
  | n + 1, _, _, .list b, h => h.elim
  | n + 1, _, _, .dict b, h => h.elim
theorem ev_tupled_l : ∀ (n : Nat) (T : Tab) (g : Good T) (x : PyData), Tp n x → f_tupled n [.dat (lst n x)] T = .ok (.dat x) T
  | 0, _, _, _, h => h.elim
  | n + 1, T, g, .tuple xs, h => by
    unfold f_tupled
    refine ev_p g ?_
    refine p_rt ?_
    have e := p_lc1s (ρ := [some (.dat (.list (xs.map (lst n)))), none]) (T := T) (m := mVar 0) (tt := mC (.bool true)) (el := mN (fCall 1 (f_tupled n)) (mCons (mVar 1) mNil)) (i := 1) xs (fun y => Vd.dat (lst n y)) (fun _ => true) id g (x := .dat (.list (xs.map (lst n)))) rfl
      (by show some ((xs.map (lst n)).map Vd.dat) = _; rw [List.map_map]; rfl) (by have := h.1; omega)
      fun y hy S gS _ => ⟨rfl, fun _ => by simpa using ev_tupled_l n S gS y (h.2 y hy)⟩
    rw [filt, List.map_id] at e
    simp [e, lst]
  | n + 1, T, g, .int i, h => ev_tupled (n + 1) T g (.int i) trivial
  | n + 1, T, g, .str i, h => ev_tupled (n + 1) T g (.str i) trivial
  | n + 1, _, _, .none, h => h.elim
  | n + 1, _, _, .bool b, h => h.elim
  | n + 1, _, _, .list b, h => h.elim
  | n + 1, _, _, .dict b, h => h.elim
theorem same_row {T : Tab} {n : Nat} (g : Good T) (xs : List PyData) (x : Vd) (hx : itemsOf x T = some (xs.map Vd.dat)) (hl : xs.length ≤ 100) (ih : ∀ y ∈ xs, ∀ S, Good S → f_law_same n [.dat y, .dat y] S = .ok (.dat (.bool true)) S) :
    mLc2 (mZip (mCons (mVar 0) (mCons (mVar 1) mNil))) 2 3 (mC (.bool true)) (mN (fCall 2 (f_law_same n)) (mCons (mVar 2) (mCons (mVar 3) mNil))) [some x, some x, none, none] T = .ok (.dat (.list (xs.map fun _ => .bool true))) T := by
  have e := p_lc2z (ρ := [some x, some x, none, none]) (T := T) (ms := mCons (mVar 0) (mCons (mVar 1) mNil)) (tt := mC (.bool true)) (el := mN (fCall 2 (f_law_same n)) (mCons (mVar 2) (mCons (mVar 3) mNil))) (i := 2) (j := 3) (by decide) xs Vd.dat Vd.dat (fun _ => true) (fun _ => .bool true) g (x := x) (y := x)
    rfl hx hx (by omega) fun y hy S gS _ => ⟨rfl, fun _ => by simpa using ih y hy S gS⟩
  rwa [filt] at e
theorem all_true {α : Type} (l : List α) : (l.all fun _ => true) = true := by simp
theorem ev_same : ∀ (n : Nat) (T : Tab) (g : Good T) (x : PyData), Tq n x → f_law_same n [.dat x, .dat x] T = .ok (.dat (.bool true)) T
  | 0, _, _, _, h => h.elim
  | n + 1, T, g, .tuple xs, h => by
    unfold f_law_same
    refine ev_p g ?_
    have e := same_row g xs (.dat (.tuple xs)) rfl h.1 fun y hy S gS => ev_same n S gS y (h.2 y hy)
    exact e_seq (p_ifT (by simp) (e_seq (p_ifF (by simp) (e_skip (q_rt (d := .dat (.bool true)) (by simp [e, x_allm (fun _ => true)]) ⟨rfl, Pre.refl _⟩)))))
  | n + 1, T, g, .list xs, h => by
    unfold f_law_same
    refine ev_p g ?_
    have e := same_row g xs (.dat (.list xs)) rfl h.1 fun y hy S gS => ev_same n S gS y (h.2 y hy)
    exact e_seq (p_ifT (by simp) (e_seq (p_ifF (by simp) (e_skip (q_rt (d := .dat (.bool true)) (by simp [e, x_allm (fun _ => true)]) ⟨rfl, Pre.refl _⟩)))))
  | n + 1, T, g, .int i, h => by
    unfold f_law_same
    refine ev_p g ?_
    exact e_seq (p_ifF (by simp) (e_skip (e_seq (p_ifF (by simp) (e_skip (p_rt (by simp)))))))
  | n + 1, T, g, .str i, h => by
    unfold f_law_same
    refine ev_p g ?_
    exact e_seq (p_ifF (by simp) (e_skip (e_seq (p_ifT (by simp) (q_rt (d := .dat (.bool true)) (by simp) ⟨rfl, Pre.refl _⟩)))))
  | n + 1, _, _, .none, h => h.elim
  | n + 1, _, _, .bool b, h => h.elim
  | n + 1, _, _, .dict b, h => h.elim
end Hr
set_option Elab.async false
set_option linter.all false
set_option maxRecDepth 100000
set_option maxHeartbeats 4000000
namespace Hr
open PySem PySem.Spec PyProof.Rows L2
/-! ### rings of cells -/
abbrev Cell := Option (Int × PyData)
def enc : Cell → PyData
  | none => .tuple [.str "torn"]
  | some (l, r) => .tuple [.int l, r]
def encF (f : List Cell) : List PyData := f.map enc
abbrev fmD (K d m : Int) : PyData := .tuple [.int K, .int d, .int m]
structure Sh (K d m : Int) : Prop where
  k1 : 3 ≤ K
  k2 : K ≤ 7
  d1 : 1 ≤ d
  d2 : d < K
  m1 : 2 ≤ m
  m2 : m ≤ 3
  safe : 3 * d < m * K
def shows (K m : Int) (f : List Cell) (n : Int) : Bool := match f[(n % K).toNat]? with
  | some (some (l, _)) => decide (l = n / K % m)
  | _ => false
section
variable {T : Tab}
@[simp] theorem x_tup (ds : List Vd) : fTup ds T = match dats ds with
  | some xs => if xs.length ≤ 1000 then .ok (.dat (.tuple xs)) T else .bad
  | none => .bad := rfl
@[simp] theorem x_lst (ds : List Vd) : fLst ds T = match dats ds with
  | some xs => if xs.length ≤ 1000 then .ok (.dat (.list xs)) T else .bad
  | none => .bad := rfl
@[simp] theorem x_eqv_tn (l : Int) (r : PyData) (x : Str) : PyData.eqv (.tuple [.int l, r]) (.tuple [.str x]) = false := rfl
@[simp] theorem x_eqv_tt (x y : Str) : PyData.eqv (.tuple [.str x]) (.tuple [.str y]) = decide (x = y) := by
  show (PyData.eqv (.str x) (.str y) && true) = _
  rw [x_eqv_s, Bool.and_true]
theorem cMul_l {i j : Int} (h : -(2 ^ 64) < i ∧ i < 2 ^ 64) : cMul i j = true := by simp [cMul]; omega
theorem cMul_r {i j : Int} (h : -(2 ^ 64) < j ∧ j < 2 ^ 64) : cMul i j = true := by simp [cMul]; omega
end
theorem enc_get {f : List Cell} {i : Nat} {c : Cell} (h : f[i]? = some c) : ((encF f).map Vd.dat)[i]? = some (.dat (enc c)) := by
  unfold encF
  rw [List.getElem?_map, List.getElem?_map, h]
  rfl
theorem mod_ix {K n : Int} {α : Type} {f : List α} (hK : 0 < K) (hf : (f.length : Int) = K) : 0 ≤ n % K ∧ ∃ c, f[(n % K).toNat]? = some c := by
  have h1 := Int.emod_nonneg n (by omega : K ≠ 0)
  have h2 := Int.emod_lt_of_pos n hK
  exact ⟨h1, _, List.getElem?_eq_getElem (by omega)⟩
theorem ev_lap {T : Tab} (g : Good T) {K d m : Int} (s : Sh K d m) (n : Int) : f_law_lap [.dat (fmD K d m), .dat (.int n)] T = .ok (.dat (.int (n / K % m))) T := by
  have hK : 0 < K := by have := s.k1; omega
  have hK2 : K < 1073741824 := by have := s.k2; omega
  have hm : 0 < m := by have := s.m1; omega
  refine ev_p g ?_
  exact p_rt (by simp [hK, hK2, hm])
theorem ev_mark {T : Tab} (g : Good T) {K d m : Int} (s : Sh K d m) (n : Int) : f_mark_in [.dat (fmD K d m), .dat (.int n)] T = .ok (.dat (.int (n / K % m))) T :=
  ev_mark_in g K d m n (by have := s.k1; omega) (by have := s.k2; omega) (by have := s.m1; omega)
theorem ev_shows {T : Tab} (g : Good T) {K d m : Int} (s : Sh K d m) {f : List Cell} (hf : (f.length : Int) = K) {x : Vd} (hx : itemsOf x T = some ((encF f).map Vd.dat)) (n : Int) :
    f_law_shows [.dat (fmD K d m), x, .dat (.int n)] T = .ok (.dat (.bool (shows K m f n))) T := by
  have hK : 0 < K := by have := s.k1; omega
  obtain ⟨h0, c, hc⟩ := mod_ix (n := n) hK hf
  have e := x_ix (T := T) hx h0 (enc_get hc)
  refine ev_p g ?_
  refine e_seq (p_set (d := .dat (enc c)) (by simp [hK, e]) ?_)
  unfold shows
  rw [hc]
  cases c with
  | none => exact p_rt (by simp [enc])
  | some q => exact p_rt (by simp [enc, ev_lap g s])
theorem ev_shows_in {T : Tab} (g : Good T) {K d m : Int} (s : Sh K d m) {f : List Cell} (hf : (f.length : Int) = K) (n : Int) :
    f_shows_in [.dat (fmD K d m), .dat (.tuple (encF f)), .dat (.int n)] T = .ok (.dat (.bool (shows K m f n))) T := by
  have hK : 0 < K := by have := s.k1; omega
  obtain ⟨h0, c, hc⟩ := mod_ix (n := n) hK hf
  have e := x_ix (T := T) (x := .dat (.tuple (encF f))) rfl h0 (enc_get hc)
  refine ev_p g ?_
  refine e_seq (p_set (d := .dat (enc c)) (by simp [hK, e]) ?_)
  unfold shows
  rw [hc]
  cases c with
  | none => exact p_rt (by simp [enc])
  | some q => exact p_rt (by simp [enc, ev_mark g s])
/-! pictures -/
def CellOk (m : Int) : Cell → Prop
  | none => True
  | some (l, r) => 0 ≤ l ∧ l < m ∧ Note r
structure FaceOk (K m : Int) (f : List Cell) : Prop where
  len : (f.length : Int) = K
  ok : ∀ c ∈ f, CellOk m c
theorem ev_told {T : Tab} (g : Good T) {m : Int} {c : Cell} (h : CellOk m c) : f_is_told_cell [.dat (enc c)] T = .ok (.dat (.bool true)) T := by
  refine ev_p g ?_
  cases c with
  | none => exact p_rt (by simp [enc])
  | some q =>
    obtain ⟨h1, h2, h3⟩ := h
    exact p_rt (by simp [enc, ev_is_long g, ev_is_from g, h1, ev_is_record g h3])
theorem ev_cell_in {T : Tab} (g : Good T) {K d m : Int} {c : Cell} (h : CellOk m c) : f_is_cell_in [.dat (fmD K d m), .dat (enc c)] T = .ok (.dat (.bool true)) T := by
  have e := ev_told g h
  refine ev_p g ?_
  cases c with
  | none => exact p_rt (by simp [e]; simp [enc])
  | some q =>
    obtain ⟨h1, h2, h3⟩ := h
    exact p_rt (by simp [e]; simp [enc, h2])
theorem ev_picture_in {T : Tab} (g : Good T) {K d m : Int} (s : Sh K d m) {f : List Cell} (F : FaceOk K m f) : f_is_picture_in [.dat (fmD K d m), .dat (.tuple (encF f))] T = .ok (.dat (.bool true)) T := by
  refine ev_p g ?_
  refine p_rt ?_
  have hl : ((encF f).length : Int) = K := by simp [encF, F.len]
  have e := p_lc1s (ρ := [some (.dat (fmD K d m)), some (.dat (.tuple (encF f))), none]) (T := T) (m := mVar 1) (tt := mC (.bool true)) (el := mN (fCall 2 f_is_cell_in) (mCons (mVar 0) (mCons (mVar 2) mNil))) (i := 2) f (fun c => Vd.dat (enc c)) (fun _ => true) (fun _ => .bool true) g
    (x := .dat (.tuple (encF f))) rfl (by show some ((f.map enc).map Vd.dat) = _; rw [List.map_map]; rfl) (by have := F.len; have := s.k2; omega) fun c hc S gS _ => ⟨rfl, fun _ => by simpa using ev_cell_in gS (F.ok c hc)⟩
  rw [filt] at e
  simp [ev_is_long g, hl, e, x_allm (fun _ => true)]
/-- tuples all through -/
theorem tp3_all {xs : List PyData} (h : xs.length ≤ 100) (a : ∀ y ∈ xs, (∃ z, y = .str z) ∨ ∃ z, y = .int z) : Tp 3 (.tuple xs) := ⟨h, fun y hy => by
  rcases a y hy with ⟨z, rfl⟩ | ⟨z, rfl⟩ <;> trivial⟩
theorem note_tp {r : PyData} (h : Note r) : Tp 3 r := by
  cases h with
  | blank =>
    exact tp3_all (by simp) fun y hy => by
      simp at hy
      exact .inl ⟨_, hy⟩
  | drop h l =>
    exact tp3_all (by simp) fun y hy => by
      simp at hy
      rcases hy with rfl | rfl | rfl | rfl
      · exact .inl ⟨_, rfl⟩
      · exact .inl ⟨_, rfl⟩
      · exact .inr ⟨_, rfl⟩
      · exact .inr ⟨_, rfl⟩
  | put h w l =>
    exact tp3_all (by simp) fun y hy => by
      simp at hy
      rcases hy with rfl | rfl | rfl | rfl | rfl
      · exact .inl ⟨_, rfl⟩
      · exact .inl ⟨_, rfl⟩
      · exact .inl ⟨_, rfl⟩
      · exact .inr ⟨_, rfl⟩
      · exact .inr ⟨_, rfl⟩
theorem cell_tp {m : Int} {c : Cell} (h : CellOk m c) : Tp 4 (enc c) := by
  cases c with
  | none =>
    exact ⟨by simp, fun y hy => by
      simp at hy
      subst hy
      trivial⟩
  | some q =>
    exact ⟨by simp, fun y hy => by
      simp at hy
      rcases hy with rfl | rfl
      · trivial
      · exact note_tp h.2.2⟩
theorem face_tp {K m : Int} {f : List Cell} (h : FaceOk K m f) (hK : K ≤ 7) : Tp 5 (.tuple (encF f)) := ⟨by
  have := h.len
  simp [encF]
  omega, fun y hy => by
  obtain ⟨c, hc, rfl⟩ := List.mem_map.mp hy
  exact cell_tp (h.ok c hc)⟩
theorem form_tp (K d m : Int) : Tp 2 (fmD K d m) := ⟨by simp, fun y hy => by
  simp at hy
  rcases hy with rfl | rfl | rfl <;> trivial⟩
theorem Tp.up3 {n : Nat} {x : PyData} (h : Tp n x) : Tp (n + 3) x := h.up.up.up
/-- what a shape, a picture may come as: itself, or with lists for tuples -/
def As (x y : PyData) : Prop := y = x ∨ y = lst 8 x
theorem as_tupled {T : Tab} (g : Good T) {x y : PyData} (h : As x y) (t : Tp 8 x) : f_tupled 8 [.dat y] T = .ok (.dat x) T := by
  rcases h with rfl | rfl
  · exact ev_tupled 8 T g _ t
  · exact ev_tupled_l 8 T g _ t
theorem ev_sure_shape {T : Tab} (g : Good T) {K d m : Int} (s : Sh K d m) {y : PyData} (h : As (fmD K d m) y) : f_sure_shape [.dat y] T = .ok (.dat (fmD K d m)) T := by
  refine ev_p g ?_
  have e := as_tupled g h (form_tp K d m).up3.up3
  have e2 := ev_is_shape g K d m (by have := s.k1; omega) s.d1 (by have := s.d2; omega) (by have := s.m1; omega)
  exact e_seq (p_set (d := .dat (fmD K d m)) (by simp [e]) (e_seq (p_ifF (by simp [e2]) (e_skip (p_rt (by simp))))))
theorem ev_sure_picture {T : Tab} (g : Good T) {K d m : Int} (s : Sh K d m) {f : List Cell} (F : FaceOk K m f) {y : PyData} (h : As (.tuple (encF f)) y) : f_sure_picture [.dat (fmD K d m), .dat y] T = .ok (.dat (.tuple (encF f))) T := by
  refine ev_p g ?_
  have e := as_tupled g h (face_tp F s.k2).up3
  have e2 := ev_picture_in g s F
  exact e_seq (p_set (d := .dat (.tuple (encF f))) (by simp [e]) (e_seq (p_ifF (by simp [e2]) (e_skip (p_rt (by simp))))))
theorem ev_sure_both {T : Tab} (g : Good T) {K d m : Int} (s : Sh K d m) {f : List Cell} (F : FaceOk K m f) {x y : PyData} (hx : As (fmD K d m) x) (hy : As (.tuple (encF f)) y) :
    f_sure_both [.dat x, .dat y] T = .ok (.dat (.tuple [fmD K d m, .tuple (encF f)])) T := by
  refine ev_p g ?_
  have e := ev_sure_shape g s hx
  have e2 := ev_sure_picture g s F hy
  exact e_seq (p_set (d := .dat (fmD K d m)) (by simp [e]) (p_rt (by simp [e2])))
end Hr
set_option Elab.async false
set_option linter.all false
set_option maxRecDepth 100000
set_option maxHeartbeats 4000000
namespace Hr
open PySem PySem.Spec PyProof.Rows L2
/-! ### whole places -/
/-- the window behind p is shown -/
def Whole (K d m : Int) (f : List Cell) (p : Int) : Prop := ∀ j : Int, 1 ≤ j → j ≤ K - d → shows K m f (p - j) = true
def wholeB (K d m : Int) (f : List Cell) (p : Int) : Bool := (List.range (K - d).toNat).all fun j => shows K m f (p - (1 + (j : Nat)))
theorem wholeB_iff {K d m : Int} {f : List Cell} {p : Int} : wholeB K d m f p = true ↔ Whole K d m f p := by
  unfold wholeB Whole
  rw [List.all_eq_true]
  constructor
  · intro h j h1 h2
    have := h (j - 1).toNat (List.mem_range.mpr (by omega))
    rwa [show (1 + ((j - 1).toNat : Nat) : Int) = j by omega] at this
  · intro h j hj
    rw [List.mem_range] at hj
    exact h _ (by omega) (by omega)
def wholes (K d m : Int) (f : List Cell) : List Int := ((List.range (K * m).toNat).map fun j => (0 : Int) + (j : Nat)).filter (wholeB K d m f)
/-- r signs of the run behind p -/
def RunIs (K d m : Int) (f : List Cell) (p r : Int) : Prop := 0 ≤ r ∧ (∀ j : Int, 1 ≤ j → j ≤ r → shows K m f (p - j) = true) ∧ (r < K - d → shows K m f (p - (r + 1)) = false)
theorem RunIs.whole {K d m : Int} {f : List Cell} {p r : Int} (h : RunIs K d m f p r) : wholeB K d m f p = decide (K - d ≤ r) := by
  obtain ⟨h0, h1, h2⟩ := h
  by_cases c : K - d ≤ r
  · rw [decide_eq_true c]
    exact wholeB_iff.mpr fun j a b => h1 j a (by omega)
  · rw [decide_eq_false c]
    cases e : wholeB K d m f p with
    | false => rfl
    | true =>
      have := wholeB_iff.mp e (r + 1) (by omega) (by omega)
      rw [h2 (by omega)] at this
      cases this
theorem RunIs.next {K d m : Int} {f : List Cell} {p r : Int} (h : RunIs K d m f p r) : RunIs K d m f (p + 1) (if shows K m f p = true then r + 1 else 0) := by
  obtain ⟨h0, h1, h2⟩ := h
  by_cases c : shows K m f p = true
  · rw [if_pos c]
    refine ⟨by omega, fun j a b => ?_, fun q => ?_⟩
    · by_cases e : j = 1
      · subst e
        rwa [show p + 1 - 1 = p by omega]
      · have := h1 (j - 1) (by omega) (by omega)
        rwa [show p - (j - 1) = p + 1 - j by omega] at this
    · have := h2 (by omega)
      rwa [show p - (r + 1) = p + 1 - (r + 1 + 1) by omega] at this
  · rw [if_neg c]
    refine ⟨by omega, fun j a b => by omega, fun q => ?_⟩
    rw [show p + 1 - (0 + 1) = p by omega]
    exact Bool.eq_false_iff.mpr c
theorem ev_run_in {T : Tab} (g : Good T) {K d m : Int} (s : Sh K d m) {f : List Cell} (hf : (f.length : Int) = K) (p : Int) :
    ∃ r, f_run_in [.dat (fmD K d m), .dat (.tuple (encF f)), .dat (.int p)] T = .ok (.dat (.int r)) T ∧ RunIs K d m f p r := by
  have hk := s.k2
  have hd := s.d1
  have main : Ev (m_run_in [some (.dat (fmD K d m)), some (.dat (.tuple (encF f))), some (.dat (.int p)), none] T) fun fl T' => ∃ r, fl = .rt (.dat (.int r)) ∧ T' = T ∧ RunIs K d m f p r := by
    refine e_seq (p_set (d := .dat (.int 0)) (by simp) ?_)
    refine e_seq ?_
    have go : ∀ (n : Nat) (r : Int), 0 ≤ r → r + n = K → (∀ j : Int, 1 ≤ j → j ≤ r → shows K m f (p - j) = true) → ∀ k, n < k →
        Ev (wloop (mAnd (m2 fLt (mVar 3) (m2 fIx (mVar 0) (mC (.int 0)))) (mN (fCall 3 f_shows_in) (mCons (mVar 0) (mCons (mVar 1) (mCons (m2 fSub (m2 fSub (mVar 2) (mVar 3)) (mC (.int 1))) (mNil)))))) (sAsg (m2 fAdd (mVar 3) (mC (.int 1))) (gNm 3)) k
          [some (.dat (fmD K d m)), some (.dat (.tuple (encF f))), some (.dat (.int p)), some (.dat (.int r))] T) (flK (fun fl T' => ∃ r, fl = .rt (.dat (.int r)) ∧ T' = T ∧ RunIs K d m f p r) (sRet (mVar 3))) := by
      intro n
      induction n with
      | zero =>
        intro r h0 hr hs k hk2
        cases k with
        | zero => omega
        | succ k =>
          have e : ¬ r < K := by omega
          unfold wloop
          simp only [x_and, x_m2, x_var, List.getElem?_cons_succ, List.getElem?_cons_zero, bd_ok, x_C, x_ix0, x_I, x_cTrue, if_true, e, decide_false]
          exact ⟨_, _, rfl, e_ret (by simp) ⟨r, rfl, rfl, h0, hs, fun q => by omega⟩⟩
      | succ n ih =>
        intro r h0 hr hs k hk2
        cases k with
        | zero => omega
        | succ k =>
          have e : r < K := by omega
          unfold wloop
          have es := ev_shows_in g s hf (p - r - 1)
          cases c : shows K m f (p - r - 1) with
          | true =>
            simp only [x_and, x_m2, x_var, List.getElem?_cons_succ, List.getElem?_cons_zero, bd_ok, x_C, x_ix0, x_I, x_cTrue, if_true, e, decide_true, x_N, x_cons, x_nil, x_call3, es, c]
            refine Ev.bd (p_set (d := .dat (.int (r + 1))) (by simp) ?_)
            refine ih (r + 1) (by omega) (by omega) (fun j a b => ?_) k (by omega)
            by_cases q : j = r + 1
            · subst q
              rwa [show p - (r + 1) = p - r - 1 by omega]
            · exact hs j a (by omega)
          | false =>
            simp only [x_and, x_m2, x_var, List.getElem?_cons_succ, List.getElem?_cons_zero, bd_ok, x_C, x_ix0, x_I, x_cTrue, if_true, e, decide_true, x_N, x_cons, x_nil, x_call3, es, c]
            exact ⟨_, _, rfl, e_ret (by simp) ⟨r, rfl, rfl, h0, hs, fun q => by rwa [show p - (r + 1) = p - r - 1 by omega]⟩⟩
    exact go K.toNat 0 (by omega) (by omega) (fun j a b => by omega) 100 (by omega)
  obtain ⟨fl, T', e, r, rfl, rfl, R⟩ := main
  exact ⟨r, ev_p g ⟨_, _, e, rfl, Pre.refl _⟩, R⟩
section
variable {ρ : Rho} {T T' : Tab} {ms : MA}
theorem x_rng1 {n : Int} (hm : ms ρ T = .ok [.dat (.int n)] T') (h : -(2 ^ 62) ≤ n ∧ n < 2 ^ 62) : mRng1 ms ρ T = .ok (.rng 0 n.toNat) T' := by
  unfold mRng1
  rw [hm, bd_ok]
  have : okR n = true := by simp [okR]; omega
  simp only [this, if_true]
theorem x_rng2 {a b : Int} (hm : ms ρ T = .ok [.dat (.int a), .dat (.int b)] T') (h : -(2 ^ 62) ≤ a ∧ a < 2 ^ 62) (h2 : -(2 ^ 62) ≤ b ∧ b < 2 ^ 62) : mRng2 ms ρ T = .ok (.rng a (b - a).toNat) T' := by
  unfold mRng2
  rw [hm, bd_ok]
  have h3 : okR a = true := by simp [okR]; omega
  have h4 : okR b = true := by simp [okR]; omega
  simp only [h3, h4, Bool.and_self, if_true]
end
theorem get_sn (T : Tab) (o : Option (List Vd)) : (T ++ [o])[T.length]? = some o := by simp
theorem set_sn (T : Tab) (o o' : Option (List Vd)) : (T ++ [o]).set T.length o' = T ++ [o'] := by simp
theorem take_next {α : Type} {l : List α} {i : Nat} {y : α} (h : l[i]? = some y) : l.take (i + 1) = l.take i ++ [y] := by rw [List.take_succ, h]; rfl
/-- the numbers below n -/
def nums (n : Nat) : List Int := (List.range n).map fun j => (0 : Int) + (j : Nat)
theorem nums_get {n i : Nat} {y : Int} (h : (nums n)[i]? = some y) : y = i ∧ i < n := by
  unfold nums at h
  rw [List.getElem?_map] at h
  cases q : (List.range n)[i]? with
  | none => rw [q] at h; cases h
  | some a =>
    rw [q] at h
    obtain ⟨h1, h2⟩ := List.getElem?_eq_some_iff.mp q
    rw [List.getElem_range] at h2
    rw [List.length_range] at h1
    have : (0 : Int) + (a : Nat) = y := Option.some.inj h
    exact ⟨by omega, h1⟩
def inz (ws : List Int) : List PyData := ws.map PyData.int
theorem inz_app (a b : List Int) : inz (a ++ b) = inz a ++ inz b := by simp [inz]
theorem turn_lt {K d m : Int} (s : Sh K d m) : 0 ≤ K * m ∧ K * m ≤ 21 := by
  have h1 := s.k1
  have h2 := s.k2
  have h3 := s.m1
  have h4 := s.m2
  have : m = 2 ∨ m = 3 := by omega
  rcases this with rfl | rfl <;> omega
theorem fl_app {ρ : Rho} {T : Tab} {k : Nat} {m e : ME} {xs : List PyData} {d : PyData} {Q : Fl → Tab → Prop} (hk : k = T.length) (h : m ρ (T ++ [some (xs.map Vd.dat)]) = .ok (.own k) (T ++ [some (xs.map Vd.dat)])) (he : e ρ (T ++ [some (xs.map Vd.dat)]) = .ok (.dat d) (T ++ [some (xs.map Vd.dat)]))
    (hn : xs.length ≤ 100000) (q : Q (.nx ρ) (T ++ [some ((xs ++ [d]).map Vd.dat)])) : Ev (sApp m e ρ (T ++ [some (xs.map Vd.dat)])) Q := by
  subst hk
  refine e_app h ⟨_, get_sn _ _⟩ he (get_sn _ _) (by simpa using hn) ?_
  rw [set_sn]
  simpa using q
theorem ev_places {T : Tab} (g : Good T) {K d m : Int} (s : Sh K d m) {f : List Cell} (hf : (f.length : Int) = K) :
    f_places_in [.dat (fmD K d m), .dat (.tuple (encF f))] T = .ok (.dat (.list (inz (wholes K d m f)))) T := by
  have hk := s.k2
  have ht := turn_lt s
  have gn := g.snocN
  refine Ev.eq (e_frz (e_fn ?_))
  obtain ⟨r0, er, R0⟩ := ev_run_in gn s hf 0
  show Ev (m_places_in [some (.dat (fmD K d m)), some (.dat (.tuple (encF f))), none, none, none] T) _
  refine e_seq (e_par (T' := T ++ [some []]) (x := .own T.length) (y := .dat (.int r0)) (by simp [fLstO, er]) ?_)
  have hm : mRng1 (mCons (m2 fMul (m2 fIx (mVar 0) (mC (.int 0))) (m2 fIx (mVar 0) (mC (.int 2)))) (mNil)) [some (.dat (fmD K d m)), some (.dat (.tuple (encF f))), some (.own T.length), some (.dat (.int r0)), none] (T ++ [some []]) = .ok (.rng 0 (K * m).toNat) (T ++ [some []]) :=
    x_rng1 (by simp [cMul_l (i := K) (j := m) (by have := s.k1; omega)]) (by omega)
  refine e_seq (e_for (nums (K * m).toNat) (fun y => .one (.dat (.int y))) (fun i ρ T' => ∃ r x, ρ = [some (.dat (fmD K d m)), some (.dat (.tuple (encF f))), some (.own T.length), some (.dat (.int r)), x] ∧
    T' = T ++ [some ((inz (((nums (K * m).toNat).take i).filter (wholeB K d m f))).map Vd.dat)] ∧ RunIs K d m f i r) hm (by simp [fuelOf, nums]) (fun i ρ T' _ _ => nw_rng i) ⟨r0, none, rfl, rfl, R0⟩ ?_ ?_)
  · rintro i y ρ T' hy ⟨r, x, rfl, rfl, R⟩
    obtain ⟨ey, hi⟩ := nums_get hy
    refine ⟨_, _, rfl, ?_⟩
    have gS := g.snocD (inz (((nums (K * m).toNat).take i).filter (wholeB K d m f)))
    have es := ev_shows_in gS s hf y
    have fin : ∀ S, (Good S) → S = T ++ [some ((inz (((nums (K * m).toNat).take (i + 1)).filter (wholeB K d m f))).map Vd.dat)] →
        Ev (sAsg (mIf (mN (fCall 3 f_shows_in) (mCons (mVar 0) (mCons (mVar 1) (mCons (mVar 4) (mNil))))) (m2 fAdd (mVar 3) (mC (.int 1))) (mC (.int 0))) (gNm 3) [some (.dat (fmD K d m)), some (.dat (.tuple (encF f))), some (.own T.length), some (.dat (.int r)), some (.dat (.int y))] S)
          (fun fl T' => ∃ ρ', fl = .nx ρ' ∧ ∃ r x, ρ' = [some (.dat (fmD K d m)), some (.dat (.tuple (encF f))), some (.own T.length), some (.dat (.int r)), x] ∧ T' = T ++ [some ((inz (((nums (K * m).toNat).take (i + 1)).filter (wholeB K d m f))).map Vd.dat)] ∧ RunIs K d m f ((i + 1 : Nat) : Int) r) := by
      intro S gS eS
      have es := ev_shows_in gS s hf y
      have R2 := R.next
      rw [← ey] at R2
      cases c : shows K m f y with
      | true =>
        rw [c] at R2 es
        exact p_set (d := .dat (.int (r + 1))) (by simp [es]) ⟨_, rfl, r + 1, _, rfl, eS, by rw [show ((i + 1 : Nat) : Int) = y + 1 by omega]; exact R2⟩
      | false =>
        rw [c] at R2 es
        exact p_set (d := .dat (.int 0)) (by simp [es]) ⟨_, rfl, 0, _, rfl, eS, by rw [show ((i + 1 : Nat) : Int) = y + 1 by omega]; exact R2⟩
    have hw := R.whole
    rw [← ey] at hw
    refine e_seq (p_if (x := wholeB K d m f y) (by simp [hw]) (fun c => ?_) (fun c => ?_))
    · refine fl_app (xs := inz (((nums (K * m).toNat).take i).filter (wholeB K d m f))) (d := .int y) rfl (by simp) (by simp) ?_ ?_
      · have : (((nums (K * m).toNat).take i).filter (wholeB K d m f)).length ≤ ((nums (K * m).toNat).take i).length := List.length_filter_le _ _
        simp [inz, nums] at this ⊢
        omega
      · have e1 : inz (((nums (K * m).toNat).take i).filter (wholeB K d m f)) ++ [PyData.int y] = inz (((nums (K * m).toNat).take (i + 1)).filter (wholeB K d m f)) := by
          rw [take_next hy, List.filter_append, inz_app]
          simp [c, inz]
        exact fin _ (g.snocD _) (by rw [e1])
    · refine e_skip (fin _ gS ?_)
      rw [take_next hy, List.filter_append]
      simp [c]
  · rintro ρ T' ⟨r, x, rfl, rfl, R⟩
    rw [List.take_length]
    refine e_ret (T' := T ++ [some ((inz (wholes K d m f)).map Vd.dat)]) (d := .own T.length) (by simp; rfl) ?_
    exact ⟨T.length, _, rfl, Nat.le_refl _, get_sn _ _, closed_snoc g _, rfl, take_snoc⟩
end Hr
set_option Elab.async false
set_option linter.all false
set_option maxRecDepth 100000
set_option maxHeartbeats 4000000
namespace Hr
open PySem PySem.Spec PyProof.Rows L2
theorem x_eqv_nil (xs : List PyData) : PyData.eqv (.list xs) (.list []) = xs.isEmpty := by cases xs <;> rfl
theorem ev_wholes {T : Tab} (g : Good T) {K d m : Int} (s : Sh K d m) {f : List Cell} (hf : (f.length : Int) = K) {x : Vd} (hx : itemsOf x T = some ((encF f).map Vd.dat)) :
    f_law_wholes [.dat (fmD K d m), x] T = .ok (.dat (.list (inz (wholes K d m f)))) T := by
  have hk := s.k2
  have hd := s.d1
  have hd2 := s.d2
  have ht := turn_lt s
  have gn := g.snocN
  refine Ev.eq (e_frz (e_fn ?_))
  show Ev (m_law_wholes [some (.dat (fmD K d m)), some x, none, none, none, none, none] T) _
  refine e_seq (e_par (T' := T) (x := .dat (.int (K - d))) (y := .dat (.int (K * m))) (by simp [cMul_l (i := K) (j := m) (by have := s.k1; omega)]) ?_)
  refine e_seq (e_set (T' := T ++ [some []]) (d := .own T.length) (by simp [fLstO]) ?_)
  have hm : mRng1 (mCons (mVar 3) (mNil)) [some (.dat (fmD K d m)), some x, some (.dat (.int (K - d))), some (.dat (.int (K * m))), some (.own T.length), none, none] (T ++ [some []]) = .ok (.rng 0 (K * m).toNat) (T ++ [some []]) :=
    x_rng1 (by simp) (by omega)
  refine e_seq (e_for (nums (K * m).toNat) (fun y => .one (.dat (.int y))) (fun i ρ T' => ∃ z, ρ = [some (.dat (fmD K d m)), some x, some (.dat (.int (K - d))), some (.dat (.int (K * m))), some (.own T.length), z, none] ∧
    T' = T ++ [some ((inz (((nums (K * m).toNat).take i).filter (wholeB K d m f))).map Vd.dat)]) hm (by simp [fuelOf, nums]) (fun i ρ T' _ _ => nw_rng i) ⟨none, rfl, rfl⟩ ?_ ?_)
  · rintro i y ρ T' hy ⟨z, rfl, rfl⟩
    refine ⟨_, _, rfl, ?_⟩
    have gS := g.snocD (inz (((nums (K * m).toNat).take i).filter (wholeB K d m f)))
    have pS : Pre T (T ++ [some ((inz (((nums (K * m).toNat).take i).filter (wholeB K d m f))).map Vd.dat)]) := Pre.snoc _ _
    have e := p_lc1r (ρ := [some (.dat (fmD K d m)), some x, some (.dat (.int (K - d))), some (.dat (.int (K * m))), some (.own T.length), some (.dat (.int y)), none]) (mi := mRng2 (mCons (mC (.int 1)) (mCons (m2 fAdd (mVar 2) (mC (.int 1))) (mNil))))
      (tt := mNot (mN (fCall 3 f_law_shows) (mCons (mVar 0) (mCons (mVar 1) (mCons (m2 fSub (mVar 5) (mVar 6)) (mNil)))))) (el := mVar 6) (i := 6) (lo := 1) (n := (K - d + 1 - 1).toNat) (fun j => !shows K m f (y - j)) (fun j => .int j) gS
      (x_rng2 (by simp) (by omega) (by omega)) (by omega) fun j h1 h2 S gS2 pS2 => ⟨by simp [ev_shows gS2 s hf ((pS.trans pS2).items hx)], fun _ => by simp⟩
    have hw : ((((List.range (K - d + 1 - 1).toNat).map fun j => (1 : Int) + (j : Nat)).filter fun j => !shows K m f (y - j)).map fun j => PyData.int j).isEmpty = wholeB K d m f y := by
      unfold wholeB
      rw [show K - d + 1 - 1 = K - d by omega]
      generalize (List.range (K - d).toNat) = l
      induction l with
      | nil => rfl
      | cons a l ih =>
        rw [List.all_cons, List.map_cons, List.filter_cons]
        cases c : shows K m f (y - (1 + (a : Nat))) with
        | true => simp only [Bool.not_true, if_false, Bool.true_and]; exact ih
        | false => simp
    refine p_if (x := wholeB K d m f y) (by simp [e, x_eqv_nil]; rw [← hw]; simp) (fun c => ?_) (fun c => ?_)
    · refine fl_app (xs := inz (((nums (K * m).toNat).take i).filter (wholeB K d m f))) (d := .int y) rfl (by simp) (by simp) ?_ ?_
      · have : (((nums (K * m).toNat).take i).filter (wholeB K d m f)).length ≤ ((nums (K * m).toNat).take i).length := List.length_filter_le _ _
        simp [inz, nums] at this ⊢
        omega
      · have e1 : inz (((nums (K * m).toNat).take i).filter (wholeB K d m f)) ++ [PyData.int y] = inz (((nums (K * m).toNat).take (i + 1)).filter (wholeB K d m f)) := by
          rw [take_next hy, List.filter_append, inz_app]
          simp [c, inz]
        exact ⟨_, rfl, _, rfl, by rw [e1]⟩
    · refine e_skip ⟨_, rfl, _, rfl, ?_⟩
      rw [take_next hy, List.filter_append]
      simp [c]
  · rintro ρ T' ⟨z, rfl, rfl⟩
    rw [List.take_length]
    refine e_ret (T' := T ++ [some ((inz (wholes K d m f)).map Vd.dat)]) (d := .own T.length) (by simp; rfl) ?_
    exact ⟨T.length, _, rfl, Nat.le_refl _, get_sn _ _, closed_snoc g _, rfl, take_snoc⟩
/-! far places -/
def laters (ws : List Int) (turn : Int) : List Int := ws.drop 1 ++ (ws.take 1).map (· + turn)
def far (ws : List Int) (turn d : Int) : List Int := ((ws.zip (laters ws turn)).filter fun p => decide (d < p.2 - p.1)).map (·.1)
def ans (ws : List Int) (turn d : Int) : PyData := match far ws turn d with
  | [a] => .int a
  | _ => .none
theorem laters_len (ws : List Int) (turn : Int) : (laters ws turn).length = ws.length := by
  unfold laters
  simp
  omega
theorem cut_from (xs : List PyData) : cutG xs (some 1) none = xs.drop 1 := by
  unfold cutG
  have e : HT.sIx xs.length 0 (some 1) = min 1 xs.length := HT.sIx_nat xs.length 0 1
  rw [e, HT.sIx_none]
  cases xs with
  | nil => rfl
  | cons x xs =>
    rw [show min 1 (x :: xs).length = 1 by simp]
    exact List.take_of_length_le (by simp)
theorem cut_to {α : Type} (xs : List α) (n : Nat) : cutG xs none (some (n : Int)) = xs.take n := by
  unfold cutG
  rw [HT.sIx_nat, HT.sIx_none, List.drop_zero, Nat.sub_zero]
  by_cases h : n ≤ xs.length
  · rw [Nat.min_eq_left h]
  · rw [Nat.min_eq_right (by omega), List.take_of_length_le (Nat.le_refl _), List.take_of_length_le (by omega)]
theorem cut_to1 {α : Type} (xs : List α) : cutG xs none (some 1) = xs.take 1 := cut_to xs 1
theorem x_sl_l {T : Tab} {xs ys : List PyData} {l h : Option Int} (e : cutG xs l h = ys) : fSl (.dat (.list xs)) l h T = .ok (.dat (.list ys)) T := by
  unfold fSl
  simp only [e]
theorem x_cat {T : Tab} {xs ys : List PyData} (h : (xs ++ ys).length ≤ 100000) : fCatL fCat (.dat (.list xs)) (.dat (.list ys)) T = .ok (.dat (.list (xs ++ ys))) T := by
  unfold fCatL fCat
  simp only [isLst, Bool.and_self, if_true, itemsOf]
  rw [← List.map_append, dats_map]
  simp only [if_pos h]
theorem wholes_len {K d m : Int} (s : Sh K d m) (f : List Cell) : (wholes K d m f).length ≤ 21 := by
  have ht := turn_lt s
  have : (wholes K d m f).length ≤ ((List.range (K * m).toNat).map fun j => (0 : Int) + (j : Nat)).length := List.length_filter_le _ _
  simp at this
  omega
theorem ev_gaps {T : Tab} (g : Good T) {K d m : Int} (s : Sh K d m) {f : List Cell} (hf : (f.length : Int) = K) :
    f_gaps_in [.dat (fmD K d m), .dat (.tuple (encF f))] T = .ok (.dat (.list (((wholes K d m f).zip (laters (wholes K d m f) (K * m))).map fun p => .tuple [.int p.1, .int (p.2 - p.1)]))) T := by
  have ht := turn_lt s
  have hl := wholes_len s f
  have e := ev_places g s hf
  generalize wholes K d m f = ws at *
  refine ev_p g ?_
  refine e_seq (p_set (d := .dat (.list (inz ws))) (by simp [e]) ?_)
  have e1 := p_lc1s (ρ := [some (.dat (fmD K d m)), some (.dat (.tuple (encF f))), some (.dat (.list (inz ws))), none, none, none]) (T := T) (m := mSl (mVar 2) none (some (mC (.int 1)))) (tt := mC (.bool true))
    (el := m2 fAdd (mVar 4) (m2 fMul (m2 fIx (mVar 0) (mC (.int 0))) (m2 fIx (mVar 0) (mC (.int 2))))) (i := 4) (ws.take 1) (fun w => .dat (.int w)) (fun _ => true) (fun w => .int (w + K * m)) g (x := .dat (.list ((inz ws).take 1)))
    (by simp [mSl, mPart, x_sl_l (cut_to1 (inz ws))]) (by show some (((inz ws).take 1).map Vd.dat) = _; unfold inz; rw [← List.map_take, List.map_map]; rfl) (by simp; omega) fun w hw S gS _ => ⟨rfl, fun _ => by simp [cMul_l (i := K) (j := m) (by have := s.k1; have := s.k2; omega)]⟩
  rw [filt] at e1
  have e2 : (inz ws).drop 1 ++ (ws.take 1).map (fun w => PyData.int (w + K * m)) = inz (laters ws (K * m)) := by
    unfold inz laters
    rw [List.map_append, List.map_drop, List.map_map]
    rfl
  have hle : (inz (laters ws (K * m))).length ≤ 100000 := by
    unfold inz
    rw [List.length_map, laters_len]
    omega
  refine e_seq (p_set (d := .dat (.list (inz (laters ws (K * m))))) ?_ ?_)
  · have e4 := x_cat (T := T) (xs := (inz ws).drop 1) (ys := (ws.take 1).map fun w => PyData.int (w + K * m)) (by rw [e2]; exact hle)
    rw [e2] at e4
    simp only [List.set_cons_succ, List.set_cons_zero, x_m2, mSl, mPart, x_var, List.getElem?_cons_succ, List.getElem?_cons_zero, bd_ok, x_C, x_sl_l (cut_from (inz ws)), e1, e4]
  · have hz1 : itemsOf (.dat (.list (inz ws))) T = some ((ws.zip (laters ws (K * m))).map fun p => Vd.dat (.int p.1)) := by
      show some ((ws.map PyData.int).map Vd.dat) = _
      have : (ws.zip (laters ws (K * m))).map (fun p => Vd.dat (.int p.1)) = ((ws.zip (laters ws (K * m))).map (·.1)).map fun w => Vd.dat (.int w) := by rw [List.map_map]; rfl
      rw [this, List.map_fst_zip (by rw [laters_len]; exact Nat.le_refl _), List.map_map]
      rfl
    have hz2 : itemsOf (.dat (.list (inz (laters ws (K * m))))) T = some ((ws.zip (laters ws (K * m))).map fun p => Vd.dat (.int p.2)) := by
      show some (((laters ws (K * m)).map PyData.int).map Vd.dat) = _
      have : (ws.zip (laters ws (K * m))).map (fun p => Vd.dat (.int p.2)) = ((ws.zip (laters ws (K * m))).map (·.2)).map fun w => Vd.dat (.int w) := by rw [List.map_map]; rfl
      rw [this, List.map_snd_zip (by rw [laters_len]; exact Nat.le_refl _), List.map_map]
      rfl
    have e3 := p_lc2z (ρ := [some (.dat (fmD K d m)), some (.dat (.tuple (encF f))), some (.dat (.list (inz ws))), some (.dat (.list (inz (laters ws (K * m))))), none, none]) (T := T) (ms := mCons (mVar 2) (mCons (mVar 3) mNil)) (tt := mC (.bool true))
      (el := mN fTup (mCons (mVar 4) (mCons (m2 fSub (mVar 5) (mVar 4)) mNil))) (i := 4) (j := 5) (by decide) (ws.zip (laters ws (K * m))) (fun p => .dat (.int p.1)) (fun p => .dat (.int p.2)) (fun _ => true) (fun p => .tuple [.int p.1, .int (p.2 - p.1)]) g
      (x := .dat (.list (inz ws))) (y := .dat (.list (inz (laters ws (K * m))))) rfl hz1 hz2 (by simp; omega) fun p hp S gS _ => ⟨rfl, fun _ => by simp⟩
    rw [filt] at e3
    exact p_rt (by simpa using e3)
theorem ev_far {T : Tab} (g : Good T) {K d m : Int} (s : Sh K d m) {f : List Cell} (hf : (f.length : Int) = K) :
    f_far_in [.dat (fmD K d m), .dat (.tuple (encF f))] T = .ok (.dat (.list (inz (far (wholes K d m f) (K * m) d)))) T := by
  have hl := wholes_len s f
  have e := ev_gaps g s hf
  refine ev_p g ?_
  generalize wholes K d m f = ws at *
  have e1 := p_lc2s (ρ := [some (.dat (fmD K d m)), some (.dat (.tuple (encF f))), none, none]) (T := T) (m := mN (fCall 2 f_gaps_in) (mCons (mVar 0) (mCons (mVar 1) mNil))) (tt := m2 fGt (mVar 3) (m2 fIx (mVar 0) (mC (.int 1)))) (el := mVar 2) (i := 2) (j := 3) (by decide)
    (ws.zip (laters ws (K * m))) (fun p => .int p.1) (fun p => .int (p.2 - p.1)) (fun p => decide (d < p.2 - p.1)) (fun p => .int p.1) g (x := .dat (.list ((ws.zip (laters ws (K * m))).map fun p => .tuple [.int p.1, .int (p.2 - p.1)])))
    (by simpa using e) (by show some (List.map Vd.dat _) = _; rw [List.map_map]; rfl) (by simp; omega) fun p hp S gS _ => ⟨by simp, fun _ => by simp⟩
  have e2 : ((ws.zip (laters ws (K * m))).filter fun p => decide (d < p.2 - p.1)).map (fun p => PyData.int p.1) = inz (far ws (K * m) d) := by
    unfold inz far
    rw [List.map_map]
    rfl
  rw [e2] at e1
  exact p_rt e1
theorem ev_answer_in {T : Tab} (g : Good T) {K d m : Int} (s : Sh K d m) {f : List Cell} (hf : (f.length : Int) = K) :
    f_answer_in [.dat (fmD K d m), .dat (.tuple (encF f))] T = .ok (.dat (ans (wholes K d m f) (K * m) d)) T := by
  have e := ev_far g s hf
  refine ev_p g ?_
  unfold ans
  generalize far (wholes K d m f) (K * m) d = fs at *
  refine e_seq (p_set (d := .dat (.list (inz fs))) (by simp [e]) ?_)
  match fs with
  | [] => exact p_rt (by simp [inz])
  | [a] => exact p_rt (by simp [inz])
  | a :: b :: r =>
    have : ¬ ((r.length : Int) + 1 + 1 = 1) := by omega
    exact p_rt (by simp [inz, this])
end Hr
set_option Elab.async false
set_option linter.all false
set_option maxRecDepth 100000
set_option maxHeartbeats 4000000
namespace Hr
open PySem PySem.Spec PyProof.Rows L2
theorem laters_get {ws : List Int} {t : Int} {i : Nat} (h : i < ws.length) : (laters ws t)[i]? = some (if h2 : i + 1 < ws.length then ws[i + 1] else ws[0] + t) := by
  unfold laters
  by_cases c : i + 1 < ws.length
  · rw [dif_pos c, List.getElem?_append_left (by simp; omega), List.getElem?_drop, Nat.add_comm 1 i, List.getElem?_eq_getElem c]
  · rw [dif_neg c, List.getElem?_append_right (by simp; omega)]
    have : i - (ws.drop 1).length = 0 := by simp; omega
    rw [this]
    cases ws with
    | nil => simp at h
    | cons a r => rfl
theorem x_ixn_l {T : Tab} {xs : List PyData} {i : Int} {d : PyData} (h0 : 0 ≤ i) (e : xs[i.toNat]? = some d) : fIx (.dat (.list xs)) (.dat (.int i)) T = .ok (.dat d) T :=
  x_ix (x := .dat (.list xs)) (xs := xs.map Vd.dat) rfl h0 (by rw [List.getElem?_map, e]; rfl)
theorem ev_answer {T : Tab} (g : Good T) {K d m : Int} (s : Sh K d m) {f : List Cell} (hf : (f.length : Int) = K) {x : Vd} (hx : itemsOf x T = some ((encF f).map Vd.dat)) :
    f_law_answer [.dat (fmD K d m), x] T = .ok (.dat (ans (wholes K d m f) (K * m) d)) T := by
  have hl := wholes_len s f
  have e := ev_wholes g s hf hx
  generalize wholes K d m f = ws at *
  refine ev_p g ?_
  refine e_seq (e_par (T' := T) (x := .dat (.list (inz ws))) (y := .dat (.int (K * m))) (by simp [e, cMul_l (i := K) (j := m) (by have := s.k1; have := s.k2; omega)]) ?_)
  refine e_seq (e_set (T' := T ++ [some []]) (d := .own T.length) (by simp [fLstO]) ?_)
  have hit : itemsOf (.dat (.list (inz ws))) (T ++ [some []]) = some ((inz ws).map Vd.dat) := rfl
  refine e_seq (e_for (ws.zipIdx) (fun y => .two (.dat (.int (y.2 : Nat))) (.dat (.int y.1))) (fun i ρ T' => ∃ z1 z2 z3, ρ = [some (.dat (fmD K d m)), some x, some (.dat (.list (inz ws))), some (.dat (.int (K * m))), some (.own T.length), z1, z2, z3] ∧
    T' = T ++ [some ((inz ((((ws.zip (laters ws (K * m))).take i).filter fun p => decide (d < p.2 - p.1)).map (·.1))).map Vd.dat)]) (T1 := T ++ [some []]) (it := .en (.dat (.list (inz ws)))) (by simp [mEnum, hasItems, itemsOf]) (by rw [fu_en hit]; simp [inz]) (fun i ρ T' hi _ => ?_) ⟨none, none, none, rfl, rfl⟩ ?_ ?_)
  · rw [nw_en (xs := (inz ws).map Vd.dat) rfl (by simpa [inz] using hi)]
    unfold inz
    rw [List.map_map, List.zipIdx_map, List.getElem?_map, Option.map_map]
    rfl
  · rintro i ⟨y, j⟩ ρ T' hy ⟨z1, z2, z3, rfl, rfl⟩
    obtain ⟨hlt, ey⟩ := List.getElem?_eq_some_iff.mp hy
    rw [List.length_zipIdx] at hlt
    rw [List.getElem_zipIdx] at ey
    have ej : j = i := by have := congrArg Prod.snd ey; simp at this; omega
    have ey : ws[i] = y := congrArg Prod.fst ey
    subst ej
    refine ⟨_, _, rfl, ?_⟩
    have el := laters_get (t := K * m) hlt
    have h0 : ws[0]? = some ws[0] := List.getElem?_eq_getElem (by omega)
    have eG : (ws.zip (laters ws (K * m)))[j]? = some (y, (if h2 : j + 1 < ws.length then ws[j + 1] else ws[0] + K * m)) := by
      rw [List.getElem?_zip_eq_some]
      exact ⟨by rw [List.getElem?_eq_getElem hlt, ey], el⟩
    have hu : ((((ws.zip (laters ws (K * m))).take j).filter fun p => decide (d < p.2 - p.1)).map (·.1)).length ≤ 100000 := by
      have h1 : (((ws.zip (laters ws (K * m))).take j).filter fun p => decide (d < p.2 - p.1)).length ≤ ((ws.zip (laters ws (K * m))).take j).length := List.length_filter_le _ _
      simp at h1 ⊢
      omega
    have nx := take_next eG
    generalize hL : (if h2 : j + 1 < ws.length then ws[j + 1] else ws[0] + K * m) = L at *
    have gL : ∀ S, m2 fLt (m2 fAdd (mVar 5) (mC (.int 1))) (mN fLen (mCons (mVar 2) mNil)) [some (.dat (fmD K d m)), some x, some (.dat (.list (inz ws))), some (.dat (.int (K * m))), some (.own T.length), some (.dat (.int j)), some (.dat (.int y)), z3]
        S = .ok (.dat (.bool (decide (j + 1 < ws.length)))) S := by
      intro S
      by_cases c : j + 1 < ws.length
      · have c2 : (j : Int) + 1 < ws.length := by omega
        simp [c, c2, inz]
      · have c2 : ¬ (j : Int) + 1 < ws.length := by omega
        simp [c, c2, inz]
    generalize hacc : (((ws.zip (laters ws (K * m))).take j).filter fun p => decide (d < p.2 - p.1)).map (·.1) = acc at *
    refine e_seq (p_set (d := .dat (.int L)) ?_ ?_)
    · simp only [x_if]
      refine Eq.trans (congrArg (fun r => Re.bd r _) (gL _)) ?_
      by_cases c : j + 1 < ws.length
      · rw [dif_pos c] at hL
        subst hL
        have e3 : ∀ S, fIx (.dat (.list (inz ws))) (.dat (.int ((j : Int) + 1))) S = .ok (.dat (.int ws[j + 1])) S := fun S =>
          x_ixn_l (by omega) (by rw [show ((j : Int) + 1).toNat = j + 1 by omega]; unfold inz; rw [List.getElem?_map, List.getElem?_eq_getElem c]; rfl)
        simp [c, e3]
      · rw [dif_neg c] at hL
        subst hL
        have e3 : ∀ S, fIx (.dat (.list (inz ws))) (.dat (.int 0)) S = .ok (.dat (.int ws[0])) S := fun S =>
          x_ixn_l (by omega) (by unfold inz; rw [List.getElem?_map]; show Option.map PyData.int ws[0]? = _; rw [h0]; rfl)
        simp [c, e3]
    · refine p_if (x := decide (d < L - y)) (by simp) (fun c => ?_) (fun c => ?_)
      · refine fl_app (xs := inz acc) (d := .int y) rfl (by simp) (by simp) (by simpa [inz] using hu) ?_
        refine ⟨_, rfl, _, _, _, rfl, ?_⟩
        have e6 : (((ws.zip (laters ws (K * m))).take (j + 1)).filter fun p => decide (d < p.2 - p.1)).map (·.1) = acc ++ [y] := by
          rw [nx, List.filter_append, List.map_append, hacc]
          simp at c
          simp [c]
        rw [e6, inz_app]
        rfl
      · refine e_skip ⟨_, rfl, _, _, _, rfl, ?_⟩
        have e6 : (((ws.zip (laters ws (K * m))).take (j + 1)).filter fun p => decide (d < p.2 - p.1)).map (·.1) = acc := by
          rw [nx, List.filter_append, List.map_append, hacc]
          simp at c
          have c2 : ¬ d < L - y := by omega
          simp [c2]
        rw [e6]
  · rintro ρ T' ⟨z1, z2, z3, rfl, rfl⟩
    have hz : ws.zipIdx.length = (ws.zip (laters ws (K * m))).length := by
      rw [List.length_zipIdx, List.length_zip, laters_len]
      omega
    rw [hz, List.take_length]
    have ha : ans ws (K * m) d = match far ws (K * m) d with
      | [a] => .int a
      | _ => .none := rfl
    rw [ha]
    show Ev _ _
    have hfar : ((ws.zip (laters ws (K * m))).filter fun p => decide (d < p.2 - p.1)).map (·.1) = far ws (K * m) d := rfl
    rw [hfar]
    generalize far ws (K * m) d = fs
    have il : itemsOf (.own T.length) (T ++ [some ((inz fs).map Vd.dat)]) = some ((inz fs).map Vd.dat) := by simp [itemsOf]
    have e4 := x_len il
    match fs with
    | [] => exact e_ret (T' := T ++ [some []]) (by simp [inz, x_len (T := T ++ [some []]) (x := .own T.length) (xs := []) (by simp [itemsOf])]) ⟨rfl, Pre.snoc _ _⟩
    | [a] =>
      have e5 : fIx (.own T.length) (.dat (.int 0)) (T ++ [some ((inz [a]).map Vd.dat)]) = .ok (.dat (.int a)) _ := x_ixown (get_sn _ _) (by decide) rfl
      refine e_ret (T' := T ++ [some ((inz [a]).map Vd.dat)]) (d := .dat (.int a)) ?_ ⟨rfl, Pre.snoc _ _⟩
      simp only [x_if, x_m2, x_N, x_cons, x_nil, x_var, List.getElem?_cons_succ, List.getElem?_cons_zero, bd_ok, e4, e5, x_C]
      simp [inz]
      exact e5
    | a :: b :: r =>
      have : ¬ ((r.length : Int) + 1 + 1 = 1) := by omega
      refine e_ret (T' := T ++ [some ((inz (a :: b :: r)).map Vd.dat)]) (d := .dat .none) ?_ ⟨rfl, Pre.snoc _ _⟩
      simp only [x_if, x_m2, x_N, x_cons, x_nil, x_var, List.getElem?_cons_succ, List.getElem?_cons_zero, bd_ok, e4, x_C]
      simp [inz, this]
end Hr
set_option Elab.async false
set_option linter.all false
set_option maxRecDepth 100000
set_option maxHeartbeats 4000000
namespace Hr
open PySem PySem.Spec PyProof.Rows L2
/-! ### the writes of a mending, what fell -/
abbrev Wr := Int × (Int × PyData)
def encW (w : Wr) : PyData := .tuple [.int w.1, .tuple [.int w.2.1, w.2.2]]
def encWs (ws : List Wr) : List PyData := ws.map encW
abbrev blankD : PyData := .tuple [.str "blank"]
def isW (K m : Int) (f : List Cell) (n : Int) : Bool := match f[(n % K).toNat]? with
  | some none => false
  | _ => !shows K m f (n - K)
def wr (K d m : Int) (f : List Cell) (p : Int) : List Wr := ((List.range d.toNat).filter fun j => isW K m f (p + (j : Nat))).map fun j => ((p + (j : Nat)) % K, ((p + (j : Nat) - K) / K % m, blankD))
theorem wr_len {K d m : Int} (s : Sh K d m) (f : List Cell) (p : Int) : (wr K d m f p).length ≤ 6 := by
  have h1 := s.k2
  have h2 := s.d2
  have : ((List.range d.toNat).filter fun j => isW K m f (p + (j : Nat))).length ≤ (List.range d.toNat).length := List.length_filter_le _ _
  unfold wr
  rw [List.length_map]
  rw [List.length_range] at this
  omega
theorem ne_torn (K m : Int) (f : List Cell) (n : Int) {c : Cell} (hc : f[(n % K).toNat]? = some c) : isW K m f n = (!PyData.eqv (enc c) (.tuple [.str "torn"]) && !shows K m f (n - K)) := by
  unfold isW
  rw [hc]
  cases c with
  | none => simp [enc]
  | some q => simp [enc]
theorem nw_rng2 {lo : Int} {n i : Nat} {T : Tab} : nextOf (.rng lo n) i T = some (((List.range n)[i]?).map fun j => .one (.dat (.int (lo + (j : Nat))))) := by
  rw [nw_rng, List.getElem?_map, Option.map_map]
  rfl
theorem range_get {n i j : Nat} (h : (List.range n)[i]? = some j) : j = i ∧ i < n := by
  obtain ⟨h1, h2⟩ := List.getElem?_eq_some_iff.mp h
  rw [List.getElem_range] at h2
  rw [List.length_range] at h1
  exact ⟨h2.symm, h1⟩
theorem ev_blank {T : Tab} (g : Good T) : f_law_blank [] T = .ok (.dat blankD) T := by
  refine ev_p g ?_
  exact p_rt (by simp)
theorem x_blank {ρ : Rho} {T : Tab} (g : Good T) : mCall0 f_law_blank ρ T = .ok (.dat blankD) T := by
  unfold mCall0
  rw [ev_blank g, ne_ok]
def okA (a : Int) : Prop := -(2 ^ 40) < a ∧ a < 2 ^ 40
theorem ev_writes_at {T : Tab} (g : Good T) {K d m : Int} (s : Sh K d m) {f : List Cell} (hf : (f.length : Int) = K) {p : Int} (hp : okA p) :
    f_writes_at [.dat (fmD K d m), .dat (.tuple (encF f)), .dat (.int p)] T = .ok (.dat (.tuple (encWs (wr K d m f p)))) T := by
  have hk := s.k2
  have hk1 : 0 < K := by have := s.k1; omega
  have hd := s.d2
  have hd1 := s.d1
  unfold okA at hp
  refine ev_p g ?_
  refine e_seq (e_set (T' := T ++ [some []]) (d := .own T.length) (by simp [fLstO]) ?_)
  refine e_seq (e_for (List.range d.toNat) (fun j => .one (.dat (.int (p + (j : Nat))))) (fun i ρ T' => ∃ z1 z2, ρ = [some (.dat (fmD K d m)), some (.dat (.tuple (encF f))), some (.dat (.int p)), some (.own T.length), z1, z2] ∧
    T' = T ++ [some ((encWs ((((List.range d.toNat).take i).filter fun j => isW K m f (p + (j : Nat))).map fun j => ((p + (j : Nat)) % K, ((p + (j : Nat) - K) / K % m, blankD)))).map Vd.dat)])
    (T1 := T ++ [some []]) (it := .rng p (p + d - p).toNat) (x_rng2 (by simp) (by omega) (by omega)) (by simp [fuelOf]; omega) (fun i ρ T' hi _ => by rw [show (p + d - p).toNat = d.toNat by omega]; exact nw_rng2) ⟨none, none, rfl, rfl⟩ ?_ ?_)
  · rintro i j ρ T' hy ⟨z1, z2, rfl, rfl⟩
    obtain ⟨rfl, hlt⟩ := range_get hy
    refine ⟨_, _, rfl, ?_⟩
    have hu : (((List.range d.toNat).take j).filter fun j => isW K m f (p + (j : Nat))).length ≤ 100000 := by
      have h1 : (((List.range d.toNat).take j).filter fun j => isW K m f (p + (j : Nat))).length ≤ ((List.range d.toNat).take j).length := List.length_filter_le _ _
      simp at h1 ⊢
      omega
    have nx := take_next hy
    generalize hacc : ((List.range d.toNat).take j).filter (fun j => isW K m f (p + (j : Nat))) = acc at *
    have gS := g.snocD (encWs (acc.map fun j => ((p + (j : Nat)) % K, ((p + (j : Nat) - K) / K % m, blankD))))
    obtain ⟨h0, c, hc⟩ := mod_ix (n := p + (j : Nat)) hk1 hf
    have e := x_ix (T := T ++ [some ((encWs (acc.map fun j => ((p + (j : Nat)) % K, ((p + (j : Nat) - K) / K % m, blankD)))).map Vd.dat)]) (x := .dat (.tuple (encF f))) rfl h0 (enc_get hc)
    have es := ev_shows_in gS s hf (p + (j : Nat) - K)
    have em := ev_mark gS s (p + (j : Nat) - K)
    have ew := ne_torn K m f (p + (j : Nat)) hc
    refine e_seq (p_set (d := .dat (.int ((p + (j : Nat)) % K))) (by simp [hk1]) ?_)
    refine p_if (x := isW K m f (p + (j : Nat))) ?_ (fun c => ?_) (fun c => ?_)
    · rw [ew]
      cases hx : PyData.eqv (enc c) (.tuple [.str "torn"]) with
      | true => simp [e, es, hx]
      | false => simp [e, es, hx]
    · refine fl_app (xs := encWs (acc.map fun j => ((p + (j : Nat)) % K, ((p + (j : Nat) - K) / K % m, blankD)))) (d := encW ((p + (j : Nat)) % K, ((p + (j : Nat) - K) / K % m, blankD))) rfl (by simp) (by simp [em, encW]) (by simpa [encWs] using hu) ?_
      refine ⟨_, rfl, _, _, rfl, ?_⟩
      rw [nx, List.filter_append, hacc]
      simp [c, encWs]
    · refine e_skip ⟨_, rfl, _, _, rfl, ?_⟩
      rw [nx, List.filter_append, hacc]
      simp [c]
  · rintro ρ T' ⟨z1, z2, rfl, rfl⟩
    rw [List.take_length]
    refine e_ret (T' := T ++ [some ((encWs (wr K d m f p)).map Vd.dat)]) (d := .dat (.tuple (encWs (wr K d m f p)))) ?_ ⟨rfl, Pre.snoc _ _⟩
    simp only [x_N, x_cons, x_nil, x_var, List.getElem?_cons_succ, List.getElem?_cons_zero, bd_ok]
    exact x_tupo (get_sn _ _)
theorem ev_mending {T : Tab} (g : Good T) {K d m : Int} (s : Sh K d m) {f : List Cell} (hf : (f.length : Int) = K) {x : Vd} (hx : itemsOf x T = some ((encF f).map Vd.dat)) {p : Int} (hp : okA p) (hn : ans (wholes K d m f) (K * m) d = .int p) :
    f_law_mending [.dat (fmD K d m), x] T = .ok (.dat (.list (encWs (wr K d m f p)))) T := by
  have hk := s.k2
  have hk1 : 0 < K := by have := s.k1; omega
  have hd := s.d2
  have hd1 := s.d1
  have ea := ev_answer g s hf hx
  rw [hn] at ea
  unfold okA at hp
  refine Ev.eq (e_frz (e_fn ?_))
  show Ev (m_law_mending [some (.dat (fmD K d m)), some x, none, none, none, none, none] T) _
  refine e_seq (e_par (T' := T ++ [some []]) (x := .dat (.int p)) (y := .own T.length) (by simp [fLstO, ea]) ?_)
  refine e_seq (e_for (List.range d.toNat) (fun j => .one (.dat (.int (0 + (j : Nat))))) (fun i ρ T' => ∃ z1 z2 z3, ρ = [some (.dat (fmD K d m)), some x, some (.dat (.int p)), some (.own T.length), z1, z2, z3] ∧
    T' = T ++ [some ((encWs ((((List.range d.toNat).take i).filter fun j => isW K m f (p + (j : Nat))).map fun j => ((p + (j : Nat)) % K, ((p + (j : Nat) - K) / K % m, blankD)))).map Vd.dat)])
    (T1 := T ++ [some []]) (it := .rng 0 d.toNat) (x_rng1 (by simp) (by omega)) (by simp [fuelOf]) (fun i ρ T' hi _ => nw_rng2) ⟨none, none, none, rfl, rfl⟩ ?_ ?_)
  · rintro i j ρ T' hy ⟨z1, z2, z3, rfl, rfl⟩
    obtain ⟨rfl, hlt⟩ := range_get hy
    refine ⟨_, _, rfl, ?_⟩
    have hu : (((List.range d.toNat).take j).filter fun j => isW K m f (p + (j : Nat))).length ≤ 100000 := by
      have h1 : (((List.range d.toNat).take j).filter fun j => isW K m f (p + (j : Nat))).length ≤ ((List.range d.toNat).take j).length := List.length_filter_le _ _
      simp at h1 ⊢
      omega
    have nx := take_next hy
    generalize hacc : ((List.range d.toNat).take j).filter (fun j => isW K m f (p + (j : Nat))) = acc at *
    have gS := g.snocD (encWs (acc.map fun j => ((p + (j : Nat)) % K, ((p + (j : Nat) - K) / K % m, blankD))))
    have pS : Pre T (T ++ [some ((encWs (acc.map fun j => ((p + (j : Nat)) % K, ((p + (j : Nat) - K) / K % m, blankD)))).map Vd.dat)]) := Pre.snoc _ _
    obtain ⟨h0, c, hc⟩ := mod_ix (n := p + (j : Nat)) hk1 hf
    have e := x_ix (T := T ++ [some ((encWs (acc.map fun j => ((p + (j : Nat)) % K, ((p + (j : Nat) - K) / K % m, blankD)))).map Vd.dat)]) (x := x) (pS.items hx) h0 (enc_get hc)
    have es := ev_shows gS s hf (pS.items hx) (p + (j : Nat) - K)
    have em := ev_lap gS s (p + (j : Nat) - K)
    have eb := fun ρ => x_blank (ρ := ρ) gS
    have ew := ne_torn K m f (p + (j : Nat)) hc
    refine e_seq (e_par (T' := T ++ [some ((encWs (acc.map fun j => ((p + (j : Nat)) % K, ((p + (j : Nat) - K) / K % m, blankD)))).map Vd.dat)]) (x := .dat (.int ((p + (j : Nat)) % K))) (y := .dat (.int (p + (j : Nat) - K))) (by simp [hk1]) ?_)
    refine p_if (x := isW K m f (p + (j : Nat))) ?_ (fun c => ?_) (fun c => ?_)
    · rw [ew]
      cases hx : PyData.eqv (enc c) (.tuple [.str "torn"]) with
      | true => simp [e, es, hx]
      | false => simp [e, es, hx]
    · refine fl_app (xs := encWs (acc.map fun j => ((p + (j : Nat)) % K, ((p + (j : Nat) - K) / K % m, blankD)))) (d := encW ((p + (j : Nat)) % K, ((p + (j : Nat) - K) / K % m, blankD))) rfl (by simp) (by simp [em, eb, encW]) (by simpa [encWs] using hu) ?_
      refine ⟨_, rfl, _, _, _, rfl, ?_⟩
      rw [nx, List.filter_append, hacc]
      simp [c, encWs]
    · refine e_skip ⟨_, rfl, _, _, _, rfl, ?_⟩
      rw [nx, List.filter_append, hacc]
      simp [c]
  · rintro ρ T' ⟨z1, z2, z3, rfl, rfl⟩
    rw [List.take_length]
    refine e_ret (T' := T ++ [some ((encWs (wr K d m f p)).map Vd.dat)]) (d := .own T.length) (by simp; rfl) ?_
    exact ⟨T.length, _, rfl, Nat.le_refl _, get_sn _ _, closed_snoc g _, rfl, take_snoc⟩
end Hr
set_option Elab.async false
set_option linter.all false
set_option maxRecDepth 100000
set_option maxHeartbeats 4000000
namespace Hr
open PySem PySem.Spec PyProof.Rows L2
inductive Fate where
  | old
  | new
  | torn
def Fate.s : Fate → Str
  | .old => "old"
  | .new => "new"
  | .torn => "torn"
def encT (t : Fate) : PyData := .str t.s
def encTs (ts : List Fate) : List PyData := ts.map encT
def fall1 (f : List Cell) (q : Wr × Fate) : List Cell := match q.2 with
  | .old => f
  | .new => f.set q.1.1.toNat (some q.1.2)
  | .torn => f.set q.1.1.toNat none
def fall (f : List Cell) (qs : List (Wr × Fate)) : List Cell := qs.foldl fall1 f
theorem fall1_len (f : List Cell) (q : Wr × Fate) : (fall1 f q).length = f.length := by
  unfold fall1
  split <;> simp
theorem fall_len (qs : List (Wr × Fate)) : ∀ f : List Cell, (fall f qs).length = f.length := by
  induction qs with
  | nil => intro f; rfl
  | cons q qs ih => intro f; exact (ih (fall1 f q)).trans (fall1_len f q)
theorem fall_snoc (f : List Cell) (qs : List (Wr × Fate)) (q : Wr × Fate) : fall f (qs ++ [q]) = fall1 (fall f qs) q := by
  unfold fall
  rw [List.foldl_append]
  rfl
theorem encF_set (f : List Cell) (i : Nat) (c : Cell) : encF (f.set i c) = (encF f).set i (enc c) := by
  unfold encF
  rw [List.map_set]
theorem s_no : (("new" : Str) = "old") = False := by simp; decide +kernel
theorem s_to : (("torn" : Str) = "old") = False := by simp; decide +kernel
theorem s_tn : (("torn" : Str) = "new") = False := by simp; decide +kernel
theorem s_on : (("old" : Str) = "new") = False := by simp; decide +kernel
theorem s_ot : (("old" : Str) = "torn") = False := by simp; decide +kernel
theorem s_nt : (("new" : Str) = "torn") = False := by simp; decide +kernel
theorem e_sb {a i : ME} {ρ : Rho} {T : Tab} {k : Nat} {j : Int} {xs : List Vd} {d : Vd} (ha : a ρ T = .ok (.own k) T) (hi : i ρ T = .ok (.dat (.int j)) T) (hx : T[k]? = some (some xs)) (h0 : 0 ≤ j) (h1 : j < xs.length) :
    gSb a i (.one d) ρ T = .ok ρ (T.set k (some (xs.set j.toNat d))) := by
  unfold gSb
  simp only [ha, bd_ok, hi, hx]
  have : ixN xs.length j = some j.toNat := by
    unfold ixN
    rw [if_pos h0, if_pos h1]
  simp only [this]
theorem zip_enc (ws : List Wr) (ts : List Fate) : ((encWs ws).map Vd.dat).zip ((encTs ts).map Vd.dat) = (ws.zip ts).map fun q => (Vd.dat (encW q.1), Vd.dat (encT q.2)) := by
  unfold encWs encTs
  rw [List.map_map, List.map_map, List.zip_map]
  rfl
theorem enc_new {t : Fate} : PyData.eqv (encT t) (.str "new") = (match t with | .new => true | _ => false) := by
  cases t <;> simp [encT, Fate.s, s_no, s_to, s_tn, s_on]
theorem enc_old {t : Fate} : PyData.eqv (encT t) (.str "old") = (match t with | .old => true | _ => false) := by
  cases t <;> simp [encT, Fate.s, s_no, s_to, s_tn, s_on]
def InR (n : Nat) (ws : List Wr) : Prop := ∀ w ∈ ws, 0 ≤ w.1 ∧ w.1 < (n : Int)
/-- found = list(x); for w, t in zip(..): .. : the same in both programs, the way to the loop's end -/
theorem ev_fallen {T : Tab} (g : Good T) {f : List Cell} {ws : List Wr} {ts : List Fate} (hr : InR f.length ws) : f_fallen [.dat (.tuple (encF f)), .dat (.tuple (encWs ws)), .dat (.tuple (encTs ts))] T = .ok (.dat (.tuple (encF (fall f (ws.zip ts))))) T := by
  refine ev_p g ?_
  refine e_seq (e_set (T' := T ++ [some ((encF f).map Vd.dat)]) (d := .own T.length) (by simp [fListOfO, itemsOf]) ?_)
  have z1 : ∀ S, itemsOf (.dat (.tuple (encWs ws))) S = some ((encWs ws).map Vd.dat) := fun S => rfl
  have z2 : ∀ S, itemsOf (.dat (.tuple (encTs ts))) S = some ((encTs ts).map Vd.dat) := fun S => rfl
  refine e_seq (e_for (ws.zip ts) (fun q => .two (.dat (encW q.1)) (.dat (encT q.2))) (fun i ρ T' => ∃ y1 y2 y3, ρ = [some (.dat (.tuple (encF f))), some (.dat (.tuple (encWs ws))), some (.dat (.tuple (encTs ts))), some (.own T.length), y1, y2, y3] ∧
    T' = T ++ [some ((encF (fall f ((ws.zip ts).take i))).map Vd.dat)]) (T1 := T ++ [some ((encF f).map Vd.dat)]) (it := .zp (.dat (.tuple (encWs ws))) (.dat (.tuple (encTs ts)))) (by simp [mZip, hasItems, itemsOf]) (by rw [fu_zp (z1 _) (z2 _), zip_enc]; simp)
    (fun i ρ T' hi _ => ?_) ⟨none, none, none, rfl, rfl⟩ ?_ ?_)
  · rw [nw_zp (z1 _) (z2 _) (by rw [zip_enc]; simpa using hi), zip_enc, List.getElem?_map, Option.map_map]
    rfl
  · rintro i ⟨w, t⟩ ρ T' hy ⟨y1, y2, y3, rfl, rfl⟩
    have hw : 0 ≤ w.1 ∧ w.1 < (f.length : Int) := hr w (List.of_mem_zip (List.mem_of_getElem? hy)).1
    refine ⟨[some (.dat (.tuple (encF f))), some (.dat (.tuple (encWs ws))), some (.dat (.tuple (encTs ts))), some (.own T.length), some (.dat (.int w.1)), some (.dat (.tuple [.int w.2.1, w.2.2])), some (.dat (encT t))], _, by simp [gTp, gCs, gNl, gNm, encW]; rfl, ?_⟩
    have nx := take_next hy
    have hl : ((encF (fall f ((ws.zip ts).take i))).map Vd.dat).length = f.length := by simp [encF, fall_len]
    rw [nx, fall_snoc]
    generalize fall f ((ws.zip ts).take i) = c at *
    have go : ∀ e : Cell, Ev (gSb (mVar 3) (mVar 4) (.one (.dat (enc e))) [some (.dat (.tuple (encF f))), some (.dat (.tuple (encWs ws))), some (.dat (.tuple (encTs ts))), some (.own T.length), some (.dat (.int w.1)), some (.dat (.tuple [.int w.2.1, w.2.2])), some (.dat (encT t))] (T ++ [some ((encF c).map Vd.dat)]))
        fun ρ' T' => ∃ ρ'', (Fl.nx ρ') = .nx ρ'' ∧ ∃ y1 y2 y3, ρ'' = [some (.dat (.tuple (encF f))), some (.dat (.tuple (encWs ws))), some (.dat (.tuple (encTs ts))), some (.own T.length), y1, y2, y3] ∧ T' = T ++ [some ((encF (c.set w.1.toNat e)).map Vd.dat)] := by
      intro e
      refine ⟨_, _, e_sb (xs := (encF c).map Vd.dat) (by simp) (by simp) (get_sn _ _) hw.1 (by rw [hl]; exact hw.2), _, rfl, _, _, _, rfl, ?_⟩
      rw [set_sn, encF_set, List.map_set]
    cases t with
    | old => exact p_ifF (by simp [enc_old]) (e_skip ⟨_, rfl, _, _, _, rfl, rfl⟩)
    | new => exact p_ifT (by simp [enc_old]) (e_asg (T' := T ++ [some ((encF c).map Vd.dat)]) (d := .dat (enc (some w.2))) (by simp [enc_new]; rfl) (go (some w.2)))
    | torn => exact p_ifT (by simp [enc_old]) (e_asg (T' := T ++ [some ((encF c).map Vd.dat)]) (d := .dat (enc none)) (by simp [enc_new]; rfl) (go none))
  · rintro ρ T' ⟨y1, y2, y3, rfl, rfl⟩
    rw [List.take_length]
    refine e_ret (T' := T ++ [some ((encF (fall f (ws.zip ts))).map Vd.dat)]) (d := .dat (.tuple (encF (fall f (ws.zip ts))))) ?_ ⟨rfl, Pre.snoc _ _⟩
    simp only [x_N, x_cons, x_nil, x_var, List.getElem?_cons_succ, List.getElem?_cons_zero, bd_ok]
    exact x_tupo (get_sn _ _)
theorem ev_law_fallen {T : Tab} {f : List Cell} {ws : List Wr} {ts : List Fate} (hr : InR f.length ws) {x y : Vd} (hx : itemsOf x T = some ((encF f).map Vd.dat)) (hy : itemsOf y T = some ((encWs ws).map Vd.dat)) :
    f_law_fallen [x, y, .dat (.tuple (encTs ts))] T = .ok (.own T.length) (T ++ [some ((encF (fall f (ws.zip ts))).map Vd.dat)]) := by
  refine Ev.eq (e_fn ?_)
  show Ev (m_law_fallen [some x, some y, some (.dat (.tuple (encTs ts))), none, none, none] T) _
  refine e_seq (e_set (T' := T ++ [some ((encF f).map Vd.dat)]) (d := .own T.length) (by simp [fListOfO, hx]) ?_)
  have z1 : ∀ o, itemsOf y (T ++ [o]) = some ((encWs ws).map Vd.dat) := fun o => (Pre.snoc T o).items hy
  have z2 : ∀ S, itemsOf (.dat (.tuple (encTs ts))) S = some ((encTs ts).map Vd.dat) := fun S => rfl
  refine e_seq (e_for (ws.zip ts) (fun q => .two (.dat (encW q.1)) (.dat (encT q.2))) (fun i ρ T' => ∃ y1 y2, ρ = [some x, some y, some (.dat (.tuple (encTs ts))), some (.own T.length), y1, y2] ∧
    T' = T ++ [some ((encF (fall f ((ws.zip ts).take i))).map Vd.dat)]) (T1 := T ++ [some ((encF f).map Vd.dat)]) (it := .zp y (.dat (.tuple (encTs ts)))) (by simp [mZip, hasItems, z1]; simp [itemsOf]) (by rw [fu_zp (z1 _) (z2 _), zip_enc]; simp)
    (fun i ρ T' hi h => ?_) ⟨none, none, rfl, rfl⟩ ?_ ?_)
  · obtain ⟨y1, y2, rfl, rfl⟩ := h
    rw [nw_zp (z1 _) (z2 _) (by rw [zip_enc]; simpa using hi), zip_enc, List.getElem?_map, Option.map_map]
    rfl
  · rintro i ⟨w, t⟩ ρ T' hy ⟨y1, y2, rfl, rfl⟩
    have hw : 0 ≤ w.1 ∧ w.1 < (f.length : Int) := hr w (List.of_mem_zip (List.mem_of_getElem? hy)).1
    refine ⟨[some x, some y, some (.dat (.tuple (encTs ts))), some (.own T.length), some (.dat (encW w)), some (.dat (encT t))], _, by simp [gTp, gCs, gNl, gNm]; rfl, ?_⟩
    have nx := take_next hy
    have hl : ((encF (fall f ((ws.zip ts).take i))).map Vd.dat).length = f.length := by simp [encF, fall_len]
    rw [nx, fall_snoc]
    generalize fall f ((ws.zip ts).take i) = c at *
    have go : ∀ e : Cell, Ev (gSb (mVar 3) (m2 fIx (mVar 4) (mC (.int 0))) (.one (.dat (enc e))) [some x, some y, some (.dat (.tuple (encTs ts))), some (.own T.length), some (.dat (encW w)), some (.dat (encT t))] (T ++ [some ((encF c).map Vd.dat)]))
        fun ρ' T' => ∃ ρ'', (Fl.nx ρ') = .nx ρ'' ∧ ∃ y1 y2, ρ'' = [some x, some y, some (.dat (.tuple (encTs ts))), some (.own T.length), y1, y2] ∧ T' = T ++ [some ((encF (c.set w.1.toNat e)).map Vd.dat)] := by
      intro e
      refine ⟨_, _, e_sb (xs := (encF c).map Vd.dat) (by simp) (by simp [encW]) (get_sn _ _) hw.1 (by rw [hl]; exact hw.2), _, rfl, _, _, rfl, ?_⟩
      rw [set_sn, encF_set, List.map_set]
    cases t with
    | old => exact p_ifF (by simp [enc_old]) (e_skip ⟨_, rfl, _, _, rfl, rfl⟩)
    | new => exact p_ifT (by simp [enc_old]) (e_asg (T' := T ++ [some ((encF c).map Vd.dat)]) (d := .dat (enc (some w.2))) (by simp [enc_new, encW]; rfl) (go (some w.2)))
    | torn => exact p_ifT (by simp [enc_old]) (e_asg (T' := T ++ [some ((encF c).map Vd.dat)]) (d := .dat (enc none)) (by simp [enc_new]; rfl) (go none))
  · rintro ρ T' ⟨y1, y2, rfl, rfl⟩
    rw [List.take_length]
    exact e_ret (T' := T ++ [some ((encF (fall f (ws.zip ts))).map Vd.dat)]) (d := .own T.length) (by simp) ⟨rfl, rfl⟩
end Hr
set_option Elab.async false
set_option linter.all false
set_option maxRecDepth 100000
set_option maxHeartbeats 4000000
namespace Hr
open PySem PySem.Spec PyProof.Rows L2
@[simp] theorem x_in {T : Tab} (neg : Bool) (d : PyData) (xs : List PyData) : fIn neg (.dat d) (.dat (.tuple xs)) T = if d.depth ≤ 60 then .ok (.dat (.bool (if neg then !(xs.any fun e => PyData.eqv e d) else xs.any fun e => PyData.eqv e d))) T else .bad := rfl
@[simp] theorem x_dep_s (x : Str) : (PyData.str x).depth = 0 := by simp [PyData.depth]
theorem x_repT {T : Tab} (xs : List PyData) (k : Int) : fRepT (.dat (.tuple xs)) (.dat (.int k)) T = if (!xs.isEmpty && decide (0 ≤ k ∧ k ≤ 1000 ∧ xs.length ≤ 1000)) = true then .ok (.dat (.tuple (List.replicate k.toNat xs).flatten)) T else .bad := rfl
theorem in_fates (t : Fate) : ([PyData.str "old", .str "new", .str "torn"].any fun e => PyData.eqv e (encT t)) = true := by
  cases t <;> simp [encT, Fate.s]
@[simp] theorem x_dep_t (t : Fate) : (encT t).depth = 0 := by simp [encT]
theorem x_is_sT {T : Tab} (t : Fate) : fIs "str" (.dat (encT t)) T = .ok (.dat (.bool true)) T := x_is_ss _
theorem ev_are_fates {T : Tab} (g : Good T) {ts : List Fate} (h : ts.length ≤ 100) : f_are_fates [.dat (.int ts.length), .dat (.tuple (encTs ts))] T = .ok (.dat (.bool true)) T := by
  refine ev_p g ?_
  have hl : (encTs ts).length = ts.length := by simp [encTs]
  refine e_seq (p_ifF (by simp [ev_is_long g, hl]) (e_skip ?_))
  have e := p_lc1s (ρ := [some (.dat (.int ts.length)), some (.dat (.tuple (encTs ts))), none]) (T := T) (m := mVar 1) (tt := mC (.bool true)) (el := mAnd (m1 (fIs "str") (mVar 2)) (m2 (fIn false) (mVar 2) (mN fTup (mCons (mC (.str "old")) (mCons (mC (.str "new")) (mCons (m2 fIx (mC (.tuple [.str "torn"])) (mC (.int 0))) (mNil))))))) (i := 2) ts
    (fun t => Vd.dat (encT t)) (fun _ => true) (fun _ => .bool true) g (x := .dat (.tuple (encTs ts))) rfl (by show some ((ts.map encT).map Vd.dat) = _; rw [List.map_map]; rfl) (by omega) fun t ht S gS _ => ⟨rfl, fun _ => by
      have := in_fates t
      simp [x_is_sT]
      simpa using this⟩
  rw [filt] at e
  exact p_rt (by simp [e, x_allm (fun _ => true)])
theorem ev_law_are_fates {T : Tab} (g : Good T) {ts : List Fate} (h : ts.length ≤ 100) : f_law_are_fates [.dat (.tuple (encTs ts)), .dat (.int ts.length)] T = .ok (.dat (.bool true)) T := by
  refine ev_p g ?_
  have hl : (encTs ts).length = ts.length := by simp [encTs]
  refine e_seq (p_ifF (by simp [hl]) (e_skip ?_))
  have e := p_lc1s (ρ := [some (.dat (.tuple (encTs ts))), some (.dat (.int ts.length)), none]) (T := T) (m := mVar 0) (tt := m2 (fIn true) (mVar 2) (mN fTup (mCons (mC (.str "old")) (mCons (mC (.str "new")) (mCons (mC (.str "torn")) (mNil)))))) (el := mC (.int 1)) (i := 2) ts
    (fun t => Vd.dat (encT t)) (fun _ => false) (fun _ => .int 1) g (x := .dat (.tuple (encTs ts))) rfl (by show some ((ts.map encT).map Vd.dat) = _; rw [List.map_map]; rfl) (by omega) fun t ht S gS _ => ⟨by
      cases t <;> simp [encT, Fate.s], fun q => by cases q⟩
  have e2 : (ts.filter fun _ => false).map (fun _ => PyData.int 1) = [] := by simp
  rw [e2] at e
  exact p_rt (by simp [e])
theorem fates_tp {ts : List Fate} (h : ts.length ≤ 100) : Tp 2 (.tuple (encTs ts)) := ⟨by simpa [encTs] using h, fun y hy => by
  obtain ⟨t, _, rfl⟩ := List.mem_map.mp hy
  trivial⟩
theorem ev_sure_words {T : Tab} (g : Good T) {ts : List Fate} (h : ts.length ≤ 100) {y : PyData} (hy : As (.tuple (encTs ts)) y) : f_sure_words [.dat y] T = .ok (.dat (.tuple (encTs ts))) T := by
  refine ev_p g ?_
  have e := as_tupled g hy (fates_tp h).up3.up3
  have e2 := ev_are_fates g h
  have hl : (encTs ts).length = ts.length := by simp [encTs]
  exact e_seq (p_set (d := .dat (.tuple (encTs ts))) (by simp [e]) (e_seq (p_ifF (by simp [hl, e2]) (e_skip (p_rt (by simp))))))
theorem ev_sure_answer {T : Tab} (g : Good T) {K d m : Int} (s : Sh K d m) {f : List Cell} (F : FaceOk K m f) {x y : PyData} (hx : As (fmD K d m) x) (hy : As (.tuple (encF f)) y) {p : Int} (hn : ans (wholes K d m f) (K * m) d = .int p) :
    f_sure_answer [.dat x, .dat y] T = .ok (.dat (.tuple [fmD K d m, .tuple (encF f), .int p])) T := by
  refine ev_p g ?_
  have e := ev_sure_both g s F hx hy
  have e2 := ev_answer_in g s F.len
  rw [hn] at e2
  refine e_seq (e_asg (T' := T) (d := .dat (.tuple [fmD K d m, .tuple (encF f)])) (by simp [e]) ⟨[some (.dat x), some (.dat y), some (.dat (fmD K d m)), some (.dat (.tuple (encF f))), none], T, by simp [gTp, gCs, gNl, gNm], ?_⟩)
  refine e_seq (p_set (d := .dat (.int p)) (by simp [e2]) ?_)
  exact e_seq (p_ifF (by simp) (e_skip (p_rt (by simp))))
section
variable {T : Tab} (g : Good T) {K d m : Int} (s : Sh K d m) {f : List Cell} (F : FaceOk K m f) {x y : PyData} (hx : As (fmD K d m) x) (hy : As (.tuple (encF f)) y) {p : Int} (hp : okA p) (hn : ans (wholes K d m f) (K * m) d = .int p)
theorem ev_mend_writes {T : Tab} (g : Good T) {K d m : Int} (s : Sh K d m) {f : List Cell} (F : FaceOk K m f) {x y : PyData} (hx : As (fmD K d m) x) (hy : As (.tuple (encF f)) y) {p : Int} (hp : okA p) (hn : ans (wholes K d m f) (K * m) d = .int p) :
    f_mend_writes [.dat x, .dat y] T = .ok (.dat (.tuple (encWs (wr K d m f p)))) T := by
  refine ev_p g ?_
  have e := ev_sure_answer g s F hx hy hn
  have e2 := ev_writes_at g s F.len hp
  refine e_seq (e_asg (T' := T) (d := .dat (.tuple [fmD K d m, .tuple (encF f), .int p])) (by simp [e]) ⟨[some (.dat x), some (.dat y), some (.dat (fmD K d m)), some (.dat (.tuple (encF f))), some (.dat (.int p))], T, by simp [gTp, gCs, gNl, gNm], ?_⟩)
  exact p_rt (by simp [e2])
theorem wr_in {K d m : Int} (s : Sh K d m) (f : List Cell) (hf : (f.length : Int) = K) (p : Int) : InR f.length (wr K d m f p) := by
  intro w hw
  obtain ⟨j, _, rfl⟩ := List.mem_map.mp hw
  have hK : 0 < K := by have := s.k1; omega
  exact ⟨Int.emod_nonneg _ (by omega), by rw [hf]; exact Int.emod_lt_of_pos _ hK⟩
theorem InR.take {n k : Nat} {ws : List Wr} (h : InR n ws) : InR n (ws.take k) := fun w hw => h w (List.mem_of_mem_take hw)
def news (n : Nat) : List Fate := List.replicate n .new
def mendF (f : List Cell) (ws : List Wr) : List Cell := fall f (ws.zip (news ws.length))
theorem ev_mended_in {T : Tab} (g : Good T) {K d m : Int} (s : Sh K d m) {f : List Cell} (F : FaceOk K m f) {p : Int} (hp : okA p) :
    f_mended_in [.dat (fmD K d m), .dat (.tuple (encF f)), .dat (.int p)] T = .ok (.dat (.tuple (encF (mendF f (wr K d m f p))))) T := by
  refine ev_p g ?_
  have e2 := ev_writes_at g s F.len hp
  have hl := wr_len s f p
  have e3 := ev_fallen g (ts := news (wr K d m f p).length) (wr_in s f F.len p)
  have e4 : fRepT (.dat (.tuple [.str "new"])) (.dat (.int (wr K d m f p).length)) T = .ok (.dat (.tuple (encTs (news (wr K d m f p).length)))) T := by
    have h1 : (List.replicate ((wr K d m f p).length : Int).toNat [PyData.str "new"]).flatten = encTs (news (wr K d m f p).length) := by
      rw [Int.toNat_natCast]
      unfold encTs news
      rw [List.map_replicate]
      generalize (wr K d m f p).length = n
      induction n with
      | zero => rfl
      | succ n ih => rw [List.replicate_succ, List.flatten_cons, ih, List.replicate_succ]; rfl
    rw [x_repT, if_pos (by simp; omega), h1]
  refine e_seq (p_set (d := .dat (.tuple (encWs (wr K d m f p)))) (by simp [e2]) ?_)
  have hle : (encWs (wr K d m f p)).length = (wr K d m f p).length := by simp [encWs]
  exact p_rt (by simp [hle, e4, e3]; rfl)
theorem ev_mended {T : Tab} (g : Good T) {K d m : Int} (s : Sh K d m) {f : List Cell} (F : FaceOk K m f) {x y : PyData} (hx : As (fmD K d m) x) (hy : As (.tuple (encF f)) y) {p : Int} (hp : okA p) (hn : ans (wholes K d m f) (K * m) d = .int p) :
    f_mended [.dat x, .dat y] T = .ok (.dat (.tuple (encF (mendF f (wr K d m f p))))) T := by
  refine ev_p g ?_
  have e := ev_sure_answer g s F hx hy hn
  have e2 := ev_mended_in g s F hp
  refine e_seq (e_asg (T' := T) (d := .dat (.tuple [fmD K d m, .tuple (encF f), .int p])) (by simp [e]) ⟨[some (.dat x), some (.dat y), some (.dat (fmD K d m)), some (.dat (.tuple (encF f))), some (.dat (.int p))], T, by simp [gTp, gCs, gNl, gNm], ?_⟩)
  exact p_rt (by simp [e2])
theorem encWs_take (ws : List Wr) (n : Nat) : (encWs ws).take n = encWs (ws.take n) := by simp [encWs, List.map_take]
theorem ev_partly {T : Tab} (g : Good T) {K d m : Int} (s : Sh K d m) {f : List Cell} (F : FaceOk K m f) {x y z : PyData} (hx : As (fmD K d m) x) (hy : As (.tuple (encF f)) y) {p : Int} (hp : okA p) (hn : ans (wholes K d m f) (K * m) d = .int p)
    {ts : List Fate} (hz : As (.tuple (encTs ts)) z) (ht : ts.length ≤ (wr K d m f p).length) :
    f_partly_mended [.dat x, .dat y, .dat (.int ts.length), .dat z] T = .ok (.dat (.tuple (encF (fall f (((wr K d m f p).take ts.length).zip ts))))) T := by
  have hl := wr_len s f p
  refine ev_p g ?_
  have e := ev_sure_answer g s F hx hy hn
  have e1 := ev_sure_both g s F hx hy
  have e2 := ev_writes_at g s F.len hp
  have e3 := ev_sure_words g (by omega) hz
  have e4 := ev_fallen g (ts := ts) ((wr_in s f F.len p).take (k := ts.length))
  have e5 := ev_is_from g (ts.length : Int) 0
  have hle : (encWs (wr K d m f p)).length = (wr K d m f p).length := by simp [encWs]
  have hlt : (encTs ts).length = ts.length := by simp [encTs]
  have h5 : ¬ ((wr K d m f p).length : Int) < ts.length := by omega
  refine e_seq (e_drop (T' := T) (d := .dat (.tuple [fmD K d m, .tuple (encF f)])) (by simp [e1]) ?_)
  refine e_seq (p_set (d := .dat (.tuple (encTs ts))) (by simp [e3]) ?_)
  refine e_seq (e_asg (T' := T) (d := .dat (.tuple [fmD K d m, .tuple (encF f), .int p])) (by simp [e])
    ⟨[some (.dat x), some (.dat y), some (.dat (.int ts.length)), some (.dat z), some (.dat (.tuple (encTs ts))), some (.dat (fmD K d m)), some (.dat (.tuple (encF f))), some (.dat (.int p)), none], T, by simp [gTp, gCs, gNl, gNm], ?_⟩)
  refine e_seq (p_set (d := .dat (.tuple (encWs (wr K d m f p)))) (by simp [e2]) ?_)
  refine e_seq (p_ifF (by simp [e5, hle, hlt, h5]) (e_skip ?_))
  have e6 : fSl (.dat (.tuple (encWs (wr K d m f p)))) none (some (ts.length : Int)) T = .ok (.dat (.tuple (encWs ((wr K d m f p).take ts.length)))) T := x_sl (by rw [cut_to, encWs_take])
  exact p_rt (by simp [mSl, mPart, e6, e4])
end
end Hr
set_option Elab.async false
set_option linter.all false
set_option maxRecDepth 100000
set_option maxHeartbeats 4000000
namespace Hr
open PySem PySem.Spec PyProof.Rows L2
/-! ### drawing -/
def Tin (T : Tab) (t : Nat) (B : Int) : Prop := ∃ a b c : Int, T[t]? = some (some [.dat (.int a), .dat (.int b), .dat (.int c)]) ∧ 0 ≤ a ∧ 0 ≤ b ∧ 0 ≤ c ∧ c ≤ B
def SameBut (t : Nat) (T T' : Tab) : Prop := T'.length = T.length ∧ ∀ k, k ≠ t → T'[k]? = T[k]?
theorem Tin.lt {T : Tab} {t : Nat} {B : Int} (h : Tin T t B) : t < T.length := by
  obtain ⟨a, b, c, e, _⟩ := h
  exact (List.getElem?_eq_some_iff.mp e).1
theorem Tin.up {T : Tab} {t : Nat} {B B' : Int} (h : Tin T t B) (h2 : B ≤ B') : Tin T t B' := by
  obtain ⟨a, b, c, e, h3, h4, h5, h6⟩ := h
  exact ⟨a, b, c, e, h3, h4, h5, by omega⟩
theorem SameBut.refl (t : Nat) (T : Tab) : SameBut t T T := ⟨rfl, fun _ _ => rfl⟩
theorem SameBut.trans {t : Nat} {T T' T'' : Tab} (a : SameBut t T T') (b : SameBut t T' T'') : SameBut t T T'' := ⟨b.1.trans a.1, fun k h => (b.2 k h).trans (a.2 k h)⟩
theorem SameBut.set (t : Nat) (T : Tab) (o : Option (List Vd)) : SameBut t T (T.set t o) := ⟨by simp, fun k h => by rw [List.getElem?_set_ne (Ne.symm h)]⟩
theorem SameBut.good {t : Nat} {T T' : Tab} {B : Int} (g : Good T) (s : SameBut t T T') (h : Tin T' t B) : Good T' := good_iff.mpr fun k xs hk e => by
  by_cases c : k = t
  · subst c
    obtain ⟨a, b, c, e2, _⟩ := h
    rw [e] at e2
    have := Option.some.inj (Option.some.inj e2)
    subst this
    rfl
  · rw [s.2 k c] at e
    have := g.get e
    rwa [s.1]
theorem SameBut.snoc {t : Nat} {S T' : Tab} {o : Option (List Vd)} (h : SameBut t (S ++ [o]) T') (ht : t < S.length) : ∃ S', T' = S' ++ [o] ∧ SameBut t S S' := by
  have hl : T'.length = S.length + 1 := by rw [h.1]; simp
  refine ⟨T'.take S.length, ?_, by simp [hl], fun k hk => ?_⟩
  · apply List.ext_getElem?
    intro k
    by_cases c : k < S.length
    · rw [List.getElem?_append_left (by simp [hl]; omega), List.getElem?_take_of_lt c]
    · by_cases c2 : k = S.length
      · subst c2
        rw [h.2 _ (by omega)]
        simp [hl]
      · rw [List.getElem?_eq_none (by omega), List.getElem?_eq_none (by simp; omega)]
  · by_cases c : k < S.length
    · rw [List.getElem?_take_of_lt c, h.2 k hk, List.getElem?_append_left c]
    · rw [List.getElem?_eq_none (by simp; omega), List.getElem?_eq_none (by omega)]
theorem Tin.front {t : Nat} {S : Tab} {o : Option (List Vd)} {B : Int} (h : Tin (S ++ [o]) t B) (ht : t < S.length) : Tin S t B := by
  obtain ⟨a, b, c, e, q⟩ := h
  rw [List.getElem?_append_left ht] at e
  exact ⟨a, b, c, e, q⟩
theorem Tin.snoc {t : Nat} {S : Tab} {B : Int} (h : Tin S t B) (o : Option (List Vd)) : Tin (S ++ [o]) t B := by
  obtain ⟨a, b, c, e, q⟩ := h
  exact ⟨a, b, c, (Pre.snoc S o).get e, q⟩
/-- the draw went on: k draws more at most -/
structure Dr (t : Nat) (T : Tab) (B : Int) (T' : Tab) : Prop where
  same : SameBut t T T'
  tin : Tin T' t B
theorem Dr.good {t : Nat} {T T' : Tab} {B : Int} (h : Dr t T B T') (g : Good T) : Good T' := h.same.good g h.tin
theorem Dr.trans {t : Nat} {T T' T'' : Tab} {B B' : Int} (a : Dr t T B T') (b : Dr t T' B' T'') : Dr t T B' T'' := ⟨a.same.trans b.same, b.tin⟩
theorem Good.take_self {T : Tab} {n : Nat} (h : T.length = n) : T.take n = T := by
  subst h
  exact List.take_length
theorem ev_drawn {ds : List Vd} {T : Tab} {n : Nat} {m : MS} {Q : PyData → Tab → Prop} {t : Nat} {ρ : Rho} (g : Good T) (h : Ev (m ρ T) fun fl T' => ∃ d B, fl = .rt (.dat d) ∧ Dr t T B T' ∧ Q d T')
    (hρ : ds.map some ++ List.replicate (n - ds.length) none = ρ := by (simp only [List.map_cons, List.map_nil, List.length_cons, List.length_nil, List.cons_append, List.nil_append, Nat.reduceAdd, Nat.reduceSub, Nat.zero_add, List.reduceReplicate]) <;> rfl) :
    ∃ d T', fCut (mFn n m) ds T = .ok (.dat d) T' ∧ Q d T' := by
  subst hρ
  have := e_cut (f := mFn n m) (T := T) (ds := ds) (Q := fun d' T' => ∃ d, d' = .dat d ∧ Q d T') (e_fn (h.imp fun fl T' q => by
    obtain ⟨d, B, rfl, dr, q⟩ := q
    have gT' := dr.good g
    refine ⟨?_, rfl, d, rfl, ?_⟩
    · have := gT'
      unfold Good at this
      rwa [dr.same.1] at this
    · rwa [Good.take_self dr.same.1]))
  obtain ⟨d', T', e, d, rfl, q⟩ := this
  exact ⟨d, T', e, q⟩
theorem ev_take {T : Tab} (g : Good T) {t : Nat} {B : Int} (h : Tin T t B) (hB : B < 2 ^ 60) {n : Int} (n0 : 0 < n) (n1 : n < 1073741824) :
    ∃ v T', f_law_take [.own t, .dat (.int n)] T = .ok (.dat (.int v)) T' ∧ 0 ≤ v ∧ v < n ∧ Dr t T (B + 1) T' := by
  have ht := h.lt
  obtain ⟨a, b, c, e, ha, hb, hc, hcB⟩ := h
  have i0 : fIx (.own t) (.dat (.int 0)) T = .ok (.dat (.int a)) T := x_ixown e (by decide) rfl
  have i1 : ∀ S : Tab, S[t]? = some (some [.dat (.int a), .dat (.int b), .dat (.int (c + 1))]) → fIx (.own t) (.dat (.int 1)) S = .ok (.dat (.int b)) S := fun S e => x_ixown e (by decide) rfl
  have i2 : fIx (.own t) (.dat (.int 2)) T = .ok (.dat (.int c)) T := x_ixown e (by decide) rfl
  have main := ev_drawn (ρ := [some (.own t), some (.dat (.int n)), none, none, none, none]) (n := 6) (m := m_law_take) (ds := [.own t, .dat (.int n)]) (t := t) (Q := fun d T' => ∃ v, d = .int v ∧ 0 ≤ v ∧ v < n ∧ Dr t T (B + 1) T') g (by
    by_cases c0 : 0 < a
    · refine e_seq (e_ifT (T' := T) (by simp [i0, c0]) ?_)
      refine e_seq (p_set (d := .dat (.int (a % n))) (by simp [i0, n0]) ?_)
      have dr : Dr t T (B + 1) (T.set t (some [.dat (.int (a / n)), .dat (.int b), .dat (.int c)])) := ⟨SameBut.set _ _ _, a / n, b, c, by rw [List.getElem?_set_self ht], Int.ediv_nonneg ha (by omega), hb, hc, by omega⟩
      refine e_seq (e_asg (T' := T) (d := .dat (.int (a / n))) (by simp [i0, n0, n1]) ⟨_, _, e_sb (j := 0) (xs := [.dat (.int a), .dat (.int b), .dat (.int c)]) (by simp) (by simp) e (by decide) (by simp), ?_⟩)
      refine e_ret (T' := T.set t (some [.dat (.int (a / n)), .dat (.int b), .dat (.int c)])) (d := .dat (.int (a % n))) (by simp) ?_
      exact ⟨_, B + 1, rfl, dr, _, rfl, Int.emod_nonneg _ (by omega), Int.emod_lt_of_pos _ n0, dr⟩
    · refine e_seq (e_ifF (T' := T) (by simp [i0, c0]) (e_skip ?_))
      have dr : Dr t T (B + 1) (T.set t (some [.dat (.int a), .dat (.int b), .dat (.int (c + 1))])) := ⟨SameBut.set _ _ _, a, b, c + 1, by rw [List.getElem?_set_self ht], ha, hb, by omega, by omega⟩
      refine e_seq (e_asg (T' := T) (d := .dat (.int (c + 1))) (by simp [i2]) ⟨_, _, e_sb (j := 2) (xs := [.dat (.int a), .dat (.int b), .dat (.int c)]) (by simp) (by simp) e (by decide) (by simp), ?_⟩)
      show Ev _ _
      have eS : (T.set t (some [.dat (.int a), .dat (.int b), .dat (.int (c + 1))]))[t]? = some (some [.dat (.int a), .dat (.int b), .dat (.int (c + 1))]) := by rw [List.getElem?_set_self ht]
      have hset : ([Vd.dat (.int a), .dat (.int b), .dat (.int c)].set (2 : Int).toNat (.dat (.int (c + 1)))) = [.dat (.int a), .dat (.int b), .dat (.int (c + 1))] := rfl
      rw [hset]
      generalize T.set t (some [.dat (.int a), .dat (.int b), .dat (.int (c + 1))]) = S at *
      have j1 := i1 S eS
      have j2 : fIx (.own t) (.dat (.int 2)) S = .ok (.dat (.int (c + 1))) S := x_ixown eS (by decide) rfl
      have k1 : cMul (b + 48271 * (c + 1)) (39373 + (c + 1)) = true := cMul_r (by omega)
      have k2 : cMul 48271 (c + 1) = true := cMul_l (by omega)
      generalize hA : (b + 48271 * (c + 1)) * (39373 + (c + 1)) % 2147483647 = A
      refine e_seq (p_set (d := .dat (.int A)) (by simp [j1, j2, k1, k2]; exact hA) ?_)
      generalize hW : A % 40009 + 7 = W
      have hW2 : 0 ≤ W ∧ W < 50000 := by
        have := Int.emod_nonneg A (by decide : (40009 : Int) ≠ 0)
        have := Int.emod_lt_of_pos A (by decide : (0 : Int) < 40009)
        omega
      refine e_seq (p_set (d := .dat (.int W)) (by simp; exact hW) ?_)
      have k3 : cMul (A + (c + 1) + b / 1000003) W = true := cMul_r (by omega)
      generalize hU : (A + (c + 1) + b / 1000003) * W % 2147483629 = U
      refine e_seq (p_set (d := .dat (.int U)) (by simp [j1, j2, k3]; exact hU) ?_)
      have k4 : cMul U 48271 = true := cMul_r (by omega)
      refine e_ret (T' := S) (d := .dat (.int ((U * 48271 + A) % 2147483587 / 64 % n))) (by simp [k4, n0]) ?_
      exact ⟨_, B + 1, rfl, dr, _, rfl, Int.emod_nonneg _ (by omega), Int.emod_lt_of_pos _ n0, dr⟩)
  obtain ⟨d, T', e, v, rfl, q⟩ := main
  exact ⟨v, T', e, q⟩
theorem ev_of {T : Tab} (g : Good T) {t : Nat} {B : Int} (h : Tin T t B) (hB : B < 2 ^ 60) {xs : List PyData} (h0 : xs ≠ []) (h1 : xs.length < 100) :
    ∃ v T', f_law_of [.own t, .dat (.list xs)] T = .ok (.dat v) T' ∧ v ∈ xs ∧ Dr t T (B + 1) T' := by
  have hl : 0 < xs.length := List.length_pos_iff.mpr h0
  obtain ⟨v, T', e, v0, v1, dr⟩ := ev_take g h hB (n := xs.length) (by omega) (by omega)
  have hv : xs[v.toNat]? = some xs[v.toNat] := List.getElem?_eq_getElem (by omega)
  have hx : fIx (.dat (.list xs)) (.dat (.int v)) T' = .ok (.dat xs[v.toNat]) T' := x_ixn_l v0 hv
  obtain ⟨d, T2, e2, q⟩ := ev_drawn (ρ := [some (.own t), some (.dat (.list xs))]) (n := 2) (m := m_law_of) (ds := [.own t, .dat (.list xs)]) (t := t) (Q := fun d T2 => d = xs[v.toNat] ∧ Dr t T (B + 1) T2) g (by
    exact e_ret (T' := T') (d := .dat xs[v.toNat]) (by simp [e, hx]) ⟨_, B + 1, rfl, dr, rfl, dr⟩)
  obtain ⟨rfl, dr2⟩ := q
  exact ⟨_, T2, e2, List.getElem_mem _, dr2⟩
/-- the list of a comprehension, and the draws behind it -/
theorem lc_dr {α : Type} {ρ : Rho} {T : Tab} {it : Itv} {bnd : Xt → Rho → Option Rho} {el : ME} {t : Nat} (P : PyData → Prop) (ys : List α) (enc : α → Xt) (g : Good T) (B : Int) (hz : ys.length ≤ 100000) (ht : Tin T t B)
    (hi : ∀ i S, i ≤ ys.length → nextOf it i S = some ((ys[i]?).map enc))
    (hs : ∀ (i : Nat) y S, ys[i]? = some y → Good S → Tin S t (B + i) → ∃ ρ1, bnd (enc y) ρ = some ρ1 ∧ ∃ v T', el ρ1 S = .ok (.dat v) T' ∧ P v ∧ Dr t S (B + (i + 1 : Nat)) T') :
    ∃ vs T', lcl it bnd (mC (.bool true)) el T.length ys.length 0 ρ (T ++ [some []]) = .ok (.dat (.list vs)) T' ∧ vs.length = ys.length ∧ (∀ v ∈ vs, P v) ∧ Dr t T (B + (ys.length : Nat)) T' := by
  have htl := ht.lt
  have go : ∀ n i S (acc : List PyData), i + n = ys.length → acc.length = i → (∀ v ∈ acc, P v) → Dr t T (B + (i : Nat)) S →
      ∃ vs T', lcl it bnd (mC (.bool true)) el T.length n i ρ (S ++ [some (acc.map Vd.dat)]) = .ok (.dat (.list vs)) T' ∧ vs.length = ys.length ∧ (∀ v ∈ vs, P v) ∧ Dr t T (B + (ys.length : Nat)) T' := by
    intro n
    induction n with
    | zero =>
      intro i S acc e ha hp dr
      have hl : S.length = T.length := dr.same.1
      have hn : nextOf it i (S ++ [some (acc.map Vd.dat)]) = some none := by rw [hi i _ (by omega), List.getElem?_eq_none (by omega)]; rfl
      have ei : i = ys.length := by omega
      subst ei
      refine ⟨acc, S, ?_, ha, hp, dr⟩
      unfold lcl
      simp only [hn]
      unfold lcEnd
      rw [← hl]
      simp [dats_map, closed_snoc (dr.good g)]
    | succ n ih =>
      intro i S acc e ha hp dr
      have hl : S.length = T.length := dr.same.1
      have hlt : i < ys.length := by omega
      have hn : nextOf it i (S ++ [some (acc.map Vd.dat)]) = some (some (enc ys[i])) := by rw [hi i _ (by omega), List.getElem?_eq_getElem hlt]; rfl
      obtain ⟨ρ1, h1, v, T', h2, hv, dr2⟩ := hs i ys[i] (S ++ [some (acc.map Vd.dat)]) (List.getElem?_eq_getElem hlt) ((dr.good g).snocD acc) (dr.tin.snoc _)
      obtain ⟨S', rfl, sb⟩ := dr2.same.snoc (by omega)
      have dr3 : Dr t T (B + (i + 1 : Nat)) S' := ⟨dr.same.trans sb, dr2.tin.front (by rw [sb.1]; omega)⟩
      have hl2 : S'.length = T.length := dr3.same.1
      have h3 := ih (i + 1) S' (acc ++ [v]) (by omega) (by simp [ha]) (fun u hu => by
        rcases List.mem_append.mp hu with q | q
        · exact hp u q
        · have : u = v := by simpa using q
          rw [this]
          exact hv) dr3
      unfold lcl
      simp only [hn]
      unfold lcStep
      simp only [h1, x_C, ne_ok, bd_ok]
      unfold lcEl
      simp only [h2, ne_ok, bd_ok]
      unfold lcPut
      have e1 : (S' ++ [some (acc.map Vd.dat)])[T.length]? = some (some (acc.map Vd.dat)) := by rw [← hl2]; simp
      have e2 : (S' ++ [some (acc.map Vd.dat)]).set T.length (some (acc.map Vd.dat ++ [Vd.dat v])) = S' ++ [some ((acc ++ [v]).map Vd.dat)] := by rw [← hl2]; simp
      simp only [e1, e2]
      rw [if_pos (by simp; omega)]
      exact h3
  exact go ys.length 0 T [] (by omega) rfl (fun v h => by cases h) ⟨SameBut.refl _ _, ht.up (by omega)⟩
end Hr
set_option Elab.async false
set_option linter.all false
set_option maxRecDepth 100000
set_option maxHeartbeats 4000000
namespace Hr
open PySem PySem.Spec PyProof.Rows L2
theorem as_fates {vs : List PyData} (h : ∀ v ∈ vs, ∃ t, v = encT t) : ∃ ts : List Fate, vs = encTs ts := by
  induction vs with
  | nil => exact ⟨[], rfl⟩
  | cons v vs ih =>
    obtain ⟨t, rfl⟩ := h v (by simp)
    obtain ⟨ts, rfl⟩ := ih fun u hu => h u (by simp [hu])
    exact ⟨t :: ts, rfl⟩
/-- n drawn signs, out of a list of signs -/
theorem lc_fates {ρ : Rho} {T : Tab} (g : Good T) {t : Nat} {B : Int} (h : Tin T t B) {n : Int} (n0 : 0 ≤ n) (n1 : n ≤ 1000) {i : Nat} {mi : MI} {el : ME} (hm : mi ρ T = .ok (.rng 0 n.toNat) T)
    (hs : ∀ (y : Int) S (k : Nat), Good S → Tin S t (B + k) → 0 ≤ y → y < n → k < n.toNat → ∃ f T', el ((ρ.set i none).set i (some (.dat (.int y)))) S = .ok (.dat (encT f)) T' ∧ Dr t S (B + (k + 1 : Nat)) T') :
    ∃ ts T', mN fTupleOf (mCons (mLc1 mi i (mC (.bool true)) el) mNil) ρ T = .ok (.dat (.tuple (encTs ts))) T' ∧ (ts.length : Int) = n ∧ Dr t T (B + n) T' := by
  obtain ⟨vs, T', e, hl, hv, dr⟩ := lc_dr (ρ := ρ.set i none) (T := T) (it := .rng 0 n.toNat) (bnd := bnd1 i) (el := el) (t := t) (fun v => ∃ f, v = encT f) (nums n.toNat) (fun y => .one (.dat (.int y))) g B (by simp [nums]; omega) h (fun k S _ => nw_rng k) fun k y S hy gS tS => by
    obtain ⟨ey, hk⟩ := nums_get hy
    obtain ⟨f, T', e, dr⟩ := hs y S k gS tS (by omega) (by omega) hk
    exact ⟨_, rfl, _, T', e, ⟨f, rfl⟩, dr⟩
  obtain ⟨ts, rfl⟩ := as_fates hv
  have hn : (nums n.toNat).length = n.toNat := by simp [nums]
  rw [hn] at hl dr e
  have hl2 : ts.length = n.toNat := by simpa [encTs] using hl
  refine ⟨ts, T', ?_, by omega, ⟨dr.same, dr.tin.up (by omega)⟩⟩
  have e2 : mLc1 mi i (mC (.bool true)) el ρ T = .ok (.dat (.list (encTs ts))) T' := by
    unfold mLc1
    rw [hm, bd_ok]
    exact e
  simp [e2]
theorem fate_mem {v : PyData} (h : v ∈ [PyData.str "old", .str "new", .str "torn"]) : ∃ t, v = encT t := by
  simp at h
  rcases h with rfl | rfl | rfl
  · exact ⟨.old, rfl⟩
  · exact ⟨.new, rfl⟩
  · exact ⟨.torn, rfl⟩
theorem ev_fates {T : Tab} (g : Good T) {t : Nat} {B : Int} (h : Tin T t B) (hB : B + 1000 < 2 ^ 60) {n : Int} (n0 : 0 ≤ n) (n1 : n ≤ 100) :
    ∃ ts T', f_law_fates [.own t, .dat (.int n)] T = .ok (.dat (.tuple (encTs ts))) T' ∧ (ts.length : Int) = n ∧ Dr t T (B + n) T' := by
  obtain ⟨ts, T', e, hl, dr⟩ := lc_fates (ρ := [some (.own t), some (.dat (.int n)), none]) (i := 2) (mi := mRng1 (mCons (mVar 1) (mNil))) (el := mN (fCall 2 f_law_of) (mCons (mVar 0) (mCons (mN fLst (mCons (mC (.str "old")) (mCons (mC (.str "new")) (mCons (mC (.str "torn")) (mNil))))) (mNil))))
    g h n0 (by omega) (x_rng1 (by simp) (by omega)) fun y S k gS tS y0 y1 hk => by
      obtain ⟨v, T', e, hv, dr⟩ := ev_of gS tS (by omega) (xs := [.str "old", .str "new", .str "torn"]) (by simp) (by simp)
      obtain ⟨f, rfl⟩ := fate_mem hv
      exact ⟨f, T', by simp [e], ⟨dr.same, dr.tin.up (by omega)⟩⟩
  obtain ⟨d, T2, e2, rfl, dr2⟩ := ev_drawn (ρ := [some (.own t), some (.dat (.int n)), none]) (n := 3) (m := m_law_fates) (ds := [.own t, .dat (.int n)]) (t := t) (Q := fun d T2 => d = .tuple (encTs ts) ∧ Dr t T (B + n) T2) g (by
    exact e_ret (T' := T') (d := .dat (.tuple (encTs ts))) e ⟨_, B + n, rfl, dr, rfl, dr⟩)
  exact ⟨ts, T2, e2, hl, dr2⟩
theorem ev_note {T : Tab} (g : Good T) {t : Nat} {B : Int} (h : Tin T t B) (hB : B + 1000 < 2 ^ 60) : ∃ r T', f_law_note [.own t] T = .ok (.dat r) T' ∧ Note r ∧ Dr t T (B + 4) T' := by
  obtain ⟨v, T1, e1, v0, v1, d1⟩ := ev_take g h (by omega) (n := 4) (by decide) (by decide)
  have g1 := d1.good g
  obtain ⟨d, T2, e2, q⟩ := ev_drawn (ρ := [some (.own t), none, none, none]) (n := 4) (m := m_law_note) (ds := [.own t]) (t := t) (Q := fun d T2 => Note d ∧ Dr t T (B + 4) T2) g (by
    refine e_seq (e_set (T' := T1) (d := .dat (.int v)) (by simp [e1]) ?_)
    by_cases c : v = 0
    · refine e_seq (e_ifT (T' := T1) (by simp [c]) (e_ret (T' := T1) (d := .dat blankD) (x_blank g1) ?_))
      have dr : Dr t T (B + 4) T1 := ⟨d1.same, d1.tin.up (by omega)⟩
      exact ⟨_, B + 4, rfl, dr, .blank, dr⟩
    · refine e_seq (e_ifF (T' := T1) (by simp [c]) (e_skip ?_))
      obtain ⟨k, T2, e2, hk, d2⟩ := ev_of g1 d1.tin (by omega) (xs := [.str "a", .str "b", .str "c7", .str "@a"]) (by simp) (by simp)
      have g2 := d2.good g1
      obtain ⟨l, T3, e3, hl, d3⟩ := ev_of g2 d2.tin (by omega) (xs := [.int 0, .int 0, .int 0, .int 1]) (by simp) (by simp)
      have g3 := d3.good g2
      have hk2 : ∃ s, k = .str s ∧ Key s := by
        simp at hk
        rcases hk with rfl | rfl | rfl | rfl
        · exact ⟨_, rfl, .inl rfl⟩
        · exact ⟨_, rfl, .inr (.inl rfl)⟩
        · exact ⟨_, rfl, .inr (.inr (.inl rfl))⟩
        · exact ⟨_, rfl, .inr (.inr (.inr rfl))⟩
      have hl2 : ∃ z, l = .int z ∧ 0 ≤ z := by
        simp at hl
        rcases hl with rfl | rfl
        · exact ⟨_, rfl, by decide⟩
        · exact ⟨_, rfl, by decide⟩
      obtain ⟨s, rfl, hk3⟩ := hk2
      obtain ⟨z, rfl, hz⟩ := hl2
      refine e_seq (e_set (T' := T2) (d := .dat (.str s)) (by simp [e2]) ?_)
      refine e_seq (e_set (T' := T3) (d := .dat (.int z)) (by simp [e3]) ?_)
      by_cases c1 : v = 1
      · have dr : Dr t T (B + 4) T3 := ⟨(d1.trans (d2.trans d3)).same, d3.tin.up (by omega)⟩
        exact e_ret (T' := T3) (d := .dat (.tuple [.str "drop", .str s, .int 0, .int z])) (by simp [c1]) ⟨_, B + 4, rfl, dr, .drop hk3 hz, dr⟩
      · obtain ⟨w, T4, e4, hw, d4⟩ := ev_of g3 d3.tin (by omega) (xs := [.str "x", .str "yy", .str "0"]) (by simp) (by simp)
        have hw2 : ∃ s, w = .str s ∧ Wd s := by
          simp at hw
          rcases hw with rfl | rfl | rfl
          · exact ⟨_, rfl, .inl rfl⟩
          · exact ⟨_, rfl, .inr (.inl rfl)⟩
          · exact ⟨_, rfl, .inr (.inr rfl)⟩
        obtain ⟨w, rfl, hw3⟩ := hw2
        have dr : Dr t T (B + 4) T4 := ⟨(d1.trans (d2.trans (d3.trans d4))).same, d4.tin.up (by omega)⟩
        exact e_ret (T' := T4) (d := .dat (.tuple [.str "put", .str s, .str w, .int 0, .int z])) (by simp [c1, e4]) ⟨_, B + 4, rfl, dr, .put hk3 hw3 hz, dr⟩)
  exact ⟨d, T2, e2, q⟩
theorem ev_safe_form {T : Tab} (g : Good T) {t : Nat} {B : Int} (h : Tin T t B) (hB : B + 1000 < 2 ^ 60) : ∃ K d m T', f_law_safe_form [.own t, .dat (.int 7)] T = .ok (.dat (fmD K d m)) T' ∧ Sh K d m ∧ Dr t T (B + 3) T' := by
  obtain ⟨a, T1, e1, a0, a1, d1⟩ := ev_take g h (by omega) (n := 5) (by decide) (by decide)
  have g1 := d1.good g
  obtain ⟨b, T2, e2, b0, b1, d2⟩ := ev_take g1 d1.tin (by omega) (n := 2) (by decide) (by decide)
  have g2 := d2.good g1
  obtain ⟨c, T3, e3, c0, c1, d3⟩ := ev_take g2 d2.tin (by omega) (n := 3) (by decide) (by decide)
  have dr : Dr t T (B + 3) T3 := ⟨(d1.trans (d2.trans d3)).same, d3.tin.up (by omega)⟩
  obtain ⟨d, T4, e4, K, d', m, rfl, q⟩ := ev_drawn (ρ := [some (.own t), some (.dat (.int 7)), none, none, none]) (n := 5) (m := m_law_safe_form) (ds := [.own t, .dat (.int 7)]) (t := t) (Q := fun d T2 => ∃ K d' m, d = fmD K d' m ∧ Sh K d' m ∧ Dr t T (B + 3) T2) g (by
    refine e_seq (e_set (T' := T1) (d := .dat (.int (3 + a))) (by simp [e1]) ?_)
    refine e_seq (e_set (T' := T2) (d := .dat (.int (2 + b))) (by simp [e2]) ?_)
    by_cases q : b = 0
    · subst q
      have k1 : cMul 2 (3 + a) = true := cMul_l (by omega)
      refine e_seq (p_set (d := .dat (.int ((2 * (3 + a) - 1) / 3))) (by simp [k1]) ?_)
      refine e_ret (T' := T3) (d := .dat (fmD (3 + a) (if (2 * (3 + a) - 1) / 3 - c > 1 then (2 * (3 + a) - 1) / 3 - c else 1) (2 + 0))) (by simp [e3, fMax]) ?_
      exact ⟨_, B + 3, rfl, dr, _, _, _, rfl, ⟨by omega, by omega, by split <;> omega, by split <;> omega, by omega, by omega, by split <;> omega⟩, dr⟩
    · have q1 : b = 1 := by omega
      subst q1
      refine e_seq (p_set (d := .dat (.int (3 + a - 1))) (by simp) ?_)
      refine e_ret (T' := T3) (d := .dat (fmD (3 + a) (if 3 + a - 1 - c > 1 then 3 + a - 1 - c else 1) (2 + 1))) (by simp [e3, fMax]) ?_
      exact ⟨_, B + 3, rfl, dr, _, _, _, rfl, ⟨by omega, by omega, by split <;> omega, by split <;> omega, by omega, by omega, by split <;> omega⟩, dr⟩)
  exact ⟨K, d', m, T4, e4, q⟩
end Hr
set_option Elab.async false
set_option linter.all false
set_option maxRecDepth 100000
set_option maxHeartbeats 4000000
namespace Hr
open PySem PySem.Spec PyProof.Rows L2
theorem Pre.set {T S : Tab} (h : Pre T S) {k : Nat} (hk : T.length ≤ k) (o : Option (List Vd)) : Pre T (S.set k o) := by
  obtain ⟨R, rfl⟩ := h
  exact ⟨R.set (k - T.length) o, by rw [List.set_append_right _ _ hk]⟩
theorem cut_len {α : Type} (xs : List α) (l h : Option Int) : (cutG xs l h).length ≤ xs.length := by
  unfold cutG
  simp
  omega
theorem ev_cells {T : Tab} (g : Good T) (ns : List Int) (hn : ns.length ≤ 63) : ∃ z, f_law_cells [.scr ns, .dat (.int 1)] T = .ok (.dat (.list [.int z])) T := by
  have main : Ev (f_law_cells [.scr ns, .dat (.int 1)] T) fun d T' => ∃ z, d = .dat (.list [.int z]) ∧ T' = T := by
    refine e_frz (e_fn ?_)
    show Ev (m_law_cells [some (.scr ns), some (.dat (.int 1)), none, none, none, none] T) _
    have go : ∀ (k : Nat) (S : Tab) (z : Int), Pre T S → T.length ≤ k → S[k]? = some (some [.dat (.int z)]) →
        mOrL (mN fListOfO (mCons (mSl (mVar 0) none (some (mVar 1))) (mNil))) (mN fLstO (mCons (mC (.int 0)) (mNil))) [some (.scr ns), some (.dat (.int 1)), none, none, none, none] T = .ok (.own k) S →
        Ev (m_law_cells [some (.scr ns), some (.dat (.int 1)), none, none, none, none] T) fun fl T' => match fl with
          | .rt d => ∃ k xs, d = .own k ∧ T.length ≤ k ∧ T'[k]? = some (some (xs.map Vd.dat)) ∧ closed T.length T' = true ∧ ∃ z, Vd.dat (.list xs) = .dat (.list [.int z]) ∧ T'.take T.length = T
          | .nx _ => ∃ k xs, Vd.dat .none = .own k ∧ T.length ≤ k ∧ T'[k]? = some (some (xs.map Vd.dat)) ∧ closed T.length T' = true ∧ ∃ z, Vd.dat (.list xs) = .dat (.list [.int z]) ∧ T'.take T.length = T := by
      intro k S z pS hk hS e
      refine e_seq (e_set (T' := S) (d := .own k) e ?_)
      generalize hzs : cutG ns (some 1) (some 63) = zs
      have hzl : zs.length ≤ 63 := by rw [← hzs]; exact Nat.le_trans (cut_len _ _ _) hn
      have hit : ∀ S, itemsOf (.dat (.list (inz zs))) S = some ((inz zs).map Vd.dat) := fun S => rfl
      refine e_seq (e_for zs.zipIdx (fun y => .two (.dat (.int (y.2 : Nat))) (.dat (.int y.1))) (fun i ρ T' => ∃ y1 y2 y3 z, ρ = [some (.scr ns), some (.dat (.int 1)), some (.own k), y1, y2, y3] ∧ Pre T T' ∧ T'[k]? = some (some [.dat (.int z)]))
        (T1 := S) (it := .en (.dat (.list (inz zs)))) (by simp [mEnum, mSl, mPart, fSl, hzs, hasItems, itemsOf, inz]) (by rw [fu_en (hit _)]; simp [inz]) (fun i ρ T' hi _ => ?_) ⟨none, none, none, z, rfl, pS, hS⟩ ?_ ?_)
      · rw [nw_en (hit _) (by simpa [inz] using hi)]
        unfold inz
        rw [List.map_map, List.zipIdx_map, List.getElem?_map, Option.map_map]
        rfl
      · rintro i ⟨y, j⟩ ρ T' hy ⟨y1, y2, y3, z, rfl, pT, hT⟩
        obtain ⟨hlt, ey⟩ := List.getElem?_eq_some_iff.mp hy
        rw [List.length_zipIdx] at hlt
        rw [List.getElem_zipIdx] at ey
        have ej : j = i := by have := congrArg Prod.snd ey; simp at this; omega
        refine ⟨_, _, rfl, ?_⟩
        refine e_seq (p_set (d := .dat (.int 0)) (by simp) ?_)
        have e0 : fIx (.own k) (.dat (.int 0)) T' = .ok (.dat (.int z)) T' := x_ixown hT (by decide) rfl
        have k1 : cMul y ((j : Int) + 2) = true := cMul_r (by omega)
        refine e_asg (T' := T') (d := .dat (.int (z + y * ((j : Int) + 2)))) (by simp [e0, k1]) ⟨_, _, e_sb (j := 0) (xs := [.dat (.int z)]) (by simp) (by simp) hT (by decide) (by simp), ?_⟩
        refine ⟨_, rfl, _, _, _, z + y * ((j : Int) + 2), rfl, pT.set hk _, ?_⟩
        rw [List.getElem?_set_self (List.getElem?_eq_some_iff.mp hT).1]
        rfl
      · rintro ρ T' ⟨y1, y2, y3, z, rfl, pT, hT⟩
        refine e_ret (T' := T') (d := .own k) (by simp) ?_
        exact ⟨k, [.int z], rfl, hk, hT, pT.closed g, z, rfl, pT.take⟩
    cases ns with
    | nil =>
      refine go (T.length + 1) (T ++ [some []] ++ [some [.dat (.int 0)]]) 0 ((Pre.snoc _ _).trans (Pre.snoc _ _)) (by omega) (by simp) ?_
      simp [mOrL, mSl, mPart, fSl, cutG, fListOfO, itemsOf, fLstO]
    | cons a r =>
      refine go T.length (T ++ [some [.dat (.int a)]]) a (Pre.snoc _ _) (Nat.le_refl _) (by simp) ?_
      have : cutG (a :: r) none (some 1) = [a] := by rw [cut_to1]; rfl
      simp [mOrL, mSl, mPart, fSl, this, fListOfO, itemsOf]
  obtain ⟨d, T', e, z, rfl, rfl⟩ := main
  exact ⟨z, e⟩
theorem ev_box {T : Tab} (z : Int) : ∃ a b : Int, f_law_box [.dat (.list [.int z]), .dat (.int 0)] T = .ok (.own T.length) (T ++ [some [.dat (.int a), .dat (.int b), .dat (.int 0)]]) ∧ 0 ≤ a ∧ 0 ≤ b := by
  have main : Ev (f_law_box [.dat (.list [.int z]), .dat (.int 0)] T) fun d T' => ∃ a b : Int, d = .own T.length ∧ T' = T ++ [some [.dat (.int a), .dat (.int b), .dat (.int 0)]] ∧ 0 ≤ a ∧ 0 ≤ b := by
    refine e_fn ?_
    show Ev (m_law_box [some (.dat (.list [.int z])), some (.dat (.int 0)), none] T) _
    refine e_seq (p_set (d := .dat (.int z)) (by simp) ?_)
    have k1 : ∀ i, cMul 39373 i = true := fun i => cMul_l (by omega)
    have k2 : cPow 10 18 = true := by decide
    have hb : 0 ≤ z % 2305843009213693951 := Int.emod_nonneg _ (by decide)
    by_cases c : (1000000000000000000 : Int) ≤ (if z < 0 then -z else z)
    · refine e_ret (T' := T ++ [some [.dat (.int ((if z < 0 then -z else z) * 1)), .dat (.int (z % 2305843009213693951 + 39373 * 0 + 3182025)), .dat (.int 0)]]) (d := .own T.length) ?_ ⟨_, _, rfl, rfl, ?_, by omega⟩
      · have k3 : cMul (if z < 0 then -z else z) 1 = true := cMul_r (by omega)
        simp [k1, k2, c, fInt, k3, fLstO]
      · split <;> omega
    · refine e_ret (T' := T ++ [some [.dat (.int ((if z < 0 then -z else z) * 0)), .dat (.int (z % 2305843009213693951 + 39373 * 0 + 3182025)), .dat (.int 0)]]) (d := .own T.length) ?_ ⟨_, _, rfl, rfl, ?_, by omega⟩
      · have k3 : cMul (if z < 0 then -z else z) 0 = true := cMul_r (by omega)
        simp [k1, k2, c, fInt, k3, fLstO]
      · omega
  obtain ⟨d, T', e, a, b, rfl, rfl, q⟩ := main
  exact ⟨a, b, e, q⟩
end Hr
set_option Elab.async false
set_option linter.all false
set_option maxRecDepth 100000
set_option maxHeartbeats 4000000
namespace Hr
open PySem PySem.Spec PyProof.Rows L2
theorem dic_b : dicAt [("blank", 1), ("put", 5), ("drop", 4)] "blank" = some (.int 1) := by rfl
theorem dic_p : dicAt [("blank", 1), ("put", 5), ("drop", 4)] "put" = some (.int 5) := by rfl
theorem dic_d : dicAt [("blank", 1), ("put", 5), ("drop", 4)] "drop" = some (.int 4) := by rfl
theorem x_dic {T : Tab} {kvs : List (Str × Int)} {z : Str} {n : Int} (h : dicAt kvs z = some (.int n)) : fDic kvs (.dat (.str z)) T = .ok (.dat (.int n)) T := by
  unfold fDic
  simp only [h]
/-- no item of that kind: the list of those that fail is empty -/
theorem lc_none {ρ : Rho} {T : Tab} {m tt : ME} {i : Nat} {el : ME} (g : Good T) (xs : List PyData) (hm : m ρ T = .ok (.dat (.tuple xs)) T) (hz : xs.length ≤ 1000)
    (hs : ∀ y ∈ xs, ∀ S, tt ((ρ.set i none).set i (some (.dat y))) S = .ok (.dat (.bool false)) S) : mLc1 (mSeq m) i tt el ρ T = .ok (.dat (.list [])) T := by
  have e := p_lc1s (ρ := ρ) (T := T) (m := m) (tt := tt) (el := el) (i := i) xs Vd.dat (fun _ => false) (fun _ => .none) g (x := .dat (.tuple xs)) hm rfl (by omega) fun y hy S gS _ => ⟨hs y hy S, fun q => by cases q⟩
  have e2 : (xs.filter fun _ => false) = [] := by simp
  rw [e2] at e
  exact e
theorem ev_is_note {T : Tab} (g : Good T) {r : PyData} (h : Note r) : f_law_is_note [.dat r] T = .ok (.dat (.bool true)) T := by
  refine ev_p g ?_
  have fin : ∀ (xs ss is : List PyData) (z : Str) (n : Int), r = .tuple (.str z :: xs) → (z = "blank" ∨ z = "put" ∨ z = "drop") → dicAt [("blank", 1), ("put", 5), ("drop", 4)] z = some (.int n) → (xs.length : Int) + 1 = n → cutG (.str z :: xs) (some 1) (some (n - 2)) = ss →
      cutG (.str z :: xs) (some (if n - 2 > 1 then n - 2 else 1)) none = is → (∀ y ∈ ss, ∃ s, y = .str s) → (∀ y ∈ is, ∃ s, y = .int s) → ss.length ≤ 1000 → is.length ≤ 1000 → Ev (m_law_is_note [some (.dat r), none, none] T) fun fl T' => fl = .rt (.dat (.bool true)) ∧ Pre T T' := by
    rintro xs ss is z n rfl hz hd hn h1 h2 h3 h4 l1 l2
    have e1 := x_sl (T := T) h1
    have e2 := x_sl (T := T) h2
    have c1 := lc_none (ρ := [some (.dat (.tuple (.str z :: xs))), some (.dat (.int n)), none]) (T := T) (m := mSl (mVar 0) (some (mC (.int 1))) (some (m2 fSub (mVar 1) (mC (.int 2))))) (tt := mNot (m1 (fIs "str") (mVar 2))) (i := 2) (el := mC (.int 1)) g ss (by simp [mSl, mPart, e1]) l1 fun y hy S => by
      obtain ⟨s, rfl⟩ := h3 y hy
      simp
    have c2 := lc_none (ρ := [some (.dat (.tuple (.str z :: xs))), some (.dat (.int n)), none]) (T := T) (m := mSl (mVar 0) (some (mN fMax (mCons (mC (.int 1)) (mCons (m2 fSub (mVar 1) (mC (.int 2))) (mNil))))) none) (tt := mOr (mNot (m1 (fIs "int") (mVar 2))) (m1 (fIs "bool") (mVar 2))) (i := 2) (el := mC (.int 1)) g is (by simp [mSl, mPart, fMax, e2]) l2 fun y hy S => by
      obtain ⟨s, rfl⟩ := h4 y hy
      simp
    refine e_seq (p_ifF ?_ (e_skip ?_))
    · rcases hz with rfl | rfl | rfl
      · simp
      · simp [s_bp, s_dp]
      · simp [s_bd, s_pd]
    · refine e_seq (p_set (d := .dat (.int n)) (by simp [x_dic hd]) ?_)
      refine e_seq (p_ifF (by simp [hn, c1]) (e_skip ?_))
      exact p_rt (by simp [c2])
  cases h with
  | blank => exact fin [] [] [] "blank" 1 rfl (.inl rfl) dic_b rfl rfl rfl (fun y h => by cases h) (fun y h => by cases h) (by simp) (by simp)
  | @drop k l hk hl => exact fin [.str k, .int 0, .int l] [.str k] [.int 0, .int l] "drop" 4 rfl (.inr (.inr rfl)) dic_d rfl rfl rfl (fun y h => ⟨k, by simpa using h⟩) (fun y h => by
      simp at h
      rcases h with rfl | rfl <;> exact ⟨_, rfl⟩) (by simp) (by simp)
  | @put k w l hk hw hl => exact fin [.str k, .str w, .int 0, .int l] [.str k, .str w] [.int 0, .int l] "put" 5 rfl (.inr (.inl rfl)) dic_p rfl rfl rfl (fun y h => by
      simp at h
      rcases h with rfl | rfl <;> exact ⟨_, rfl⟩) (fun y h => by
      simp at h
      rcases h with rfl | rfl <;> exact ⟨_, rfl⟩) (by simp) (by simp)
/-! ### frames -/
structure LSt where
  cells : List Cell
  flight : List Wr
  n : Int
  lo : Int
  hi : Int
  aw : Bool
def frL (fa fb : Nat) (st : LSt) (e : Int) : List Vd := [.own fa, .own fb, .dat (.int st.n), .dat (.int st.lo), .dat (.int st.hi), .dat (.bool st.aw), .dat (.int e)]
structure Fr (T : Tab) (f fa fb : Nat) (st : LSt) : Prop where
  top : ∃ e, T[f]? = some (some (frL fa fb st e))
  cells : T[fa]? = some (some ((encF st.cells).map Vd.dat))
  flight : T[fb]? = some (some ((encWs st.flight).map Vd.dat))
  n1 : f ≠ fa
  n2 : f ≠ fb
  n3 : fa ≠ fb
/-- what moved -/
structure Mv (T : Tab) (f fa fb : Nat) (T' : Tab) (fa' fb' : Nat) : Prop where
  len : T.length ≤ T'.length
  a : fa' = fa ∨ T.length ≤ fa'
  b : fb' = fb ∨ T.length ≤ fb'
  rest : ∀ k, k < T.length → k ≠ f → k ≠ fa → k ≠ fb → T'[k]? = T[k]?
theorem Mv.refl {T : Tab} {f fa fb : Nat} : Mv T f fa fb T fa fb := ⟨Nat.le_refl _, .inl rfl, .inl rfl, fun _ _ _ _ _ => rfl⟩
theorem Mv.trans {T T' T'' : Tab} {f fa fb fa' fb' fa'' fb'' : Nat} (x : Mv T f fa fb T' fa' fb') (y : Mv T' f fa' fb' T'' fa'' fb'') : Mv T f fa fb T'' fa'' fb'' := by
  refine ⟨Nat.le_trans x.len y.len, ?_, ?_, fun k h1 h2 h3 h4 => ?_⟩
  · rcases y.a with h | h
    · rw [h]
      exact x.a
    · exact .inr (Nat.le_trans x.len h)
  · rcases y.b with h | h
    · rw [h]
      exact x.b
    · exact .inr (Nat.le_trans x.len h)
  · have q1 : k ≠ fa' := fun e => by
      rcases x.a with h | h
      · exact h3 (e.trans h)
      · omega
    have q2 : k ≠ fb' := fun e => by
      rcases x.b with h | h
      · exact h4 (e.trans h)
      · omega
    exact (y.rest k (by have := x.len; omega) h2 q1 q2).trans (x.rest k h1 h2 h3 h4)
end Hr
set_option Elab.async false
set_option linter.all false
set_option maxRecDepth 100000
set_option maxHeartbeats 4000000
namespace Hr
open PySem PySem.Spec PyProof.Rows L2
section
variable {ρ : Rho} {T T' : Tab} {a i : ME} {d : Vd} {ds : List Vd}
theorem e_mul {n : Nat} {ms : MA} {gs : MGs} {Q : Fl → Tab → Prop} (h : ms ρ T = .ok ds T') (hn : ds.length = n) (k : Ev (gs ds ρ T') fun ρ T => Q (.nx ρ) T) : Ev (sMul n ms gs ρ T) Q := by
  unfold sMul
  rw [h, bd_ok, if_pos hn]
  exact Ev.bd (k.imp fun ρ T q => ⟨_, _, rfl, q⟩)
theorem e_cs {g : MG} {r : MGs} {Q : Rho → Tab → Prop} (h : Ev (g (.one d) ρ T) fun ρ T => Ev (r ds ρ T) Q) : Ev (gCs g r (d :: ds) ρ T) Q := Ev.bd h
theorem e_nl {Q : Rho → Tab → Prop} (h : Q ρ T) : Ev (gNl [] ρ T) Q := ⟨_, _, rfl, h⟩
theorem e_gsb {k : Nat} {j : Int} {xs ys : List Vd} {Q : Rho → Tab → Prop} (ha : a ρ T = .ok (.own k) T) (hi : i ρ T = .ok (.dat (.int j)) T) (hx : T[k]? = some (some xs)) (h0 : 0 ≤ j) (h1 : j < xs.length) (hy : xs.set j.toNat d = ys) (q : Q ρ (T.set k (some ys))) :
    Ev (gSb a i (.one d) ρ T) Q := ⟨_, _, e_sb ha hi hx h0 h1, by rw [hy]; exact q⟩
end
theorem gs_ne {T : Tab} {j k : Nat} {o : Option (List Vd)} (h : k ≠ j) : (T.set j o)[k]? = T[k]? := List.getElem?_set_ne (Ne.symm h)
theorem gs_eq {T : Tab} {k : Nat} {o u : Option (List Vd)} (h : T[k]? = some u) : (T.set k o)[k]? = some o := List.getElem?_set_self (List.getElem?_eq_some_iff.mp h).1
theorem lt_of {T : Tab} {k : Nat} {u : Option (List Vd)} (h : T[k]? = some u) : k < T.length := (List.getElem?_eq_some_iff.mp h).1
theorem zip_news (ws : List Wr) : ws.zip (news ws.length) = ws.map fun w => (w, Fate.new) := by
  unfold news
  induction ws with
  | nil => rfl
  | cons w ws ih => rw [List.length_cons, List.replicate_succ, List.zip_cons_cons, ih]; rfl
theorem mendF_len (f : List Cell) (ws : List Wr) : (mendF f ws).length = f.length := fall_len _ _
section
variable {T : Tab} {f fa fb : Nat} {st : LSt}
theorem Fr.ix0 (F : Fr T f fa fb st) : fIx (.own f) (.dat (.int 0)) T = .ok (.own fa) T := by
  obtain ⟨e, h⟩ := F.top
  exact x_ixown h (by decide) rfl
theorem Fr.ix1 (F : Fr T f fa fb st) : fIx (.own f) (.dat (.int 1)) T = .ok (.own fb) T := by
  obtain ⟨e, h⟩ := F.top
  exact x_ixown h (by decide) rfl
theorem Fr.ix2 (F : Fr T f fa fb st) : fIx (.own f) (.dat (.int 2)) T = .ok (.dat (.int st.n)) T := by
  obtain ⟨e, h⟩ := F.top
  exact x_ixown h (by decide) rfl
theorem Fr.ix3 (F : Fr T f fa fb st) : fIx (.own f) (.dat (.int 3)) T = .ok (.dat (.int st.lo)) T := by
  obtain ⟨e, h⟩ := F.top
  exact x_ixown h (by decide) rfl
theorem Fr.ix4 (F : Fr T f fa fb st) : fIx (.own f) (.dat (.int 4)) T = .ok (.dat (.int st.hi)) T := by
  obtain ⟨e, h⟩ := F.top
  exact x_ixown h (by decide) rfl
theorem Fr.ix5 (F : Fr T f fa fb st) : fIx (.own f) (.dat (.int 5)) T = .ok (.dat (.bool st.aw)) T := by
  obtain ⟨e, h⟩ := F.top
  exact x_ixown h (by decide) rfl
theorem Fr.items_a (F : Fr T f fa fb st) : itemsOf (.own fa) T = some ((encF st.cells).map Vd.dat) := by simp [itemsOf, F.cells]
theorem Fr.items_b (F : Fr T f fa fb st) : itemsOf (.own fb) T = some ((encWs st.flight).map Vd.dat) := by simp [itemsOf, F.flight]
theorem Fr.len_b (F : Fr T f fa fb st) : fLen [.own fb] T = .ok (.dat (.int st.flight.length)) T := by
  rw [x_len F.items_b]
  simp [encWs]
end
theorem frL_ok {n fa fb : Nat} {st : LSt} {e : Int} (ha : fa < n) (hb : fb < n) : (frL fa fb st e).all (below n) = true := by
  simp [frL, below, ha, hb]
def startC (K m : Int) : List Cell := List.replicate K.toNat (some (m - 1, blankD))
def startS (K m : Int) : LSt := ⟨startC K m, [], 0, 0, 0, true⟩
theorem ev_frame {T : Tab} (g : Good T) {K d m : Int} (s : Sh K d m) : ∃ T', f_law_frame [.dat (fmD K d m)] T = .ok (.own (T.length + 2)) T' ∧ Pre T T' ∧ Good T' ∧ T'.length = T.length + 3 ∧ Fr T' (T.length + 2) T.length (T.length + 1) (startS K m) := by
  have h1 := s.k1
  have h2 := s.k2
  have ef : f_law_face [.dat (fmD K d m)] T = .ok (.dat (.tuple (encF (startC K m)))) T := by
    refine ev_p g ?_
    have e4 : fRepT (.dat (.tuple [.tuple [.int (m - 1), blankD]])) (.dat (.int K)) T = .ok (.dat (.tuple (encF (startC K m)))) T := by
      have h1 : (List.replicate K.toNat [PyData.tuple [.int (m - 1), blankD]]).flatten = encF (startC K m) := by
        unfold encF startC
        rw [List.map_replicate]
        generalize K.toNat = n
        induction n with
        | zero => rfl
        | succ n ih => rw [List.replicate_succ, List.flatten_cons, ih, List.replicate_succ]; rfl
      rw [x_repT, if_pos (by simp; omega), h1]
    refine p_rt ?_
    simp [x_blank g, e4]
  have gA : Good (T ++ [some ((encF (startC K m)).map Vd.dat)]) := g.snocD _
  have gB := gA.snocN
  refine ⟨T ++ [some ((encF (startC K m)).map Vd.dat)] ++ [some []] ++ [some (frL T.length (T.length + 1) (startS K m) 0)], ?_, ((Pre.snoc _ _).trans (Pre.snoc _ _)).trans (Pre.snoc _ _), gB.snoc (frL_ok (by simp; omega) (by simp)), by simp, ⟨0, by simp⟩, ?_, ?_, by omega, by omega, by omega⟩
  · refine Ev.eq (e_fn ?_)
    show Ev (m_law_frame [some (.dat (fmD K d m))] T) _
    refine e_ret (T' := T ++ [some ((encF (startC K m)).map Vd.dat)] ++ [some []] ++ [some (frL T.length (T.length + 1) (startS K m) 0)]) (d := .own (T.length + 2)) ?_ ⟨rfl, rfl⟩
    simp [ef, fListOfO, itemsOf, fLstO, frL, startS]
  · simp [startS, List.getElem?_append]
  · simp [startS, List.getElem?_append, encWs]
theorem ev_settle {T : Tab} (g : Good T) {f fa fb : Nat} {st : LSt} (F : Fr T f fa fb st) (hr : InR st.cells.length st.flight) :
    ∃ T' fb', f_law_settle [.own f] T = .ok (.dat .none) T' ∧ Good T' ∧ Fr T' f fa fb' { st with cells := mendF st.cells st.flight, flight := [], lo := st.n } ∧ Mv T f fa fb T' fa fb' := by
  have main : Ev (f_law_settle [.own f] T) fun d T' => ∃ fb', d = .dat .none ∧ Good T' ∧ Fr T' f fa fb' { st with cells := mendF st.cells st.flight, flight := [], lo := st.n } ∧ Mv T f fa fb T' fa fb' := by
    refine e_fn ?_
    show Ev (m_law_settle [some (.own f), none] T) _
    obtain ⟨e0, ht⟩ := F.top
    have hfa := lt_of F.cells
    have hf := lt_of ht
    have hit : ∀ c : List Cell, itemsOf (.own fb) (T.set fa (some ((encF c).map Vd.dat))) = some ((encWs st.flight).map Vd.dat) := fun c => by
      unfold itemsOf
      simp only [gs_ne (T := T) (o := some ((encF c).map Vd.dat)) (Ne.symm F.n3), F.flight]
    have hT0 : T.set fa (some ((encF st.cells).map Vd.dat)) = T := by
      apply List.ext_getElem?
      intro k
      by_cases c : k = fa
      · subst c
        rw [gs_eq F.cells, F.cells]
      · rw [gs_ne c]
    refine e_seq (e_for st.flight (fun w => .one (.dat (encW w))) (fun i ρ T' => ∃ z, ρ = [some (.own f), z] ∧ T' = T.set fa (some ((encF (fall st.cells ((st.flight.take i).map fun w => (w, Fate.new)))).map Vd.dat)))
      (T1 := T) (it := .seq (.own fb)) (by simp [mSeq, F.ix1, hasItems, F.items_b]) (by rw [fu_seq F.items_b]; simp [encWs]) (fun i ρ T' hi h => ?_) ⟨none, rfl, hT0.symm⟩ ?_ ?_)
    · obtain ⟨z, rfl, rfl⟩ := h
      rw [nw_seq (hit _)]
      unfold encWs
      rw [List.map_map, List.getElem?_map, Option.map_map]
      rfl
    · rintro i w ρ T' hy ⟨z, rfl, rfl⟩
      have hw := hr w (List.mem_of_getElem? hy)
      refine ⟨_, _, rfl, ?_⟩
      have hl : ((encF (fall st.cells ((st.flight.take i).map fun w => (w, Fate.new)))).map Vd.dat).length = st.cells.length := by simp [encF, fall_len]
      have nx : fall st.cells ((st.flight.take (i + 1)).map fun w => (w, Fate.new)) = (fall st.cells ((st.flight.take i).map fun w => (w, Fate.new))).set w.1.toNat (some w.2) := by
        rw [take_next hy, List.map_append, List.map_cons, List.map_nil, fall_snoc]
        rfl
      rw [nx]
      generalize fall st.cells ((st.flight.take i).map fun w => (w, Fate.new)) = c at *
      have hx0 : fIx (.own f) (.dat (.int 0)) (T.set fa (some ((encF c).map Vd.dat))) = .ok (.own fa) (T.set fa (some ((encF c).map Vd.dat))) := x_ixown (by rw [gs_ne F.n1, ht]) (by decide) rfl
      refine e_asg (T' := T.set fa (some ((encF c).map Vd.dat))) (d := .dat (enc (some w.2))) (by simp [encW]; rfl) ?_
      refine e_gsb (j := w.1) (by simp [hx0]) (by simp [encW]) (gs_eq F.cells) hw.1 (by rw [hl]; exact hw.2) rfl ⟨_, rfl, _, rfl, ?_⟩
      rw [encF_set, List.map_set, List.set_set]
    · rintro ρ T' ⟨z, rfl, rfl⟩
      rw [List.take_length]
      have hm : fall st.cells (st.flight.map fun w => (w, Fate.new)) = mendF st.cells st.flight := by
        unfold mendF
        rw [zip_news]
      rw [hm]
      generalize mendF st.cells st.flight = c
      have gA : Good (T.set fa (some ((encF c).map Vd.dat))) := g.setD _
      have gB := gA.snocN
      have tA : (T.set fa (some ((encF c).map Vd.dat)))[f]? = some (some (frL fa fb st e0)) := by rw [gs_ne F.n1, ht]
      have tB : (T.set fa (some ((encF c).map Vd.dat)) ++ [some []])[f]? = some (some (frL fa fb st e0)) := (Pre.snoc _ _).get tA
      have hx2 : fIx (.own f) (.dat (.int 2)) (T.set fa (some ((encF c).map Vd.dat)) ++ [some []]) = .ok (.dat (.int st.n)) _ := x_ixown tB (by decide) rfl
      refine e_mul (T' := T.set fa (some ((encF c).map Vd.dat)) ++ [some []]) (ds := [.own T.length, .dat (.int st.n)]) (by simp [fLstO, hx2]) rfl ?_
      refine e_cs (e_gsb (k := f) (j := 1) (xs := frL fa fb st e0) (by simp) (by simp) tB (by decide) (by simp [frL]) rfl ?_)
      refine e_cs (e_gsb (k := f) (j := 3) (by simp) (by simp) (gs_eq tB) (by decide) (by simp [frL]) rfl ?_)
      refine e_nl ⟨T.length, rfl, ?_, ?_, ?_⟩
      · rw [List.set_set]
        exact gB.set (frL_ok (st := { st with lo := st.n }) (by simp; omega) (by simp))
      · rw [List.set_set]
        refine ⟨⟨e0, gs_eq tB⟩, ?_, ?_, F.n1, by omega, by omega⟩
        · rw [gs_ne (Ne.symm F.n1)]
          exact (Pre.snoc _ _).get (gs_eq F.cells)
        · rw [gs_ne (by omega)]
          have : (T.set fa (some ((encF c).map Vd.dat))).length = T.length := by simp
          rw [← this, get_sn]
          rfl
      · rw [List.set_set]
        refine ⟨by simp, .inl rfl, .inr (Nat.le_refl _), fun k h1 h2 h3 h4 => ?_⟩
        rw [gs_ne h2, List.getElem?_append_left (by simpa using h1), gs_ne h3]
  obtain ⟨d, T', e, fb', rfl, q⟩ := main
  exact ⟨T', fb', e, q⟩
end Hr
set_option Elab.async false
set_option linter.all false
set_option maxRecDepth 100000
set_option maxHeartbeats 4000000
namespace Hr
open PySem PySem.Spec PyProof.Rows L2
@[simp] theorem s_write_sync : (("write" : Str) = "sync") = False := by simp; decide +kernel
@[simp] theorem s_write_cut : (("write" : Str) = "cut") = False := by simp; decide +kernel
@[simp] theorem s_write_mend : (("write" : Str) = "mend") = False := by simp; decide +kernel
@[simp] theorem s_write_wake : (("write" : Str) = "wake") = False := by simp; decide +kernel
@[simp] theorem s_sync_write : (("sync" : Str) = "write") = False := by simp; decide +kernel
@[simp] theorem s_sync_cut : (("sync" : Str) = "cut") = False := by simp; decide +kernel
@[simp] theorem s_sync_mend : (("sync" : Str) = "mend") = False := by simp; decide +kernel
@[simp] theorem s_sync_wake : (("sync" : Str) = "wake") = False := by simp; decide +kernel
@[simp] theorem s_cut_write : (("cut" : Str) = "write") = False := by simp; decide +kernel
@[simp] theorem s_cut_sync : (("cut" : Str) = "sync") = False := by simp; decide +kernel
@[simp] theorem s_cut_mend : (("cut" : Str) = "mend") = False := by simp; decide +kernel
@[simp] theorem s_cut_wake : (("cut" : Str) = "wake") = False := by simp; decide +kernel
@[simp] theorem s_mend_write : (("mend" : Str) = "write") = False := by simp; decide +kernel
@[simp] theorem s_mend_sync : (("mend" : Str) = "sync") = False := by simp; decide +kernel
@[simp] theorem s_mend_cut : (("mend" : Str) = "cut") = False := by simp; decide +kernel
@[simp] theorem s_mend_wake : (("mend" : Str) = "wake") = False := by simp; decide +kernel
@[simp] theorem s_wake_write : (("wake" : Str) = "write") = False := by simp; decide +kernel
@[simp] theorem s_wake_sync : (("wake" : Str) = "sync") = False := by simp; decide +kernel
@[simp] theorem s_wake_cut : (("wake" : Str) = "cut") = False := by simp; decide +kernel
@[simp] theorem s_wake_mend : (("wake" : Str) = "mend") = False := by simp; decide +kernel
/-! ### one deal -/
abbrev rhoD (K d m : Int) (f : Nat) (x : PyData) : Rho := [some (.dat (fmD K d m)), some (.own f), some (.dat x), some (.dat (.bool false)), none, none, none, none, none, none, none, none]
def settleS (st : LSt) : LSt := { st with cells := mendF st.cells st.flight, flight := [], lo := st.n }
def fullS (d : Int) (st : LSt) : LSt := if (st.flight.length : Int) = d then settleS st else st
def writeS (K d m : Int) (st : LSt) (r : PyData) : LSt := { fullS d st with flight := (fullS d st).flight ++ [(st.n % K, (st.n / K % m, r))], n := st.n + 1 }
def encWrite (r : PyData) : PyData := .tuple [.str "write", r]
def encSync : PyData := .tuple [.str "sync"]
def encCut (ts : List Fate) : PyData := .tuple [.str "cut", .tuple (encTs ts)]
def encMend (ts : List Fate) : PyData := .tuple [.str "mend", .int ts.length, .tuple (encTs ts)]
def encWake : PyData := .tuple [.str "wake"]
theorem fullS_n (d : Int) (st : LSt) : (fullS d st).n = st.n := by
  unfold fullS settleS
  split <;> rfl
theorem x_sync (x : PyData) (xs : List PyData) (z : Str) : PyData.eqv (.tuple (.str z :: x :: xs)) (.tuple [.str "sync"]) = false := by
  show (PyData.eqv (.str z) (.str "sync") && false) = false
  rw [Bool.and_false]
section
variable {T : Tab} {f fa fb : Nat} {st : LSt} {K d m : Int}
theorem ev_write (g : Good T) (s : Sh K d m) (F : Fr T f fa fb st) (hr : InR st.cells.length st.flight) (hl : st.flight.length ≤ 1000) (aw : st.aw = true) {r : PyData} (hn : Note r) :
    ∃ T' fb', f_law_dealt [.dat (fmD K d m), .own f, .dat (encWrite r), .dat (.bool false)] T = .ok (.dat (.bool true)) T' ∧ Good T' ∧ Fr T' f fa fb' (writeS K d m st r) ∧ Mv T f fa fb T' fa fb' := by
  have hK : 0 < K := by have := s.k1; omega
  have main : Ev (f_law_dealt [.dat (fmD K d m), .own f, .dat (encWrite r), .dat (.bool false)] T) fun d' T' => ∃ fb', d' = .dat (.bool true) ∧ Good T' ∧ Fr T' f fa fb' (writeS K d m st r) ∧ Mv T f fa fb T' fa fb' := by
    refine e_fn ?_
    show Ev (m_law_dealt (rhoD K d m f (encWrite r)) T) _
    have i5 := F.ix5
    rw [aw] at i5
    refine e_seq (p_ifF (by simp [encWrite, i5]) (e_skip ?_))
    refine e_seq (p_ifT (by simp [encWrite, ev_is_note g hn]) ?_)
    have rest : ∀ (S : Tab) (fb1 : Nat) (st1 : LSt) (Q : Fl → Tab → Prop), Good S → Fr S f fa fb1 st1 → st1.flight.length ≤ 1000 →
        (∀ S', Good S' → Fr S' f fa fb1 { st1 with flight := st1.flight ++ [(st1.n % K, (st1.n / K % m, r))], n := st1.n + 1 } → Mv S f fa fb1 S' fa fb1 → Q (.rt (.dat (.bool true))) S') →
        Ev (sSeq (sApp (m2 fIx (mVar 1) (mC (.int 1))) (mN fTup (mCons (m2 fMod (mN fInt (mCons (m2 fIx (mVar 1) (mC (.int 2))) (mNil))) (m2 fIx (mVar 0) (mC (.int 0)))) (mCons (mN fTup (mCons (mN (fCall 2 f_law_lap) (mCons (mVar 0) (mCons (m2 fIx (mVar 1) (mC (.int 2))) (mNil)))) (mCons (m2 fIx (mVar 2) (mC (.int 1))) (mNil)))) (mNil)))))
          (sSeq (sAsg (m2 fAdd (m2 fIx (mVar 1) (mC (.int 2))) (mC (.int 1))) (gSb (mVar 1) (mC (.int 2)))) (sRet (mC (.bool true)))) (rhoD K d m f (encWrite r)) S) Q := by
      intro S fb1 st1 Q gS F1 hl1 hQ
      obtain ⟨e0, ht⟩ := F1.top
      have hf := lt_of ht
      refine e_seq (e_app (k := fb1) (xs := (encWs st1.flight).map Vd.dat) (T1 := S) (d := .dat (encW (st1.n % K, (st1.n / K % m, r)))) (by simp [F1.ix1]) ⟨_, F1.flight⟩ (by simp [F1.ix2, hK, ev_lap gS s, encWrite, encW]) F1.flight (by simp [encWs]; omega) ?_)
      have eW : (encWs st1.flight).map Vd.dat ++ [Vd.dat (encW (st1.n % K, (st1.n / K % m, r)))] = (encWs (st1.flight ++ [(st1.n % K, (st1.n / K % m, r))])).map Vd.dat := by simp [encWs]
      rw [eW]
      have gA : Good (S.set fb1 (some ((encWs (st1.flight ++ [(st1.n % K, (st1.n / K % m, r))])).map Vd.dat))) := gS.setD _
      have tA : (S.set fb1 (some ((encWs (st1.flight ++ [(st1.n % K, (st1.n / K % m, r))])).map Vd.dat)))[f]? = some (some (frL fa fb1 st1 e0)) := by rw [gs_ne F1.n2, ht]
      have i2 : fIx (.own f) (.dat (.int 2)) (S.set fb1 (some ((encWs (st1.flight ++ [(st1.n % K, (st1.n / K % m, r))])).map Vd.dat))) = .ok (.dat (.int st1.n)) _ := x_ixown tA (by decide) rfl
      refine e_seq (e_asg (T' := S.set fb1 (some ((encWs (st1.flight ++ [(st1.n % K, (st1.n / K % m, r))])).map Vd.dat))) (d := .dat (.int (st1.n + 1))) (by simp [i2]) (e_gsb (k := f) (j := 2) (xs := frL fa fb1 st1 e0) (by simp) (by simp) tA (by decide) (by simp [frL]) rfl ?_))
      refine e_ret (d := .dat (.bool true)) (by simp; rfl) (hQ _ ?_ ⟨⟨e0, gs_eq tA⟩, ?_, ?_, F1.n1, F1.n2, F1.n3⟩ ⟨by simp, .inl rfl, .inl rfl, fun k h1 h2 h3 h4 => ?_⟩)
      · exact gA.set (frL_ok (st := { st1 with n := st1.n + 1 }) (by simpa using lt_of F1.cells) (by simpa using lt_of F1.flight))
      · rw [gs_ne (Ne.symm F1.n1), gs_ne F1.n3, F1.cells]
      · rw [gs_ne (Ne.symm F1.n2), gs_eq F1.flight]
      · rw [gs_ne h2, gs_ne h4]
    by_cases c : (st.flight.length : Int) = d
    · obtain ⟨S, fb1, e1, gS, F1, mv1⟩ := ev_settle g F hr
      refine e_seq (e_ifT (T' := T) (by simp [F.ix1, F.len_b, c]) (e_drop (T' := S) (d := .dat .none) (by simp [e1]) ?_))
      refine rest S fb1 _ _ gS F1 (by simp) fun S' gS' F2 mv2 => ⟨fb1, rfl, gS', ?_, mv1.trans mv2⟩
      have ew : writeS K d m st r = { (settleS st) with flight := (settleS st).flight ++ [(st.n % K, (st.n / K % m, r))], n := st.n + 1 } := by unfold writeS fullS; rw [if_pos c]
      rw [ew]
      exact F2
    · refine e_seq (p_ifF (by simp [F.ix1, F.len_b, c]) (e_skip ?_))
      refine rest T fb st _ g F hl fun S' gS' F2 mv2 => ⟨fb, rfl, gS', ?_, mv2⟩
      have ew : writeS K d m st r = { st with flight := st.flight ++ [(st.n % K, (st.n / K % m, r))], n := st.n + 1 } := by unfold writeS fullS; rw [if_neg c]
      rw [ew]
      exact F2
  obtain ⟨d', T', e, fb', rfl, q⟩ := main
  exact ⟨T', fb', e, q⟩
theorem ev_sync (g : Good T) (F : Fr T f fa fb st) (hr : InR st.cells.length st.flight) (aw : st.aw = true) :
    ∃ T' fb', f_law_dealt [.dat (fmD K d m), .own f, .dat encSync, .dat (.bool false)] T = .ok (.dat (.bool true)) T' ∧ Good T' ∧ Fr T' f fa fb' (settleS st) ∧ Mv T f fa fb T' fa fb' := by
  obtain ⟨S, fb1, e1, gS, F1, mv1⟩ := ev_settle g F hr
  have main : Ev (f_law_dealt [.dat (fmD K d m), .own f, .dat encSync, .dat (.bool false)] T) fun d' T' => d' = .dat (.bool true) ∧ T' = S := by
    refine e_fn ?_
    show Ev (m_law_dealt (rhoD K d m f encSync) T) _
    have i5 := F.ix5
    rw [aw] at i5
    refine e_seq (p_ifF (by simp [encSync, i5]) (e_skip ?_))
    refine e_seq (p_ifF (by simp [encSync]) (e_skip ?_))
    refine e_seq (e_ifT (T' := T) (by simp [encSync]) ?_)
    refine e_seq (e_drop (T' := S) (d := .dat .none) (by simp [e1]) ?_)
    exact e_ret (T' := S) (d := .dat (.bool true)) (by simp) ⟨rfl, rfl⟩
  exact ⟨S, fb1, Ev.eq main, gS, F1, mv1⟩
end
end Hr
set_option Elab.async false
set_option linter.all false
set_option maxRecDepth 100000
set_option maxHeartbeats 4000000
namespace Hr
open PySem PySem.Spec PyProof.Rows L2
theorem ev_law_mended {T : Tab} (g : Good T) {K d m : Int} (s : Sh K d m) {f : List Cell} (hf : (f.length : Int) = K) {x : Vd} (hx : itemsOf x T = some ((encF f).map Vd.dat)) {p : Int} (hp : okA p) (hn : ans (wholes K d m f) (K * m) d = .int p) :
    f_law_mended [.dat (fmD K d m), x] T = .ok (.own T.length) (T ++ [some ((encF (mendF f (wr K d m f p))).map Vd.dat)]) := by
  refine Ev.eq (e_fn ?_)
  show Ev (m_law_mended [some (.dat (fmD K d m)), some x, none, none] T) _
  have gS : Good (T ++ [some ((encF f).map Vd.dat)]) := g.snocD _
  have em := ev_mending gS s hf ((Pre.snoc _ _).items hx) hp hn
  have hr := wr_in s f hf p
  generalize wr K d m f p = ws at *
  have hit : ∀ S, itemsOf (.dat (.list (encWs ws))) S = some ((encWs ws).map Vd.dat) := fun S => rfl
  refine e_seq (e_set (T' := T ++ [some ((encF f).map Vd.dat)]) (d := .own T.length) (by simp [fListOfO, hx]) ?_)
  refine e_seq (e_for ws (fun w => .one (.dat (encW w))) (fun i ρ T' => ∃ z, ρ = [some (.dat (fmD K d m)), some x, some (.own T.length), z] ∧ T' = T ++ [some ((encF (fall f ((ws.take i).map fun w => (w, Fate.new)))).map Vd.dat)])
    (T1 := T ++ [some ((encF f).map Vd.dat)]) (it := .seq (.dat (.list (encWs ws)))) (by simp [mSeq, em, hasItems, hit]) (by rw [fu_seq (hit _)]; simp [encWs]) (fun i ρ T' hi _ => ?_) ⟨none, rfl, rfl⟩ ?_ ?_)
  · rw [nw_seq (hit _)]
    unfold encWs
    rw [List.map_map, List.getElem?_map, Option.map_map]
    rfl
  · rintro i w ρ T' hy ⟨z, rfl, rfl⟩
    have hw := hr w (List.mem_of_getElem? hy)
    refine ⟨_, _, rfl, ?_⟩
    have hl : ((encF (fall f ((ws.take i).map fun w => (w, Fate.new)))).map Vd.dat).length = f.length := by simp [encF, fall_len]
    have nx : fall f ((ws.take (i + 1)).map fun w => (w, Fate.new)) = (fall f ((ws.take i).map fun w => (w, Fate.new))).set w.1.toNat (some w.2) := by
      rw [take_next hy, List.map_append, List.map_cons, List.map_nil, fall_snoc]
      rfl
    rw [nx]
    generalize fall f ((ws.take i).map fun w => (w, Fate.new)) = c at *
    refine e_asg (T' := T ++ [some ((encF c).map Vd.dat)]) (d := .dat (enc (some w.2))) (by simp [encW]; rfl) ?_
    refine e_gsb (j := w.1) (by simp) (by simp [encW]) (get_sn _ _) hw.1 (by rw [hl]; exact hw.2) rfl ⟨_, rfl, _, rfl, ?_⟩
    rw [set_sn, encF_set, List.map_set]
  · rintro ρ T' ⟨z, rfl, rfl⟩
    rw [List.take_length]
    have hm : fall f (ws.map fun w => (w, Fate.new)) = mendF f ws := by
      unfold mendF
      rw [zip_news]
    rw [hm]
    exact e_ret (T' := T ++ [some ((encF (mendF f ws)).map Vd.dat)]) (d := .own T.length) (by simp) ⟨rfl, rfl⟩
theorem ev_is_count {T : Tab} (g : Good T) {k n : Int} (h0 : 0 ≤ k) (h1 : k ≤ n) : f_law_is_count [.dat (.int k), .dat (.int n)] T = .ok (.dat (.bool true)) T := by
  refine ev_p g ?_
  exact p_rt (by simp [h0, h1])
def cutS1 (st : LSt) (ts : List Fate) : LSt := { st with cells := fall st.cells (st.flight.zip ts), flight := [], lo := st.n - st.flight.length, hi := st.n, aw := false }
def mendS1 (K d m : Int) (p : Int) (st : LSt) (ts : List Fate) : LSt := { st with cells := fall st.cells (((wr K d m st.cells p).take ts.length).zip ts) }
def goodsS (K m p lo hi : Int) : List Int := ((List.range (hi + 1 - lo).toNat).map fun j => lo + (j : Nat)).filter fun n => decide (n % (K * m) = p)
def wakeN (K m p lo hi : Int) : Int := match goodsS K m p lo hi with
  | a :: _ => a
  | [] => p
def wakeS (K d m : Int) (p : Int) (st : LSt) : LSt := { st with cells := mendF st.cells (wr K d m st.cells p), n := wakeN K m p st.lo st.hi, lo := wakeN K m p st.lo st.hi, hi := wakeN K m p st.lo st.hi, aw := true }
section
variable {T : Tab} {f fa fb : Nat} {st : LSt} {K d m : Int}
theorem first_ix (l : List Int) (n : Int) : ∃ z, ∀ S, fIx (.dat (.list (inz l ++ [.int n]))) (.dat (.int 0)) S = .ok (.dat (.int z)) S := by
  cases l with
  | nil => exact ⟨n, fun S => x_ixl0 _ _⟩
  | cons a l => exact ⟨a, fun S => x_ixl0 _ _⟩
theorem ev_cut (g : Good T) (s : Sh K d m) (F : Fr T f fa fb st) (hr : InR st.cells.length st.flight) (aw : st.aw = true) {ts : List Fate} (hl : ts.length = st.flight.length) (hz : ts.length ≤ 100) :
    ∃ T' fa' fb', f_law_dealt [.dat (fmD K d m), .own f, .dat (encCut ts), .dat (.bool false)] T = .ok (.dat (.bool true)) T' ∧ Good T' ∧ Fr T' f fa' fb' (cutS1 st ts) ∧ Mv T f fa fb T' fa' fb' := by
  have main : Ev (f_law_dealt [.dat (fmD K d m), .own f, .dat (encCut ts), .dat (.bool false)] T) fun d' T' => ∃ fa' fb', d' = .dat (.bool true) ∧ Good T' ∧ Fr T' f fa' fb' (cutS1 st ts) ∧ Mv T f fa fb T' fa' fb' := by
    refine e_fn ?_
    show Ev (m_law_dealt (rhoD K d m f (encCut ts)) T) _
    have i5 := F.ix5
    rw [aw] at i5
    obtain ⟨e0, ht⟩ := F.top
    have hf := lt_of ht
    have ef := ev_law_fallen (T := T) (ts := ts) hr F.items_a F.items_b
    have ea := ev_law_are_fates g hz
    rw [hl] at ea
    refine e_seq (p_ifF (by simp [encCut, i5]) (e_skip ?_))
    refine e_seq (p_ifF (by simp [encCut]) (e_skip ?_))
    refine e_seq (p_ifF (by simp [encCut, x_sync]) (e_skip ?_))
    refine e_seq (p_ifT (by simp [encCut, F.ix1, F.len_b, ea]) ?_)
    refine e_seq (p_set (d := .dat (.int (st.n - st.flight.length))) (by simp [F.ix1, F.ix2, F.len_b]) ?_)
    generalize hc : fall st.cells (st.flight.zip ts) = c at *
    have gA : Good (T ++ [some ((encF c).map Vd.dat)]) := g.snocD _
    have gB := gA.snocN
    have tB : (T ++ [some ((encF c).map Vd.dat)] ++ [some []])[f]? = some (some (frL fa fb st e0)) := ((Pre.snoc _ _).trans (Pre.snoc _ _)).get ht
    have aB : (T ++ [some ((encF c).map Vd.dat)] ++ [some []])[T.length]? = some (some ((encF c).map Vd.dat)) := (Pre.snoc _ _).get (get_sn _ _)
    have bB : (T ++ [some ((encF c).map Vd.dat)] ++ [some []])[T.length + 1]? = some (some []) := by
      have : T.length + 1 = (T ++ [some ((encF c).map Vd.dat)]).length := by simp
      rw [this, get_sn]
    have lB : (T ++ [some ((encF c).map Vd.dat)] ++ [some []]).length = T.length + 2 := by simp
    have rB : ∀ k, k < T.length → (T ++ [some ((encF c).map Vd.dat)] ++ [some []])[k]? = T[k]? := fun k hk => by
      rw [List.append_assoc, List.getElem?_append_left hk]
    refine e_seq (e_mul (T' := T ++ [some ((encF c).map Vd.dat)] ++ [some []]) (ds := [.own T.length, .own (T.length + 1)]) (by simp [encCut, F.ix0, F.ix1, ef, fLstO]) rfl ?_)
    generalize T ++ [some ((encF c).map Vd.dat)] ++ [some []] = S at *
    have c1 : T.length + 1 ≠ f := by omega
    have c2 : T.length ≠ f := by omega
    refine e_cs (e_gsb (k := f) (j := 0) (xs := frL fa fb st e0) (by simp) (by simp) tB (by decide) (by simp [frL]) rfl ?_)
    refine e_cs (e_gsb (k := f) (j := 1) (by simp) (by simp) (gs_eq tB) (by decide) (by simp [frL]) (ys := frL T.length (T.length + 1) st e0) rfl ?_)
    rw [List.set_set]
    have gC : Good (S.set f (some (frL T.length (T.length + 1) st e0))) := gB.set (frL_ok (by omega) (by omega))
    have tC : (S.set f (some (frL T.length (T.length + 1) st e0)))[f]? = some (some (frL T.length (T.length + 1) st e0)) := gs_eq tB
    refine e_nl ?_
    have hlt : (encTs ts).length = ts.length := by simp [encTs]
    have lc := p_lc2e (ρ := [some (.dat (fmD K d m)), some (.own f), some (.dat (encCut ts)), some (.dat (.bool false)), some (.dat (.int (st.n - st.flight.length))), none, none, none, none, none, none, none]) (T := S.set f (some (frL T.length (T.length + 1) st e0)))
      (ms := mCons (m2 fIx (mVar 2) (mC (.int 1))) mNil) (tt := m2 (fEq true) (mVar 10) (mC (.str "new"))) (el := mVar 9) (i := 9) (j := 10) (by decide) ts (fun t => .dat (encT t)) (fun q => !PyData.eqv (encT q.1) (.str "new")) (fun q => .int (q.2 : Nat)) gC
      (x := .dat (.tuple (encTs ts))) (by simp [encCut]) (by show some ((ts.map encT).map Vd.dat) = _; rw [List.map_map]; rfl) (by omega) fun q hq S gS _ => ⟨by simp, fun _ => by simp⟩
    have hlc : (ts.zipIdx.filter fun q => !PyData.eqv (encT q.1) (.str "new")).map (fun q => PyData.int (q.2 : Nat)) = inz ((ts.zipIdx.filter fun q => !PyData.eqv (encT q.1) (.str "new")).map fun q => (q.2 : Int)) := by
      unfold inz
      rw [List.map_map]
      rfl
    rw [hlc] at lc
    have hbl : ((ts.zipIdx.filter fun q => !PyData.eqv (encT q.1) (.str "new")).map fun q => (q.2 : Int)).length ≤ 100 := by
      have : (ts.zipIdx.filter fun q => !PyData.eqv (encT q.1) (.str "new")).length ≤ ts.zipIdx.length := List.length_filter_le _ _
      simp at this ⊢
      omega
    generalize (ts.zipIdx.filter fun q => !PyData.eqv (encT q.1) (.str "new")).map (fun q => (q.2 : Int)) = bads at *
    refine e_seq (p_set (d := .dat (.list (inz bads))) lc ?_)
    obtain ⟨z, hz0⟩ := first_ix bads ts.length
    have ec : ∀ S, fCatL fCat (.dat (.list (inz bads))) (.dat (.list [.int ts.length])) S = .ok (.dat (.list (inz bads ++ [.int ts.length]))) S := fun S => x_cat (by simp [inz]; omega)
    refine e_seq (e_asg (T' := S.set f (some (frL T.length (T.length + 1) st e0))) (d := .dat (.int (st.n - st.flight.length + z))) (by simp [encCut, hlt, ec, hz0]) (e_gsb (k := f) (j := 6) (by simp) (by simp) tC (by decide) (by simp [frL]) (ys := frL T.length (T.length + 1) st (st.n - st.flight.length + z)) rfl ?_))
    rw [List.set_set]
    have tD : (S.set f (some (frL T.length (T.length + 1) st (st.n - st.flight.length + z))))[f]? = some (some (frL T.length (T.length + 1) st (st.n - st.flight.length + z))) := gs_eq tB
    have i2 : fIx (.own f) (.dat (.int 2)) (S.set f (some (frL T.length (T.length + 1) st (st.n - st.flight.length + z)))) = .ok (.dat (.int st.n)) _ := x_ixown tD (by decide) rfl
    refine e_seq (e_mul (T' := S.set f (some (frL T.length (T.length + 1) st (st.n - st.flight.length + z)))) (ds := [.dat (.int (st.n - st.flight.length)), .dat (.int st.n), .dat (.bool false)]) (by simp [i2]) rfl ?_)
    refine e_cs (e_gsb (k := f) (j := 3) (by simp) (by simp) tD (by decide) (by simp [frL]) rfl ?_)
    refine e_cs (e_gsb (k := f) (j := 4) (by simp) (by simp) (gs_eq tD) (by decide) (by simp [frL]) rfl ?_)
    refine e_cs (e_gsb (k := f) (j := 5) (by simp) (by simp) (gs_eq (gs_eq tD)) (by decide) (by simp [frL]) (ys := frL T.length (T.length + 1) (cutS1 st ts) (st.n - st.flight.length + z)) rfl ?_)
    rw [List.set_set, List.set_set, List.set_set]
    refine e_nl (e_ret (d := .dat (.bool true)) (by simp; rfl) ⟨T.length, T.length + 1, rfl, gB.set (frL_ok (by omega) (by omega)), ⟨⟨_, gs_eq tB⟩, ?_, ?_, by omega, by omega, by omega⟩, ?_⟩)
    · rw [gs_ne c2, aB]
      show _ = some (some ((encF (fall st.cells (st.flight.zip ts))).map Vd.dat))
      rw [hc]
    · rw [gs_ne c1, bB]
      rfl
    · refine ⟨by simp; omega, .inr (Nat.le_refl _), .inr (by omega), fun k h1 h2 h3 h4 => ?_⟩
      rw [gs_ne h2, rB k h1]
  obtain ⟨d', T', e, fa', fb', rfl, q⟩ := main
  exact ⟨T', fa', fb', e, q⟩
end
end Hr
set_option Elab.async false
set_option linter.all false
set_option maxRecDepth 100000
set_option maxHeartbeats 4000000
namespace Hr
open PySem PySem.Spec PyProof.Rows L2
section
variable {T : Tab} {f fa fb : Nat} {st : LSt} {K d m : Int}
theorem ev_mend (g : Good T) (s : Sh K d m) (F : Fr T f fa fb st) (hf : (st.cells.length : Int) = K) (aw : st.aw = false) {p : Int} (hp : okA p) (hn : ans (wholes K d m st.cells) (K * m) d = .int p) {ts : List Fate} (hl : ts.length ≤ (wr K d m st.cells p).length) :
    ∃ T' fa', f_law_dealt [.dat (fmD K d m), .own f, .dat (encMend ts), .dat (.bool false)] T = .ok (.dat (.bool true)) T' ∧ Good T' ∧ Fr T' f fa' fb (mendS1 K d m p st ts) ∧ Mv T f fa fb T' fa' fb := by
  have main : Ev (f_law_dealt [.dat (fmD K d m), .own f, .dat (encMend ts), .dat (.bool false)] T) fun d' T' => ∃ fa', d' = .dat (.bool true) ∧ Good T' ∧ Fr T' f fa' fb (mendS1 K d m p st ts) ∧ Mv T f fa fb T' fa' fb := by
    refine e_fn ?_
    show Ev (m_law_dealt (rhoD K d m f (encMend ts)) T) _
    have i5 := F.ix5
    rw [aw] at i5
    obtain ⟨e0, ht⟩ := F.top
    have hft := lt_of ht
    have hwl := wr_len s st.cells p
    have en := ev_answer g s hf F.items_a
    rw [hn] at en
    have em := ev_mending g s hf F.items_a hp hn
    have ea := ev_law_are_fates g (ts := ts) (by omega)
    have hle : (encWs (wr K d m st.cells p)).length = (wr K d m st.cells p).length := by simp [encWs]
    have ek := ev_is_count g (k := ts.length) (n := (wr K d m st.cells p).length) (by omega) (by omega)
    have ef := ev_law_fallen (T := T) (ts := ts) ((wr_in s st.cells hf p).take (k := ts.length)) F.items_a (y := .dat (.list (encWs ((wr K d m st.cells p).take ts.length)))) rfl
    have es : fSl (.dat (.list (encWs (wr K d m st.cells p)))) none (some (ts.length : Int)) T = .ok (.dat (.list (encWs ((wr K d m st.cells p).take ts.length)))) T := x_sl_l (by rw [cut_to, encWs_take])
    refine e_seq (p_ifF (by simp [encMend, i5]) (e_skip ?_))
    refine e_seq (p_ifF (by simp [encMend]) (e_skip ?_))
    refine e_seq (p_ifF (by simp [encMend, x_sync]) (e_skip ?_))
    refine e_seq (p_ifF (by simp [encMend]) (e_skip ?_))
    refine e_seq (p_ifF (by simp [encMend, F.ix0, en]) (e_skip ?_))
    refine e_seq (p_ifT (by simp [encMend]) ?_)
    refine e_seq (p_set (d := .dat (.list (encWs (wr K d m st.cells p)))) (by simp [F.ix0, em]) ?_)
    refine e_seq (p_ifF (by simp [encMend, hle, ek, ea]) (e_skip ?_))
    generalize hc : fall st.cells (((wr K d m st.cells p).take ts.length).zip ts) = c at *
    have gA : Good (T ++ [some ((encF c).map Vd.dat)]) := g.snocD _
    have tA : (T ++ [some ((encF c).map Vd.dat)])[f]? = some (some (frL fa fb st e0)) := (Pre.snoc _ _).get ht
    refine e_seq (e_asg (T' := T ++ [some ((encF c).map Vd.dat)]) (d := .own T.length) (by simp [encMend, F.ix0, mSl, mPart, es, ef]) (e_gsb (k := f) (j := 0) (xs := frL fa fb st e0) (by simp) (by simp) tA (by decide) (by simp [frL]) (ys := frL T.length fb (mendS1 K d m p st ts) e0) rfl ?_))
    refine e_ret (d := .dat (.bool true)) (by simp; rfl) ⟨T.length, rfl, gA.set (frL_ok (by simp) (by have := lt_of F.flight; simp; omega)), ⟨⟨_, gs_eq tA⟩, ?_, ?_, by omega, F.n2, by have := lt_of F.flight; omega⟩, ?_⟩
    · rw [gs_ne (by omega), get_sn]
      show _ = some (some ((encF (fall st.cells (((wr K d m st.cells p).take ts.length).zip ts))).map Vd.dat))
      rw [hc]
    · rw [gs_ne (Ne.symm F.n2)]
      exact (Pre.snoc _ _).get F.flight
    · refine ⟨by simp, .inr (Nat.le_refl _), .inl rfl, fun k h1 h2 h3 h4 => ?_⟩
      rw [gs_ne h2, List.getElem?_append_left h1]
  obtain ⟨d', T', e, fa', rfl, q⟩ := main
  exact ⟨T', fa', e, q⟩
theorem goods_ix (l : List Int) (p : Int) : ∀ S, mIf (m2 (fEq true) (mVar 8) (mN fLst mNil)) (m2 fIx (mVar 8) (mC (.int 0))) (mVar 7) [some (.dat (fmD K d m)), some (.own f), some (.dat encWake), some (.dat (.bool false)), none, none, none, some (.dat (.int p)), some (.dat (.list (inz l))), none, none, none] S
    = .ok (.dat (.int (match l with | a :: _ => a | [] => p))) S := by
  intro S
  cases l with
  | nil => simp [inz]
  | cons a r => simp [inz]
theorem ev_wake (g : Good T) (s : Sh K d m) (F : Fr T f fa fb st) (hf : (st.cells.length : Int) = K) (aw : st.aw = false) {p : Int} (hp : okA p) (hn : ans (wholes K d m st.cells) (K * m) d = .int p) (hlo : okA st.lo) (hhi : okA st.hi) (hz : st.hi + 1 - st.lo ≤ 100000) :
    ∃ T' fa', f_law_dealt [.dat (fmD K d m), .own f, .dat encWake, .dat (.bool false)] T = .ok (.dat (.bool true)) T' ∧ Good T' ∧ Fr T' f fa' fb (wakeS K d m p st) ∧ Mv T f fa fb T' fa' fb := by
  have main : Ev (f_law_dealt [.dat (fmD K d m), .own f, .dat encWake, .dat (.bool false)] T) fun d' T' => ∃ fa', d' = .dat (.bool true) ∧ Good T' ∧ Fr T' f fa' fb (wakeS K d m p st) ∧ Mv T f fa fb T' fa' fb := by
    refine e_fn ?_
    show Ev (m_law_dealt (rhoD K d m f encWake) T) _
    have i5 := F.ix5
    rw [aw] at i5
    obtain ⟨e0, ht⟩ := F.top
    have hft := lt_of ht
    have en := ev_answer g s hf F.items_a
    rw [hn] at en
    have em := ev_law_mended g s hf F.items_a hp hn
    unfold okA at hlo hhi
    have htr := turn_lt s
    have htp : 0 < K * m := Int.mul_pos (by have := s.k1; omega) (by have := s.m1; omega)
    refine e_seq (p_ifF (by simp [encWake, i5]) (e_skip ?_))
    refine e_seq (p_ifF (by simp [encWake]) (e_skip ?_))
    refine e_seq (p_ifF (by simp [encWake]) (e_skip ?_))
    refine e_seq (p_ifF (by simp [encWake]) (e_skip ?_))
    refine e_seq (p_ifF (by simp [encWake, F.ix0, en]) (e_skip ?_))
    refine e_seq (p_ifF (by simp [encWake]) (e_skip ?_))
    refine e_seq (p_ifF (by simp [encWake]) (e_skip ?_))
    refine e_seq (p_set (d := .dat (.int p)) (by simp [F.ix0, en]) ?_)
    have lc := p_lc1r (ρ := [some (.dat (fmD K d m)), some (.own f), some (.dat encWake), some (.dat (.bool false)), none, none, none, some (.dat (.int p)), none, none, none, none]) (T := T) (mi := mRng2 (mCons (m2 fIx (mVar 1) (mC (.int 3))) (mCons (m2 fAdd (m2 fIx (mVar 1) (mC (.int 4))) (mC (.int 1))) (mNil))))
      (tt := m2 (fEq false) (m2 fMod (mN fInt (mCons (mVar 11) (mNil))) (m2 fMul (m2 fIx (mVar 0) (mC (.int 0))) (m2 fIx (mVar 0) (mC (.int 2))))) (mVar 7)) (el := mVar 11) (i := 11) (lo := st.lo) (n := (st.hi + 1 - st.lo).toNat) (fun n => decide (n % (K * m) = p)) (fun n => .int n) g
      (x_rng2 (by simp [F.ix3, F.ix4]) (by omega) (by omega)) (by omega) fun y h1 h2 S gS _ => ⟨by simp [cMul_l (i := K) (j := m) (by have := s.k1; have := s.k2; omega), htp], fun _ => by simp⟩
    have hlc : ((((List.range (st.hi + 1 - st.lo).toNat).map fun j => st.lo + (j : Nat)).filter fun n => decide (n % (K * m) = p)).map fun n => PyData.int n) = inz (goodsS K m p st.lo st.hi) := rfl
    rw [hlc] at lc
    have hwn : wakeN K m p st.lo st.hi = match goodsS K m p st.lo st.hi with | a :: _ => a | [] => p := rfl
    have gix := fun S => goods_ix (K := K) (d := d) (m := m) (f := f) (goodsS K m p st.lo st.hi) p S
    rw [← hwn] at gix
    refine e_seq (p_set (d := .dat (.list (inz (goodsS K m p st.lo st.hi)))) lc ?_)
    generalize hc : mendF st.cells (wr K d m st.cells p) = c at *
    have gA : Good (T ++ [some ((encF c).map Vd.dat)]) := g.snocD _
    have tA : (T ++ [some ((encF c).map Vd.dat)])[f]? = some (some (frL fa fb st e0)) := (Pre.snoc _ _).get ht
    have aA := get_sn T (some ((encF c).map Vd.dat))
    have bA : (T ++ [some ((encF c).map Vd.dat)])[fb]? = some (some ((encWs st.flight).map Vd.dat)) := (Pre.snoc _ _).get F.flight
    have lA : (T ++ [some ((encF c).map Vd.dat)]).length = T.length + 1 := by simp
    have rA : ∀ k, k < T.length → (T ++ [some ((encF c).map Vd.dat)])[k]? = T[k]? := fun k hk => List.getElem?_append_left hk
    refine e_seq (e_asg (T' := T ++ [some ((encF c).map Vd.dat)]) (d := .own T.length) (by simp [F.ix0, em]) (e_gsb (k := f) (j := 0) (xs := frL fa fb st e0) (by simp) (by simp) tA (by decide) (by simp [frL]) (ys := frL T.length fb st e0) rfl ?_))
    generalize T ++ [some ((encF c).map Vd.dat)] = S at *
    have hb := lt_of F.flight
    have tB : (S.set f (some (frL T.length fb st e0)))[f]? = some (some (frL T.length fb st e0)) := gs_eq tA
    refine e_seq (e_asg (T' := S.set f (some (frL T.length fb st e0))) (d := .dat (.int (wakeN K m p st.lo st.hi))) (gix _) (e_gsb (k := f) (j := 2) (by simp) (by simp) tB (by decide) (by simp [frL]) (ys := frL T.length fb { st with n := wakeN K m p st.lo st.hi } e0) rfl ?_))
    rw [List.set_set]
    have tC : (S.set f (some (frL T.length fb { st with n := wakeN K m p st.lo st.hi } e0)))[f]? = some (some (frL T.length fb { st with n := wakeN K m p st.lo st.hi } e0)) := gs_eq tA
    have i2 : fIx (.own f) (.dat (.int 2)) (S.set f (some (frL T.length fb { st with n := wakeN K m p st.lo st.hi } e0))) = .ok (.dat (.int (wakeN K m p st.lo st.hi))) _ := x_ixown tC (by decide) rfl
    refine e_seq (e_mul (T' := S.set f (some (frL T.length fb { st with n := wakeN K m p st.lo st.hi } e0))) (ds := [.dat (.int (wakeN K m p st.lo st.hi)), .dat (.int (wakeN K m p st.lo st.hi)), .dat (.bool true)]) (by simp [i2]) rfl ?_)
    refine e_cs (e_gsb (k := f) (j := 3) (by simp) (by simp) tC (by decide) (by simp [frL]) rfl ?_)
    refine e_cs (e_gsb (k := f) (j := 4) (by simp) (by simp) (gs_eq tC) (by decide) (by simp [frL]) rfl ?_)
    refine e_cs (e_gsb (k := f) (j := 5) (by simp) (by simp) (gs_eq (gs_eq tC)) (by decide) (by simp [frL]) (ys := frL T.length fb (wakeS K d m p st) e0) rfl ?_)
    rw [List.set_set, List.set_set, List.set_set]
    refine e_nl (e_ret (d := .dat (.bool true)) (by simp; rfl) ⟨T.length, rfl, gA.set (frL_ok (by omega) (by omega)), ⟨⟨_, gs_eq tA⟩, ?_, ?_, by omega, F.n2, by omega⟩, ?_⟩)
    · rw [gs_ne (by omega), aA]
      show _ = some (some ((encF (mendF st.cells (wr K d m st.cells p))).map Vd.dat))
      rw [hc]
    · rw [gs_ne (Ne.symm F.n2), bA]
      rfl
    · refine ⟨by simp; omega, .inr (Nat.le_refl _), .inl rfl, fun k h1 h2 h3 h4 => ?_⟩
      rw [gs_ne h2, rA k h1]
  obtain ⟨d', T', e, fa', rfl, q⟩ := main
  exact ⟨T', fa', e, q⟩
end
end Hr
set_option Elab.async false
set_option linter.all false
set_option maxRecDepth 100000
set_option maxHeartbeats 4000000
namespace Hr
open PySem PySem.Spec PyProof.Rows L2
/-! ### the ring: numbers -/
section
variable {K d m : Int}
theorem Sh.ks (s : Sh K d m) : (K = 3 ∨ K = 4 ∨ K = 5 ∨ K = 6 ∨ K = 7) ∧ (m = 2 ∨ m = 3) := by
  have := s.k1
  have := s.k2
  have := s.m1
  have := s.m2
  omega
theorem cong_of (s : Sh K d m) {u v : Int} (h : u % K = v % K) (h2 : u / K % m = v / K % m) : (u - v) % (K * m) = 0 := by
  obtain ⟨rfl | rfl | rfl | rfl | rfl, rfl | rfl⟩ := s.ks <;> omega
theorem of_cong (s : Sh K d m) {u v : Int} (h : (u - v) % (K * m) = 0) : u % K = v % K ∧ u / K % m = v / K % m := by
  obtain ⟨rfl | rfl | rfl | rfl | rfl, rfl | rfl⟩ := s.ks <;> omega
theorem cong_eq (s : Sh K d m) {u v : Int} (h : (u - v) % (K * m) = 0) (h1 : u - v < K * m) (h2 : v - u < K * m) : u = v := by
  obtain ⟨rfl | rfl | rfl | rfl | rfl, rfl | rfl⟩ := s.ks <;> omega
theorem mod_eq (s : Sh K d m) {u v : Int} (h : u % K = v % K) (h1 : u - v < K) (h2 : v - u < K) : u = v := by
  obtain ⟨rfl | rfl | rfl | rfl | rfl, rfl | rfl⟩ := s.ks <;> omega
theorem mod_sub (s : Sh K d m) (u : Int) : (u - K) % K = u % K := by
  obtain ⟨rfl | rfl | rfl | rfl | rfl, rfl | rfl⟩ := s.ks <;> omega
theorem turn_ge (s : Sh K d m) : 2 * K ≤ K * m ∧ 3 * d < K * m := by
  have h := s.safe
  obtain ⟨rfl | rfl | rfl | rfl | rfl, rfl | rfl⟩ := s.ks <;> omega
theorem cong_self (s : Sh K d m) (e : Int) : (e % (K * m) - e) % (K * m) = 0 ∧ 0 ≤ e % (K * m) ∧ e % (K * m) < K * m := by
  obtain ⟨rfl | rfl | rfl | rfl | rfl, rfl | rfl⟩ := s.ks <;> omega
theorem cong_shift (s : Sh K d m) {u v : Int} (h : (u - v) % (K * m) = 0) (j : Int) : (u + j - (v + j)) % (K * m) = 0 := by
  rwa [show u + j - (v + j) = u - v by omega]
theorem cong_symm (s : Sh K d m) {u v : Int} (h : (u - v) % (K * m) = 0) : (v - u) % (K * m) = 0 := by
  obtain ⟨rfl | rfl | rfl | rfl | rfl, rfl | rfl⟩ := s.ks <;> omega
theorem cong_trans (s : Sh K d m) {u v w : Int} (h : (u - v) % (K * m) = 0) (h2 : (v - w) % (K * m) = 0) : (u - w) % (K * m) = 0 := by
  obtain ⟨rfl | rfl | rfl | rfl | rfl, rfl | rfl⟩ := s.ks <;> omega
theorem cong_turn (s : Sh K d m) (u : Int) : (u + K * m - u) % (K * m) = 0 := by
  obtain ⟨rfl | rfl | rfl | rfl | rfl, rfl | rfl⟩ := s.ks <;> omega
theorem cong_mod (s : Sh K d m) {u v : Int} (h : (u - v) % (K * m) = 0) : u % (K * m) = v % (K * m) := by
  obtain ⟨rfl | rfl | rfl | rfl | rfl, rfl | rfl⟩ := s.ks <;> omega
theorem mod_cong (s : Sh K d m) {u v : Int} (h : u % (K * m) = v % (K * m)) : (u - v) % (K * m) = 0 := by
  obtain ⟨rfl | rfl | rfl | rfl | rfl, rfl | rfl⟩ := s.ks <;> omega
/-- the nearest number that is not below a -/
theorem cong_above (s : Sh K d m) (u a : Int) : ∃ v, (v - u) % (K * m) = 0 ∧ a ≤ v ∧ v < a + K * m := by
  refine ⟨a + (u - a) % (K * m), ?_⟩
  obtain ⟨rfl | rfl | rfl | rfl | rfl, rfl | rfl⟩ := s.ks <;> omega
/-! shown numbers -/
variable {f : List Cell}
theorem shows_cong (s : Sh K d m) {u v : Int} (h : (u - v) % (K * m) = 0) : shows K m f u = shows K m f v := by
  obtain ⟨h1, h2⟩ := of_cong s h
  unfold shows
  rw [h1, h2]
theorem whole_cong (s : Sh K d m) {u v : Int} (h : (u - v) % (K * m) = 0) (w : Whole K d m f u) : Whole K d m f v := fun j h1 h2 => by
  rw [← shows_cong s (u := u - j) (v := v - j) (by rwa [show u - j - (v - j) = u - v by omega])]
  exact w j h1 h2
theorem shows_iff {u : Int} : shows K m f u = true ↔ ∃ r, f[(u % K).toNat]? = some (some (u / K % m, r)) := by
  unfold shows
  constructor
  · intro h
    split at h
    · rename_i l r e
      have : l = u / K % m := of_decide_eq_true h
      exact ⟨r, by rw [e, this]⟩
    · cases h
  · rintro ⟨r, e⟩
    rw [e]
    exact decide_eq_true rfl
/-- two numbers shown by one cell -/
theorem shows_two (s : Sh K d m) {u v : Int} (h : u % K = v % K) (hu : shows K m f u = true) (hv : shows K m f v = true) : (u - v) % (K * m) = 0 := by
  obtain ⟨r, e⟩ := shows_iff.mp hu
  obtain ⟨q, e2⟩ := shows_iff.mp hv
  rw [h] at e
  rw [e] at e2
  have := Option.some.inj (Option.some.inj e2)
  exact cong_of s h (congrArg Prod.fst this)
/-! ### a store asleep: s is where the flight began, e where it was cut, b its end -/
structure Asl (K d m : Int) (f : List Cell) (s e b : Int) : Prop where
  face : FaceOk K m f
  s0 : 0 ≤ s
  se : s ≤ e
  eb : e ≤ b
  bs : b ≤ s + d
  arc : ∀ i : Nat, (i : Int) < K → f[i]? = some none ∨ ∃ u, s - K ≤ u ∧ u < b ∧ u % K = i ∧ shows K m f u = true
  ws : Whole K d m f s
  we : Whole K d m f e
  no : ∀ q, e < q → q ≤ b → ¬ Whole K d m f q
variable {s e b : Int}
theorem idx (S : Sh K d m) (u : Int) : 0 ≤ u % K ∧ u % K < K := by
  have h1 := S.k1
  exact ⟨Int.emod_nonneg _ (by omega), Int.emod_lt_of_pos _ (by omega)⟩
/-- a shown number is that of one on the arc -/
theorem Asl.on (A : Asl K d m f s e b) (S : Sh K d m) {v : Int} (h : shows K m f v = true) : ∃ u, s - K ≤ u ∧ u < b ∧ (u - v) % (K * m) = 0 ∧ u % K = v % K := by
  obtain ⟨h0, h1⟩ := idx S v
  rcases A.arc (v % K).toNat (by omega) with q | ⟨u, a1, a2, a3, a4⟩
  · obtain ⟨r, e⟩ := shows_iff.mp h
    rw [q] at e
    cases e
  · have : u % K = v % K := by omega
    exact ⟨u, a1, a2, shows_two S this a4 h, this⟩
/-- a whole place is that of one between s - d and b -/
theorem Asl.place (A : Asl K d m f s e b) (S : Sh K d m) {p : Int} (w : Whole K d m f p) : ∃ q, s - d ≤ q ∧ q ≤ b ∧ (q - p) % (K * m) = 0 := by
  have hd := S.d2
  have hd1 := S.d1
  have ht := turn_ge S
  obtain ⟨u, u1, u2, u3, _⟩ := A.on S (w 1 (by omega) (by omega))
  have c : (u + 1 - p) % (K * m) = 0 := by rwa [show u + 1 - p = u - (p - 1) by omega]
  have w2 : Whole K d m f (u + 1) := whole_cong S (cong_symm S c) w
  refine ⟨u + 1, ?_, by omega, c⟩
  obtain ⟨v, v1, v2, v3, _⟩ := A.on S (w2 (K - d) (by omega) (by omega))
  by_cases q : s - K ≤ u + 1 - (K - d)
  · omega
  · have hbs := A.bs
    have : v = u + 1 - (K - d) := cong_eq S v3 (by omega) (by omega)
    omega
/-- e, and no other, is far -/
theorem Asl.far_e (A : Asl K d m f s e b) (S : Sh K d m) {q : Int} (h1 : e < q) (h2 : q ≤ e + d) : ¬ Whole K d m f q := fun w => by
  have ht := turn_ge S
  obtain ⟨p, p1, p2, p3⟩ := A.place S w
  have h3 := A.se
  have h4 := A.eb
  have h5 := A.bs
  have h6 := S.d2
  have : p = q := cong_eq S p3 (by omega) (by omega)
  subst this
  exact A.no p h1 p2 w
theorem Asl.far_one (A : Asl K d m f s e b) (S : Sh K d m) {p : Int} (w : Whole K d m f p) (far : ∀ q, p < q → q ≤ p + d → ¬ Whole K d m f q) : (p - e) % (K * m) = 0 := by
  obtain ⟨q, q1, q2, q3⟩ := A.place S w
  have h3 := A.se
  have h4 := A.eb
  have h5 := A.bs
  have wq : Whole K d m f q := whole_cong S (cong_symm S q3) w
  have fq : ∀ r, q < r → r ≤ q + d → ¬ Whole K d m f r := fun r r1 r2 wr => far (r + (p - q)) (by omega) (by omega) (whole_cong S (by
    have := cong_symm S q3
    rwa [show r - (r + (p - q)) = q - p by omega]) wr)
  have : q = e := by
    by_cases c1 : q < s
    · exact absurd A.ws (fq s c1 (by omega))
    · by_cases c2 : q < e
      · exact absurd A.we (fq e c2 (by omega))
      · by_cases c3 : e < q
        · exact absurd wq (A.no q c3 q2)
        · omega
  subst this
  exact cong_symm S q3
end
/-! ### the answer -/
theorem lt_of' {α : Type} {l : List α} {i : Nat} {x : α} (h : l[i]? = some x) : i < l.length := (List.getElem?_eq_some_iff.mp h).1
theorem filter_one {α : Type} {p : α → Bool} : ∀ {l : List α} {i : Nat} {x : α}, l[i]? = some x → (∀ (j : Nat) (y : α), l[j]? = some y → (p y = true ↔ j = i)) → l.filter p = [x]
  | [], i, x, h, _ => by simp at h
  | a :: l, 0, x, h, q => by
    have ea : a = x := by simpa using h
    subst ea
    have h1 : p a = true := (q 0 a (by simp)).mpr rfl
    have h2 : l.filter p = [] := List.filter_eq_nil_iff.mpr fun y hy => by
      obtain ⟨j, hj⟩ := List.mem_iff_getElem?.mp hy
      intro hp
      have := (q (j + 1) y (by simpa using hj)).mp hp
      omega
    rw [List.filter_cons_of_pos h1, h2]
  | a :: l, i + 1, x, h, q => by
    have h1 : ¬ p a = true := fun hp => by
      have := (q 0 a (by simp)).mp hp
      omega
    rw [List.filter_cons_of_neg h1]
    exact filter_one (i := i) (by simpa using h) fun j y hj => by
      have := q (j + 1) y (by simpa using hj)
      constructor
      · intro hp
        have := this.mp hp
        omega
      · intro e
        exact this.mpr (by omega)
section
variable {K d m : Int} {f : List Cell}
theorem mem_wholes (S : Sh K d m) {p : Int} : p ∈ wholes K d m f ↔ 0 ≤ p ∧ p < K * m ∧ Whole K d m f p := by
  have ht := turn_lt S
  unfold wholes
  rw [List.mem_filter, wholeB_iff, List.mem_map]
  constructor
  · rintro ⟨⟨j, hj, rfl⟩, w⟩
    rw [List.mem_range] at hj
    exact ⟨by omega, by omega, w⟩
  · rintro ⟨h0, h1, w⟩
    exact ⟨⟨p.toNat, List.mem_range.mpr (by omega), by omega⟩, w⟩
theorem wholes_lt : (wholes K d m f).Pairwise (· < ·) := by
  unfold wholes
  refine List.Pairwise.filter _ ?_
  rw [List.pairwise_map]
  exact List.Pairwise.imp (fun h => by omega) List.pairwise_lt_range
theorem lt_get {l : List Int} (h : l.Pairwise (· < ·)) {i j : Nat} (hi : i < l.length) (hj : j < l.length) (hij : i < j) : l[i] < l[j] := List.pairwise_iff_getElem.mp h i j hi hj hij
/-- the next whole place is more than d away -/
theorem far_iff_l (S : Sh K d m) {ws : List Int} (hm : ∀ p, p ∈ ws ↔ 0 ≤ p ∧ p < K * m ∧ Whole K d m f p) (hl : ws.Pairwise (· < ·)) {i : Nat} (hi : i < ws.length) :
    d < (if h2 : i + 1 < ws.length then ws[i + 1] else ws[0] + K * m) - ws[i] ↔ ∀ q, ws[i] < q → q ≤ ws[i] + d → ¬ Whole K d m f q := by
  have ht := turn_ge S
  have hk := S.k1
  have hd := S.d2
  obtain ⟨a0, a1, aw⟩ := (hm ws[i]).mp (List.getElem_mem hi)
  obtain ⟨z0, z1, zw⟩ := (hm ws[0]).mp (List.getElem_mem (by omega))
  have le : ∀ j (hj : j < ws.length), j ≤ i → ws[j] ≤ ws[i] := fun j hj h => by
    by_cases c : j = i
    · subst c
      omega
    · have := lt_get hl hj hi (by omega)
      omega
  constructor
  · intro h q q1 q2 w
    by_cases c : i + 1 < ws.length
    · rw [dif_pos c] at h
      have b1 := (hm ws[i + 1]).mp (List.getElem_mem c)
      obtain ⟨j, hj, ej⟩ := List.mem_iff_getElem.mp ((hm q).mpr ⟨by omega, by omega, w⟩)
      by_cases c2 : j ≤ i
      · have := le j hj c2
        omega
      · by_cases c3 : j = i + 1
        · subst c3
          omega
        · have := lt_get hl c hj (by omega)
          omega
    · rw [dif_neg c] at h
      by_cases c2 : q < K * m
      · obtain ⟨j, hj, ej⟩ := List.mem_iff_getElem.mp ((hm q).mpr ⟨by omega, c2, w⟩)
        have := le j hj (by omega)
        omega
      · have w2 : Whole K d m f (q - K * m) := whole_cong S (by
          have := cong_turn S (q - K * m)
          rwa [show q - K * m + K * m - (q - K * m) = q - (q - K * m) by omega] at this) w
        obtain ⟨j, hj, ej⟩ := List.mem_iff_getElem.mp ((hm (q - K * m)).mpr ⟨by omega, by omega, w2⟩)
        by_cases c3 : j = 0
        · subst c3
          omega
        · have := lt_get hl (by omega : 0 < ws.length) hj (by omega)
          omega
  · intro h
    by_cases c : i + 1 < ws.length
    · rw [dif_pos c]
      have b1 := (hm ws[i + 1]).mp (List.getElem_mem c)
      have b2 := lt_get hl hi c (by omega)
      by_cases c2 : d < ws[i + 1] - ws[i]
      · exact c2
      · exact absurd b1.2.2 (h _ b2 (by omega))
    · rw [dif_neg c]
      have w2 : Whole K d m f (ws[0] + K * m) := whole_cong S (cong_symm S (cong_turn S ws[0])) zw
      by_cases c2 : d < ws[0] + K * m - ws[i]
      · exact c2
      · exact absurd w2 (h _ (by omega) (by omega))
theorem far_iff (S : Sh K d m) {i : Nat} (hi : i < (wholes K d m f).length) :
    d < (if h2 : i + 1 < (wholes K d m f).length then (wholes K d m f)[i + 1] else (wholes K d m f)[0] + K * m) - (wholes K d m f)[i] ↔ ∀ q, (wholes K d m f)[i] < q → q ≤ (wholes K d m f)[i] + d → ¬ Whole K d m f q :=
  far_iff_l S (fun _ => mem_wholes S) wholes_lt hi
theorem Asl.answer {s e b : Int} (A : Asl K d m f s e b) (S : Sh K d m) : ans (wholes K d m f) (K * m) d = .int (e % (K * m)) := by
  obtain ⟨c1, c2, c3⟩ := cong_self S e
  have we : Whole K d m f (e % (K * m)) := whole_cong S (cong_symm S c1) A.we
  obtain ⟨i, hi, ei⟩ := List.mem_iff_getElem.mp ((mem_wholes S).mpr ⟨c2, c3, we⟩)
  have key : ∀ j (hj : j < (wholes K d m f).length), (d < (if h2 : j + 1 < (wholes K d m f).length then (wholes K d m f)[j + 1] else (wholes K d m f)[0] + K * m) - (wholes K d m f)[j]) ↔ j = i := fun j hj => by
    rw [far_iff S hj]
    constructor
    · intro h
      have h2 := (mem_wholes S).mp (List.getElem_mem hj)
      have h3 := A.far_one S h2.2.2 h
      have h4 : (wholes K d m f)[j] = (wholes K d m f)[i] := by
        rw [ei]
        exact cong_eq S (cong_trans S h3 (cong_symm S c1)) (by omega) (by omega)
      rcases Nat.lt_trichotomy j i with q | q | q
      · have := lt_get wholes_lt hj hi q
        omega
      · exact q
      · have := lt_get wholes_lt hi hj q
        omega
    · rintro rfl q q1 q2 w
      rw [ei] at q1 q2
      exact A.far_e S (q := q + (e - e % (K * m))) (by omega) (by omega) (whole_cong S (by
        rwa [show q - (q + (e - e % (K * m))) = e % (K * m) - e by omega]) w)
  unfold ans
  have hf : far (wholes K d m f) (K * m) d = [e % (K * m)] := by
    unfold far
    have hg : ∀ j (hj : j < (wholes K d m f).length), ((wholes K d m f).zip (laters (wholes K d m f) (K * m)))[j]? = some ((wholes K d m f)[j], (if h2 : j + 1 < (wholes K d m f).length then (wholes K d m f)[j + 1] else (wholes K d m f)[0] + K * m)) := fun j hj => by
      rw [List.getElem?_zip_eq_some]
      exact ⟨List.getElem?_eq_getElem hj, laters_get hj⟩
    rw [filter_one (hg i hi) fun j y hy => ?_]
    · show [(wholes K d m f)[i]] = _
      rw [ei]
    · have hj : j < (wholes K d m f).length := by
        have := lt_of' hy
        rw [List.length_zip] at this
        omega
      rw [hg j hj] at hy
      have := Option.some.inj hy
      subst this
      rw [decide_eq_true_iff]
      exact key j hj
  rw [hf]
end
end Hr
set_option Elab.async false
set_option linter.all false
set_option maxRecDepth 100000
set_option maxHeartbeats 4000000
namespace Hr
open PySem PySem.Spec PyProof.Rows L2
/-! ### cells written -/
theorem fall_get (qs : List (Wr × Fate)) : ∀ (f : List Cell) (i : Nat), i < f.length → (fall f qs)[i]? = f[i]? ∨ ∃ q ∈ qs, q.1.1.toNat = i ∧ ((fall f qs)[i]? = some none ∨ (fall f qs)[i]? = some (some q.1.2)) := by
  induction qs with
  | nil => exact fun f i _ => .inl rfl
  | cons q qs ih =>
    intro f i hi
    rcases ih (fall1 f q) i (by rw [fall1_len]; exact hi) with h | ⟨p, hp, h1, h2⟩
    · have e : (fall f (q :: qs))[i]? = (fall1 f q)[i]? := h
      by_cases c : q.1.1.toNat = i
      · unfold fall1 at e
        split at e
        · exact .inl e
        · right
          refine ⟨q, by simp, c, .inr ?_⟩
          rw [e, c, List.getElem?_set_self hi]
        · right
          refine ⟨q, by simp, c, .inl ?_⟩
          rw [e, c, List.getElem?_set_self hi]
      · left
        rw [e]
        unfold fall1
        split
        · rfl
        · rw [List.getElem?_set_ne c]
        · rw [List.getElem?_set_ne c]
    · exact .inr ⟨p, by simp [hp], h1, h2⟩
theorem mend_get (ws : List Wr) : ∀ (f : List Cell) (i : Nat), i < f.length → ((mendF f ws)[i]? = f[i]? ∧ ∀ w ∈ ws, w.1.toNat ≠ i) ∨ ∃ w ∈ ws, w.1.toNat = i ∧ (mendF f ws)[i]? = some (some w.2) := by
  induction ws with
  | nil => exact fun f i _ => .inl ⟨rfl, fun w h => by cases h⟩
  | cons w ws ih =>
    intro f i hi
    have e : mendF f (w :: ws) = mendF (f.set w.1.toNat (some w.2)) ws := by
      unfold mendF
      rw [zip_news, zip_news]
      rfl
    rw [e]
    rcases ih (f.set w.1.toNat (some w.2)) i (by simpa using hi) with ⟨h1, h2⟩ | ⟨u, hu, h1, h2⟩
    · by_cases c : w.1.toNat = i
      · right
        refine ⟨w, by simp, c, ?_⟩
        rw [h1, c, List.getElem?_set_self hi]
      · left
        refine ⟨by rw [h1, List.getElem?_set_ne c], fun u hu => ?_⟩
        rcases List.mem_cons.mp hu with rfl | hu
        · exact c
        · exact h2 u hu
    · exact .inr ⟨u, by simp [hu], h1, h2⟩
section
variable {K d m : Int} {f f' : List Cell} {s e b : Int}
theorem shows_same {u : Int} (h : f'[(u % K).toNat]? = f[(u % K).toNat]?) : shows K m f' u = shows K m f u := by
  unfold shows
  rw [h]
theorem mem_wr {w : Wr} : w ∈ wr K d m f e ↔ ∃ j : Int, 0 ≤ j ∧ j < d ∧ isW K m f (e + j) = true ∧ w = ((e + j) % K, ((e + j - K) / K % m, blankD)) := by
  unfold wr
  rw [List.mem_map]
  constructor
  · rintro ⟨j, hj, rfl⟩
    rw [List.mem_filter, List.mem_range] at hj
    exact ⟨j, by omega, by omega, hj.2, rfl⟩
  · rintro ⟨j, h0, h1, h2, rfl⟩
    refine ⟨j.toNat, List.mem_filter.mpr ⟨List.mem_range.mpr (by omega), ?_⟩, ?_⟩
    · rwa [show ((j.toNat : Nat) : Int) = j by omega]
    · rw [show ((j.toNat : Nat) : Int) = j by omega]
theorem wr_cong (S : Sh K d m) {p : Int} (h : (p - e) % (K * m) = 0) : wr K d m f p = wr K d m f e := by
  unfold wr
  have h1 : ∀ j : Nat, (p + (j : Int)) % K = (e + (j : Int)) % K := fun j => (of_cong S (cong_shift S h j)).1
  have h2 : ∀ j : Nat, (p + (j : Int) - K) / K % m = (e + (j : Int) - K) / K % m := fun j => (of_cong S (u := p + j - K) (v := e + j - K) (by rwa [show p + (j : Int) - K - (e + (j : Int) - K) = p - e by omega])).2
  have h3 : ∀ j : Nat, isW K m f (p + (j : Int)) = isW K m f (e + (j : Int)) := fun j => by
    unfold isW
    rw [h1 j, shows_cong S (u := p + j - K) (v := e + j - K) (by rwa [show p + (j : Int) - K - (e + (j : Int) - K) = p - e by omega])]
  simp only [h1, h2, h3]
theorem isW_not {n : Int} (h : isW K m f n = true) : shows K m f (n - K) = false := by
  unfold isW at h
  split at h
  · cases h
  · simpa using h
theorem not_isW (S : Sh K d m) (hf : (f.length : Int) = K) {n : Int} (h : isW K m f n = false) : f[(n % K).toNat]? = some none ∨ shows K m f (n - K) = true := by
  obtain ⟨h0, h1⟩ := idx S n
  unfold isW at h
  split at h
  · exact .inl (by assumption)
  · exact .inr (by simpa using h)
theorem lap_ok (S : Sh K d m) (u : Int) : 0 ≤ u / K % m ∧ u / K % m < m := by
  have h := S.m1
  exact ⟨Int.emod_nonneg _ (by omega), Int.emod_lt_of_pos _ (by omega)⟩
theorem mod2 (S : Sh K d m) {u v : Int} (h : u % K = v % K) (h1 : v < u) (h2 : u < v + 2 * K) : u = v + K := by
  obtain ⟨rfl | rfl | rfl | rfl | rfl, rfl | rfl⟩ := S.ks <;> omega
/-! ### mending, cut anywhere, keeps what is asleep -/
structure Kept (K d m : Int) (f f' : List Cell) (s e b : Int) : Prop where
  asl : Asl K d m f' s e b
  win : ∀ j, 1 ≤ j → j ≤ K - d → f'[((e - j) % K).toNat]? = f[((e - j) % K).toNat]?
theorem Asl.keep (A : Asl K d m f s e b) (S : Sh K d m) {qs : List (Wr × Fate)} (hq : ∀ q ∈ qs, q.1 ∈ wr K d m f e) : Kept K d m f (fall f qs) s e b := by
  have hfl := A.face.len
  have hd := S.d2
  have hd1 := S.d1
  have hse := A.se
  have heb := A.eb
  have hbs := A.bs
  have ht := turn_ge S
  have hl : ((fall f qs).length : Int) = K := by rw [fall_len, hfl]
  -- a touched cell
  have key : ∀ i : Nat, (i : Int) < K → (fall f qs)[i]? = f[i]? ∨ ∃ j, 0 ≤ j ∧ j < d ∧ isW K m f (e + j) = true ∧ (e + j) % K = i ∧ ((fall f qs)[i]? = some none ∨ (fall f qs)[i]? = some (some ((e + j - K) / K % m, blankD))) := by
    intro i hi
    rcases fall_get qs f i (by omega) with h | ⟨q, hq1, h1, h2⟩
    · exact .inl h
    · obtain ⟨j, j0, j1, j2, j3⟩ := mem_wr.mp (hq q hq1)
      rw [j3] at h1 h2
      have := (idx S (e + j)).1
      exact .inr ⟨j, j0, j1, j2, by have : ((e + j) % K).toNat = i := h1; omega, h2⟩
  have nat : ∀ v : Int, (((v % K).toNat : Nat) : Int) = v % K ∧ (((v % K).toNat : Nat) : Int) < K := fun v => by
    have := idx S v
    omega
  have win : ∀ j, 1 ≤ j → j ≤ K - d → (fall f qs)[((e - j) % K).toNat]? = f[((e - j) % K).toNat]? := fun j h1 h2 => by
    rcases key ((e - j) % K).toNat (nat _).2 with h | ⟨t, t0, t1, t2, t3, _⟩
    · exact h
    · rw [(nat (e - j)).1] at t3
      have := mod_eq S t3 (by omega) (by omega)
      omega
  have wins : ∀ j, 1 ≤ j → j ≤ K - d → (fall f qs)[((s - j) % K).toNat]? = f[((s - j) % K).toNat]? := fun j h1 h2 => by
    rcases key ((s - j) % K).toNat (nat _).2 with h | ⟨t, t0, t1, t2, t3, _⟩
    · exact h
    · rw [(nat (s - j)).1] at t3
      have e1 := mod2 S t3 (by omega) (by omega)
      have e2 := isW_not t2
      rw [e1, show s - j + K - K = s - j by omega, A.ws j h1 h2] at e2
      cases e2
  refine ⟨⟨⟨hl, fun c hc => ?_⟩, A.s0, hse, heb, hbs, fun i hi => ?_, fun j h1 h2 => ?_, fun j h1 h2 => ?_, fun q q1 q2 w => ?_⟩, win⟩
  · obtain ⟨i, hi⟩ := List.mem_iff_getElem?.mp hc
    have hi2 := lt_of' hi
    rcases key i (by omega) with h | ⟨t, _, _, _, _, h | h⟩
    · rw [hi] at h
      exact A.face.ok c (List.mem_of_getElem? h.symm)
    · rw [hi] at h
      cases h
      trivial
    · rw [hi] at h
      cases h
      exact ⟨(lap_ok S _).1, (lap_ok S _).2, .blank⟩
  · rcases key i hi with h | ⟨t, t0, t1, t2, t3, h | h⟩
    · rcases A.arc i hi with q | ⟨u, u1, u2, u3, u4⟩
      · exact .inl (h.trans q)
      · refine .inr ⟨u, u1, u2, u3, ?_⟩
        rw [shows_same (f := f) (by rw [u3, Int.toNat_natCast]; exact h)]
        exact u4
    · exact .inl h
    · refine .inr ⟨e + t - K, by omega, by omega, by rw [mod_sub S, t3], shows_iff.mpr ⟨blankD, ?_⟩⟩
      rw [mod_sub S, t3, Int.toNat_natCast]
      exact h
  · rw [shows_same (wins j h1 h2)]
    exact A.ws j h1 h2
  · rw [shows_same (win j h1 h2)]
    exact A.we j h1 h2
  · refine A.no q q1 q2 fun j h1 h2 => ?_
    have hv := w j h1 h2
    rcases key ((q - j) % K).toNat (nat _).2 with h | ⟨t, t0, t1, t2, t3, h | h⟩
    · rw [← shows_same h]
      exact hv
    · obtain ⟨r, er⟩ := shows_iff.mp hv
      rw [h] at er
      cases er
    · rw [(nat (q - j)).1] at t3
      have hu : shows K m (fall f qs) (e + t - K) = true := shows_iff.mpr ⟨blankD, by rw [mod_sub S, t3]; exact h⟩
      have := cong_eq S (shows_two S (by rw [mod_sub S, t3]) hv hu) (by omega) (by omega)
      omega
theorem mendF_qs {ws : List Wr} {q : Wr × Fate} (h : q ∈ ws.zip (news ws.length)) : q.1 ∈ ws := (List.of_mem_zip h).1
/-- mended to its end: every cell ahead of e is torn or shown -/
theorem Asl.full (A : Asl K d m f s e b) (S : Sh K d m) {j : Int} (j0 : 0 ≤ j) (j1 : j < d) : (mendF f (wr K d m f e))[((e + j) % K).toNat]? = some none ∨ shows K m (mendF f (wr K d m f e)) (e + j - K) = true := by
  have hfl := A.face.len
  have hd := S.d2
  obtain ⟨h0, h1⟩ := idx S (e + j)
  rcases mend_get (wr K d m f e) f ((e + j) % K).toNat (by omega) with ⟨h, hn⟩ | ⟨w, hw, h2, h3⟩
  · cases c : isW K m f (e + j) with
    | true =>
      exact absurd rfl (hn _ (mem_wr.mpr ⟨j, j0, j1, c, rfl⟩))
    | false =>
      rcases not_isW S hfl c with q | q
      · exact .inl (h.trans q)
      · right
        rw [shows_same (f := f) (by rw [mod_sub S]; exact h)]
        exact q
  · obtain ⟨t, t0, t1, t2, rfl⟩ := mem_wr.mp hw
    have h4 : ((e + t) % K).toNat = ((e + j) % K).toNat := h2
    have := (idx S (e + t)).1
    have := mod_eq S (u := e + t) (v := e + j) (by omega) (by omega) (by omega)
    have : t = j := by omega
    subst this
    exact .inr (shows_iff.mpr ⟨blankD, by rw [mod_sub S]; exact h3⟩)
end
end Hr
set_option Elab.async false
set_option linter.all false
set_option maxRecDepth 100000
set_option maxHeartbeats 4000000
namespace Hr
open PySem PySem.Spec PyProof.Rows L2
/-! ### a store awake -/
structure Aw (K d m : Int) (st : LSt) : Prop where
  face : FaceOk K m st.cells
  aw : st.aw = true
  len : (st.flight.length : Int) ≤ d
  s0 : (st.flight.length : Int) ≤ st.n
  fl : ∀ (i : Nat) w, st.flight[i]? = some w → ∃ r, Note r ∧ w = ((st.n - st.flight.length + i) % K, ((st.n - st.flight.length + i) / K % m, r))
  win : Whole K d m st.cells (st.n - st.flight.length)
  rest : ∀ j, 0 ≤ j → j < d → st.cells[((st.n - st.flight.length + j) % K).toNat]? = some none ∨ shows K m st.cells (st.n - st.flight.length + j - K) = true
structure AslS (K d m : Int) (st : LSt) (e : Int) : Prop where
  asl : Asl K d m st.cells st.lo e st.hi
  aw : st.aw = false
  fl : st.flight = []
section
variable {K d m : Int} {st : LSt}
theorem Aw.inr (A : Aw K d m st) (S : Sh K d m) : InR st.cells.length st.flight := fun w hw => by
  obtain ⟨i, hi⟩ := List.mem_iff_getElem?.mp hw
  obtain ⟨r, _, rfl⟩ := A.fl i w hi
  have h := idx S (st.n - st.flight.length + i)
  have := A.face.len
  exact ⟨h.1, by omega⟩
theorem start_aw (S : Sh K d m) : Aw K d m (startS K m) := by
  have k1 := S.k1
  have d1 := S.d1
  have d2 := S.d2
  have m1 := S.m1
  have hl : ((startC K m).length : Int) = K := by simp [startC]; omega
  have sh : ∀ j : Int, 1 ≤ j → j ≤ K → shows K m (startC K m) (0 - j) = true := fun j h1 h2 => by
    obtain ⟨i0, i1⟩ := idx S (0 - j)
    refine shows_iff.mpr ⟨blankD, ?_⟩
    have e1 : (0 - j) / K % m = m - 1 := by
      obtain ⟨rfl | rfl | rfl | rfl | rfl, rfl | rfl⟩ := S.ks <;> omega
    rw [e1]
    unfold startC
    rw [List.getElem?_replicate, if_pos (by omega)]
  refine ⟨⟨hl, fun c hc => ?_⟩, rfl, by simp [startS]; omega, by simp [startS], fun i w h => by simp [startS] at h, fun j h1 h2 => ?_, fun j h1 h2 => .inr ?_⟩
  · have : c = some (m - 1, blankD) := List.eq_of_mem_replicate hc
    subst this
    exact ⟨by omega, by omega, .blank⟩
  · show shows K m (startC K m) ((0 : Int) - (0 : Nat) - j) = true
    rw [show (0 : Int) - (0 : Nat) - j = 0 - j by omega]
    exact sh j h1 (by omega)
  · show shows K m (startC K m) ((0 : Int) - (0 : Nat) + j - K) = true
    rw [show (0 : Int) - (0 : Nat) + j - K = 0 - (K - j) by omega]
    exact sh (K - j) (by omega) (by omega)
theorem Aw.settle (A : Aw K d m st) (S : Sh K d m) : Aw K d m (settleS st) := by
  have hfl := A.face.len
  have k1 := S.k1
  have d1 := S.d1
  have d2 := S.d2
  have hL := A.len
  generalize hs : st.n - st.flight.length = s at *
  have hfl' := A.fl
  have hwin := A.win
  have hrest := A.rest
  rw [hs] at hfl' hwin hrest
  have nat : ∀ v : Int, (((v % K).toNat : Nat) : Int) = v % K ∧ (((v % K).toNat : Nat) : Int) < K := fun v => by
    have := idx S v
    omega
  have key : ∀ v : Int, ((mendF st.cells st.flight)[(v % K).toNat]? = st.cells[(v % K).toNat]? ∧ ∀ t : Int, 0 ≤ t → t < st.flight.length → (s + t) % K ≠ v % K) ∨
      ∃ t r, 0 ≤ t ∧ t < st.flight.length ∧ (s + t) % K = v % K ∧ Note r ∧ (mendF st.cells st.flight)[(v % K).toNat]? = some (some ((s + t) / K % m, r)) := by
    intro v
    have hv := nat v
    rcases mend_get st.flight st.cells (v % K).toNat (by omega) with ⟨h, hn⟩ | ⟨w, hw, h2, h3⟩
    · refine .inl ⟨h, fun t t0 t1 et => ?_⟩
      have hi : st.flight[t.toNat]? = some st.flight[t.toNat] := List.getElem?_eq_getElem (by omega)
      obtain ⟨r, _, ew⟩ := hfl' t.toNat _ hi
      refine hn _ (List.getElem_mem (by omega : t.toNat < st.flight.length)) ?_
      rw [ew]
      show ((s + (t.toNat : Nat)) % K).toNat = _
      rw [show (s + ((t.toNat : Nat) : Int)) = s + t by omega, et]
    · obtain ⟨i, hi⟩ := List.mem_iff_getElem?.mp hw
      have hi2 := lt_of' hi
      obtain ⟨r, hr, rfl⟩ := hfl' i w hi
      have h4 : ((s + (i : Int)) % K).toNat = (v % K).toNat := h2
      have := (idx S (s + i)).1
      exact .inr ⟨i, r, by omega, by omega, by omega, hr, h3⟩
  have sh : ∀ v : Int, s - (K - d) ≤ v → v < st.n → st.n - v ≤ K → (v < s → shows K m st.cells v = true) → shows K m (mendF st.cells st.flight) v = true := by
    intro v v1 v2 v3 v4
    rcases key v with ⟨h, hn⟩ | ⟨t, r, t0, t1, t2, hr, h⟩
    · rw [shows_same h]
      by_cases c : v < s
      · exact v4 c
      · exact absurd (by rw [show s + (v - s) = v by omega]) (hn (v - s) (by omega) (by omega))
    · have : s + t = v := mod_eq S t2 (by omega) (by omega)
      exact shows_iff.mpr ⟨r, by rw [← this] at h ⊢; exact h⟩
  have hz : (settleS st).n - ((settleS st).flight.length : Nat) = st.n := by simp [settleS]
  refine ⟨⟨by show ((mendF st.cells st.flight).length : Int) = K; rw [mendF_len, hfl], fun c hc => ?_⟩, A.aw, by simp [settleS]; omega, by have := A.s0; simp [settleS]; omega, fun i w h => by simp [settleS] at h, fun j h1 h2 => ?_, fun j h1 h2 => ?_⟩
  · obtain ⟨i, hi⟩ := List.mem_iff_getElem?.mp hc
    have hi2 := lt_of' hi
    have hi3 : ((i : Int) % K).toNat = i := by
      have h5 : (mendF st.cells st.flight).length = st.cells.length := mendF_len _ _
      have h6 : i < (mendF st.cells st.flight).length := hi2
      rw [Int.emod_eq_of_lt (by omega) (by omega)]
      omega
    have hi4 : (mendF st.cells st.flight)[i]? = some c := hi
    rcases key i with ⟨h, _⟩ | ⟨t, r, _, _, _, hr, h⟩
    · rw [hi3, hi4] at h
      exact A.face.ok c (List.mem_of_getElem? h.symm)
    · rw [hi3, hi4] at h
      cases h
      exact ⟨(lap_ok S _).1, (lap_ok S _).2, hr⟩
  · rw [hz]
    show shows K m (mendF st.cells st.flight) (st.n - j) = true
    refine sh _ (by omega) (by omega) (by omega) fun q => ?_
    have := hwin (s - (st.n - j)) (by omega) (by omega)
    rwa [show s - (s - (st.n - j)) = st.n - j by omega] at this
  · rw [hz]
    show (mendF st.cells st.flight)[((st.n + j) % K).toNat]? = some none ∨ shows K m (mendF st.cells st.flight) (st.n + j - K) = true
    have em : (st.n + j - K) % K = (st.n + j) % K := mod_sub S _
    rcases key (st.n + j - K) with ⟨h, hn⟩ | ⟨t, r, t0, t1, t2, hr, h⟩
    · by_cases c : st.n + j - K < s
      · by_cases c2 : s - (K - d) ≤ st.n + j - K
        · right
          rw [shows_same h]
          have := hwin (s - (st.n + j - K)) (by omega) (by omega)
          rwa [show s - (s - (st.n + j - K)) = st.n + j - K by omega] at this
        · have hr := hrest (st.n + j - s) (by omega) (by omega)
          rw [show s + (st.n + j - s) = st.n + j by omega] at hr
          rcases hr with hr | hr
          · left
            rw [em] at h
            exact h.trans hr
          · right
            rw [shows_same h]
            exact hr
      · exact absurd (by rw [show s + (st.n + j - K - s) = st.n + j - K by omega]) (hn (st.n + j - K - s) (by omega) (by omega))
    · right
      have : s + t = st.n + j - K := mod_eq S t2 (by omega) (by omega)
      exact shows_iff.mpr ⟨r, by rw [← this] at h ⊢; exact h⟩
theorem Aw.full (A : Aw K d m st) (S : Sh K d m) : Aw K d m (fullS d st) ∧ ((fullS d st).flight.length : Int) < d := by
  have d1 := S.d1
  unfold fullS
  by_cases c : (st.flight.length : Int) = d
  · rw [if_pos c]
    exact ⟨A.settle S, by simp [settleS]; omega⟩
  · rw [if_neg c]
    exact ⟨A, by have := A.len; omega⟩
theorem Aw.write (A : Aw K d m st) (S : Sh K d m) {r : PyData} (hr : Note r) : Aw K d m (writeS K d m st r) := by
  obtain ⟨B, hl⟩ := A.full S
  have hn := fullS_n d st
  unfold writeS
  rw [← hn]
  generalize fullS d st = st1 at *
  have hs : st1.n + 1 - ((st1.flight ++ [(st1.n % K, (st1.n / K % m, r))]).length : Nat) = st1.n - st1.flight.length := by simp; omega
  have hlen : ((st1.flight ++ [(st1.n % K, (st1.n / K % m, r))]).length : Int) = st1.flight.length + 1 := by simp
  refine ⟨B.face, B.aw, by show ((st1.flight ++ [(st1.n % K, (st1.n / K % m, r))]).length : Int) ≤ d; omega, by have := B.s0; show ((st1.flight ++ [(st1.n % K, (st1.n / K % m, r))]).length : Int) ≤ st1.n + 1; omega, fun i w h => ?_, ?_, ?_⟩
  · show ∃ r', Note r' ∧ w = ((st1.n + 1 - ((st1.flight ++ [(st1.n % K, (st1.n / K % m, r))]).length : Nat) + i) % K, ((st1.n + 1 - ((st1.flight ++ [(st1.n % K, (st1.n / K % m, r))]).length : Nat) + i) / K % m, r'))
    rw [hs]
    have h' : (st1.flight ++ [(st1.n % K, (st1.n / K % m, r))])[i]? = some w := h
    rcases get_snoc h' with h | ⟨rfl, rfl⟩
    · exact B.fl i w h
    · refine ⟨r, hr, ?_⟩
      rw [show st1.n - (st1.flight.length : Int) + (st1.flight.length : Nat) = st1.n by omega]
  · show Whole K d m st1.cells (st1.n + 1 - ((st1.flight ++ [(st1.n % K, (st1.n / K % m, r))]).length : Nat))
    rw [hs]
    exact B.win
  · show ∀ j, 0 ≤ j → j < d → st1.cells[((st1.n + 1 - ((st1.flight ++ [(st1.n % K, (st1.n / K % m, r))]).length : Nat) + j) % K).toNat]? = some none ∨ shows K m st1.cells (st1.n + 1 - ((st1.flight ++ [(st1.n % K, (st1.n / K % m, r))]).length : Nat) + j - K) = true
    rw [hs]
    exact B.rest
theorem last_of {P : Int → Prop} {s : Int} (hs : P s) : ∀ (n : Nat) (b : Int), b = s + n → ∃ e, s ≤ e ∧ e ≤ b ∧ P e ∧ ∀ q, e < q → q ≤ b → ¬ P q
  | 0, b, h => ⟨s, by omega, by omega, hs, fun q h1 h2 => by omega⟩
  | n + 1, b, h => by
    by_cases c : P b
    · exact ⟨b, by omega, by omega, c, fun q h1 h2 => by omega⟩
    · obtain ⟨e, e1, e2, e3, e4⟩ := last_of hs n (b - 1) (by omega)
      refine ⟨e, e1, by omega, e3, fun q h1 h2 => ?_⟩
      by_cases c2 : q = b
      · subst c2
        exact c
      · exact e4 q h1 (by omega)
theorem Aw.cut (A : Aw K d m st) (S : Sh K d m) (ts : List Fate) : ∃ e, AslS K d m (cutS1 st ts) e := by
  have hfl := A.face.len
  have k1 := S.k1
  have d1 := S.d1
  have d2 := S.d2
  have hL := A.len
  have h0 := A.s0
  generalize hs : st.n - st.flight.length = s at *
  have hfl' := A.fl
  have hwin := A.win
  have hrest := A.rest
  rw [hs] at hfl' hwin hrest
  have hlo : (cutS1 st ts).lo = s := hs
  have hhi : (cutS1 st ts).hi = st.n := rfl
  have hce : (cutS1 st ts).cells = fall st.cells (st.flight.zip ts) := rfl
  have key : ∀ i : Nat, (i : Int) < K → (fall st.cells (st.flight.zip ts))[i]? = st.cells[i]? ∨ ∃ t r, 0 ≤ t ∧ t < st.flight.length ∧ (s + t) % K = i ∧ Note r ∧ ((fall st.cells (st.flight.zip ts))[i]? = some none ∨ (fall st.cells (st.flight.zip ts))[i]? = some (some ((s + t) / K % m, r))) := by
    intro i hi
    rcases fall_get (st.flight.zip ts) st.cells i (by omega) with h | ⟨q, hq, h1, h2⟩
    · exact .inl h
    · obtain ⟨t, ht⟩ := List.mem_iff_getElem?.mp (List.of_mem_zip (a := q.1) (b := q.2) hq).1
      have ht2 := lt_of' ht
      obtain ⟨r, hr, ew⟩ := hfl' t q.1 ht
      rw [ew] at h1 h2
      have h4 : ((s + (t : Int)) % K).toNat = i := h1
      have := (idx S (s + t)).1
      exact .inr ⟨t, r, by omega, by omega, by omega, hr, h2⟩
  have nat : ∀ v : Int, (((v % K).toNat : Nat) : Int) = v % K ∧ (((v % K).toNat : Nat) : Int) < K := fun v => by
    have := idx S v
    omega
  have wins : Whole K d m (fall st.cells (st.flight.zip ts)) s := fun j h1 h2 => by
    rcases key ((s - j) % K).toNat (nat _).2 with h | ⟨t, r, t0, t1, t2, _⟩
    · rw [shows_same h]
      exact hwin j h1 h2
    · rw [(nat (s - j)).1] at t2
      have := mod_eq S t2 (by omega) (by omega)
      omega
  obtain ⟨e, e1, e2, e3, e4⟩ := last_of (P := Whole K d m (fall st.cells (st.flight.zip ts))) wins st.flight.length st.n (by omega)
  refine ⟨e, ⟨?_, rfl, rfl⟩⟩
  rw [hlo, hhi, hce]
  refine ⟨⟨by rw [fall_len, hfl], fun c hc => ?_⟩, by omega, e1, e2, by omega, fun i hi => ?_, wins, e3, e4⟩
  · obtain ⟨i, hi⟩ := List.mem_iff_getElem?.mp hc
    have hi2 := lt_of' hi
    rw [fall_len] at hi2
    rcases key i (by omega) with h | ⟨t, r, _, _, _, hr, h | h⟩
    · rw [hi] at h
      exact A.face.ok c (List.mem_of_getElem? h.symm)
    · rw [hi] at h
      cases h
      trivial
    · rw [hi] at h
      cases h
      exact ⟨(lap_ok S _).1, (lap_ok S _).2, hr⟩
  · rcases key i hi with h | ⟨t, r, t0, t1, t2, hr, h | h⟩
    · -- the number of that cell behind s
      have hu : ∃ u, s - K ≤ u ∧ u < s ∧ u % K = i := by
        refine ⟨s - K + ((i : Int) - (s - K)) % K, ?_⟩
        obtain ⟨rfl | rfl | rfl | rfl | rfl, rfl | rfl⟩ := S.ks <;> omega
      obtain ⟨u, u1, u2, u3⟩ := hu
      have hsame : ∀ v : Int, v % K = i → shows K m (fall st.cells (st.flight.zip ts)) v = shows K m st.cells v := fun v hv => shows_same (by rw [hv, Int.toNat_natCast]; exact h)
      by_cases c : s - (K - d) ≤ u
      · refine .inr ⟨u, u1, by omega, u3, ?_⟩
        rw [hsame u u3]
        have := hwin (s - u) (by omega) (by omega)
        rwa [show s - (s - u) = u by omega] at this
      · rcases hrest (u + K - s) (by omega) (by omega) with q | q
        · left
          rw [show s + (u + K - s) = u + K by omega] at q
          have : (u + K) % K = u % K := by
            have := mod_sub S (u + K)
            rw [show u + K - K = u by omega] at this
            exact this.symm
          rw [this, u3, Int.toNat_natCast] at q
          exact h.trans q
        · right
          refine ⟨u, u1, by omega, u3, ?_⟩
          rw [hsame u u3]
          rwa [show s + (u + K - s) - K = u by omega] at q
    · exact .inl h
    · exact .inr ⟨s + t, by omega, by omega, t2, shows_iff.mpr ⟨r, by rw [t2, Int.toNat_natCast]; exact h⟩⟩
theorem AslS.mend {e p : Int} (A : AslS K d m st e) (S : Sh K d m) (hp : (p - e) % (K * m) = 0) (ts : List Fate) : AslS K d m (mendS1 K d m p st ts) e := by
  refine ⟨(A.asl.keep S fun q hq => ?_).asl, A.aw, A.fl⟩
  rw [← wr_cong S hp]
  exact List.mem_of_mem_take (List.of_mem_zip (a := q.1) (b := q.2) hq).1
theorem wakeN_eq {e s b : Int} (S : Sh K d m) (h1 : s ≤ e) (h2 : e ≤ b) (h3 : b ≤ s + d) : wakeN K m (e % (K * m)) s b = e := by
  have ht := turn_ge S
  have hd := S.d1
  have hg : goodsS K m (e % (K * m)) s b = [e] := by
    unfold goodsS
    have hx : ∀ (j : Nat) (y : Int), ((List.range (b + 1 - s).toNat).map fun j => s + (j : Nat))[j]? = some y → y = s + j ∧ s + j ≤ b := fun j y hy => by
      rw [List.getElem?_map] at hy
      cases q : (List.range (b + 1 - s).toNat)[j]? with
      | none => rw [q] at hy; cases hy
      | some a =>
        rw [q] at hy
        obtain ⟨rfl, ha⟩ := range_get q
        have : s + ((a : Nat) : Int) = y := Option.some.inj hy
        omega
    refine filter_one (i := (e - s).toNat) (x := e) ?_ fun j y hy => ?_
    · rw [List.getElem?_map, List.getElem?_range (by omega)]
      show some (s + (((e - s).toNat : Nat) : Int)) = some e
      rw [show s + (((e - s).toNat : Nat) : Int) = e by omega]
    · obtain ⟨rfl, hb⟩ := hx j y hy
      rw [decide_eq_true_iff]
      constructor
      · intro h
        have := cong_eq S (mod_cong S h) (by omega) (by omega)
        omega
      · intro h
        rw [show s + (j : Int) = e by omega]
  unfold wakeN
  rw [hg]
theorem AslS.wake {e : Int} (A : AslS K d m st e) (S : Sh K d m) : Aw K d m (wakeS K d m (e % (K * m)) st) ∧ (wakeS K d m (e % (K * m)) st).n = e := by
  obtain ⟨c1, c2, c3⟩ := cong_self S e
  have hN := wakeN_eq S A.asl.se A.asl.eb A.asl.bs
  have hwr : wr K d m st.cells (e % (K * m)) = wr K d m st.cells e := wr_cong S c1
  have kp := A.asl.keep S (qs := (wr K d m st.cells e).zip (news (wr K d m st.cells e).length)) fun q hq => mendF_qs hq
  have hn : (wakeS K d m (e % (K * m)) st).n = e := hN
  have hfl : (wakeS K d m (e % (K * m)) st).flight = [] := A.fl
  have hc : (wakeS K d m (e % (K * m)) st).cells = mendF st.cells (wr K d m st.cells e) := by
    show mendF st.cells (wr K d m st.cells (e % (K * m))) = _
    rw [hwr]
  have hs : (wakeS K d m (e % (K * m)) st).n - ((wakeS K d m (e % (K * m)) st).flight.length : Nat) = e := by
    rw [hn, hfl]
    simp
  have hd := S.d1
  have he0 := A.asl.s0
  have hse := A.asl.se
  refine ⟨⟨by rw [hc]; exact kp.asl.face, rfl, by rw [hfl]; simp; omega, by rw [hfl, hn]; simp; omega, fun i w h => by rw [hfl] at h; simp at h, ?_, fun j h1 h2 => ?_⟩, hn⟩
  · rw [hs, hc]
    exact kp.asl.we
  · rw [hs, hc]
    exact A.asl.full S h1 h2
end
end Hr
set_option Elab.async false
set_option linter.all false
set_option maxRecDepth 100000
set_option maxHeartbeats 4000000
namespace Hr
open PySem PySem.Spec PyProof.Rows L2
/-! ### deals, one behind another -/
inductive Step1 (K d m : Int) : LSt → PyData → LSt → Prop
  | write {st : LSt} {r : PyData} : Aw K d m st → Note r → Step1 K d m st (encWrite r) (writeS K d m st r)
  | sync {st : LSt} : Aw K d m st → Step1 K d m st encSync (settleS st)
  | cut {st : LSt} {ts : List Fate} : Aw K d m st → ts.length = st.flight.length → Step1 K d m st (encCut ts) (cutS1 st ts)
  | mend {st : LSt} {e : Int} {ts : List Fate} : AslS K d m st e → ts.length ≤ (wr K d m st.cells (e % (K * m))).length → Step1 K d m st (encMend ts) (mendS1 K d m (e % (K * m)) st ts)
  | wake {st : LSt} {e : Int} : AslS K d m st e → st.hi < 2 ^ 39 → Step1 K d m st encWake (wakeS K d m (e % (K * m)) st)
inductive Steps (K d m : Int) : LSt → List PyData → LSt → Prop
  | nil {st : LSt} : Steps K d m st [] st
  | cons {a b c : LSt} {x : PyData} {xs : List PyData} : Step1 K d m a x b → Steps K d m b xs c → Steps K d m a (x :: xs) c
theorem Steps.app {K d m : Int} {a b c : LSt} {xs ys : List PyData} (h : Steps K d m a xs b) (q : Steps K d m b ys c) : Steps K d m a (xs ++ ys) c := by
  induction h with
  | nil => exact q
  | cons s _ ih => exact .cons s (ih q)
theorem Steps.one {K d m : Int} {a b : LSt} {x : PyData} (s : Step1 K d m a x b) : Steps K d m a [x] b := .cons s .nil
theorem okA_mod {K d m : Int} (S : Sh K d m) (e : Int) : okA (e % (K * m)) := by
  obtain ⟨_, h1, h2⟩ := cong_self S e
  have := turn_lt S
  exact ⟨by omega, by omega⟩
theorem step_run {K d m : Int} {T : Tab} {f fa fb : Nat} {st st' : LSt} {x : PyData} (S : Sh K d m) (g : Good T) (F : Fr T f fa fb st) (h : Step1 K d m st x st') :
    ∃ T' fa' fb', f_law_dealt [.dat (fmD K d m), .own f, .dat x, .dat (.bool false)] T = .ok (.dat (.bool true)) T' ∧ Good T' ∧ Fr T' f fa' fb' st' ∧ Mv T f fa fb T' fa' fb' := by
  have k2 := S.k2
  have d1 := S.d1
  have d2 := S.d2
  cases h with
  | write A hr =>
    have := A.len
    obtain ⟨T', fb', q⟩ := ev_write g S F (A.inr S) (by omega) A.aw hr
    exact ⟨T', fa, fb', q⟩
  | sync A =>
    obtain ⟨T', fb', q⟩ := ev_sync (K := K) (d := d) (m := m) g F (A.inr S) A.aw
    exact ⟨T', fa, fb', q⟩
  | cut A hl =>
    have := A.len
    exact ev_cut g S F (A.inr S) A.aw hl (by omega)
  | @mend e ts A hl =>
    obtain ⟨T', fa', q⟩ := ev_mend g S F A.asl.face.len A.aw (okA_mod S e) (A.asl.answer S) hl
    exact ⟨T', fa', fb, q⟩
  | @wake e A hh =>
    have h1 := A.asl.s0
    have h2 := A.asl.se
    have h3 := A.asl.eb
    have h4 := A.asl.bs
    obtain ⟨T', fa', q⟩ := ev_wake g S F A.asl.face.len A.aw (okA_mod S e) (A.asl.answer S) ⟨by omega, by omega⟩ ⟨by omega, by omega⟩ (by omega)
    exact ⟨T', fa', fb, q⟩
/-! ### the table while a life is drawn -/
structure DL (T0 T : Tab) (t f fa fb : Nat) (B : Int) (st : LSt) : Prop where
  good : Good T
  fr : Fr T f fa fb st
  len : T0.length ≤ T.length
  old : ∀ k, k < T0.length → k ≠ t → T[k]? = T0[k]?
  tin : Tin T t B
  t0 : t < T0.length
  f0 : T0.length ≤ f
  a0 : T0.length ≤ fa
  b0 : T0.length ≤ fb
structure Ow (T0 T : Tab) (f fa fb k : Nat) (xs : List PyData) : Prop where
  get : T[k]? = some (some (xs.map Vd.dat))
  k0 : T0.length ≤ k
  kf : k ≠ f
  ka : k ≠ fa
  kb : k ≠ fb
section
variable {T0 T T' : Tab} {t f fa fb fa' fb' k : Nat} {B B' : Int} {st st' : LSt} {xs : List PyData}
theorem DL.draw (D : DL T0 T t f fa fb B st) (h : Dr t T B' T') : DL T0 T' t f fa fb B' st := by
  have t0 := D.t0
  have n : ∀ j, T0.length ≤ j → T'[j]? = T[j]? := fun j hj => h.same.2 j (by omega)
  refine ⟨h.good D.good, ⟨?_, ?_, ?_, D.fr.n1, D.fr.n2, D.fr.n3⟩, by rw [h.same.1]; exact D.len, fun j hj hne => (h.same.2 j hne).trans (D.old j hj hne), h.tin, D.t0, D.f0, D.a0, D.b0⟩
  · rw [n f D.f0]; exact D.fr.top
  · rw [n fa D.a0]; exact D.fr.cells
  · rw [n fb D.b0]; exact D.fr.flight
theorem Ow.draw (O : Ow T0 T f fa fb k xs) (D : DL T0 T t f fa fb B st) (h : Dr t T B' T') : Ow T0 T' f fa fb k xs := ⟨by
  have := D.t0
  have := O.k0
  rw [h.same.2 k (by omega)]
  exact O.get, O.k0, O.kf, O.ka, O.kb⟩
theorem DL.deal (D : DL T0 T t f fa fb B st) (g : Good T') (F : Fr T' f fa' fb' st') (M : Mv T f fa fb T' fa' fb') : DL T0 T' t f fa' fb' B st' := by
  have t0 := D.t0
  have hl := D.len
  have f0 := D.f0
  have a0 := D.a0
  have b0 := D.b0
  refine ⟨g, F, Nat.le_trans D.len M.len, fun j hj hne => (M.rest j (by omega) (by omega) (by omega) (by omega)).trans (D.old j hj hne), ?_, t0, f0, ?_, ?_⟩
  · obtain ⟨a, b, c, e, q⟩ := D.tin
    exact ⟨a, b, c, by rw [M.rest t (by omega) (by omega) (by omega) (by omega)]; exact e, q⟩
  · rcases M.a with h | h <;> omega
  · rcases M.b with h | h <;> omega
theorem Ow.deal (O : Ow T0 T f fa fb k xs) (M : Mv T f fa fb T' fa' fb') : Ow T0 T' f fa' fb' k xs := by
  have hk := lt_of O.get
  refine ⟨by rw [M.rest k hk O.kf O.ka O.kb]; exact O.get, O.k0, O.kf, fun e => ?_, fun e => ?_⟩
  · rcases M.a with h | h
    · exact O.ka (e.trans h)
    · omega
  · rcases M.b with h | h
    · exact O.kb (e.trans h)
    · omega
theorem DL.push (D : DL T0 T t f fa fb B st) (ys : List PyData) : DL T0 (T ++ [some (ys.map Vd.dat)]) t f fa fb B st := by
  have p := Pre.snoc T (some (ys.map Vd.dat))
  have hl := D.len
  obtain ⟨e, he⟩ := D.fr.top
  exact ⟨D.good.snocD ys, ⟨⟨e, p.get he⟩, p.get D.fr.cells, p.get D.fr.flight, D.fr.n1, D.fr.n2, D.fr.n3⟩, by simp; omega, fun j hj hne => by rw [List.getElem?_append_left (by omega)]; exact D.old j hj hne, D.tin.snoc _, D.t0, D.f0, D.a0, D.b0⟩
theorem Ow.push (O : Ow T0 T f fa fb k xs) (ys : List PyData) : Ow T0 (T ++ [some (ys.map Vd.dat)]) f fa fb k xs := ⟨(Pre.snoc _ _).get O.get, O.k0, O.kf, O.ka, O.kb⟩
theorem DL.new (D : DL T0 T t f fa fb B st) (ys : List PyData) : Ow T0 (T ++ [some (ys.map Vd.dat)]) f fa fb T.length ys := by
  obtain ⟨e, he⟩ := D.fr.top
  have h1 := lt_of he
  have h2 := lt_of D.fr.cells
  have h3 := lt_of D.fr.flight
  exact ⟨get_sn _ _, D.len, by omega, by omega, by omega⟩
theorem DL.put (D : DL T0 T t f fa fb B st) (O : Ow T0 T f fa fb k xs) (ys : List PyData) : DL T0 (T.set k (some (ys.map Vd.dat))) t f fa fb B st := by
  have t0 := D.t0
  have k0 := O.k0
  refine ⟨D.good.setD ys, ⟨?_, ?_, ?_, D.fr.n1, D.fr.n2, D.fr.n3⟩, by simp; exact D.len, fun j hj hne => by rw [gs_ne (by omega)]; exact D.old j hj hne, ?_, D.t0, D.f0, D.a0, D.b0⟩
  · rw [gs_ne (Ne.symm O.kf)]; exact D.fr.top
  · rw [gs_ne (Ne.symm O.ka)]; exact D.fr.cells
  · rw [gs_ne (Ne.symm O.kb)]; exact D.fr.flight
  · obtain ⟨a, b, c, e, q⟩ := D.tin
    exact ⟨a, b, c, by rw [gs_ne (by omega)]; exact e, q⟩
theorem Ow.put (O : Ow T0 T f fa fb k xs) (ys : List PyData) : Ow T0 (T.set k (some (ys.map Vd.dat))) f fa fb k ys := ⟨gs_eq O.get, O.k0, O.kf, O.ka, O.kb⟩
theorem Ow.put2 {j : Nat} (O : Ow T0 T f fa fb k xs) (h : k ≠ j) (ys : List PyData) : Ow T0 (T.set j (some (ys.map Vd.dat))) f fa fb k xs := ⟨by rw [gs_ne h]; exact O.get, O.k0, O.kf, O.ka, O.kb⟩
theorem Ow.items (O : Ow T0 T f fa fb k xs) : itemsOf (.own k) T = some (xs.map Vd.dat) := by simp [itemsOf, O.get]
end
theorem x_last {T : Tab} {k : Nat} {xs : List PyData} {x : PyData} (h : T[k]? = some (some ((xs ++ [x]).map Vd.dat))) : fIx (.own k) (.dat (.int (-1))) T = .ok (.dat x) T := by
  have e : itemsOf (.own k) T = some ((xs ++ [x]).map Vd.dat) := by simp [itemsOf, h]
  unfold fIx
  simp only [e]
  have : atI ((xs ++ [x]).map Vd.dat) (-1) = some (.dat x) := by
    unfold atI ixN
    rw [if_neg (by decide), if_pos (by simp; omega)]
    have : (-1 + (((xs ++ [x]).map Vd.dat).length : Nat) : Int).toNat = xs.length := by simp; omega
    simp only [Option.bind_some, this]
    simp
  simp only [this]
end Hr
set_option Elab.async false
set_option linter.all false
set_option maxRecDepth 100000
set_option maxHeartbeats 4000000
namespace Hr
open PySem PySem.Spec PyProof.Rows L2
abbrev rL (K d m : Int) (t f : Nat) (n : Int) (g : Nat) (z6 z7 z8 z9 z10 z11 : Option Vd) : Rho := [some (.own t), some (.dat (fmD K d m)), some (.dat (.int n)), some (.dat (.bool true)), some (.own g), some (.own f), z6, z7, z8, z9, z10, z11, none]
def WS (y : PyData) : Prop := (∃ r, Note r ∧ y = encWrite r) ∨ y = encSync
theorem x_catO {T : Tab} {x y : Vd} {xs ys : List PyData} (h1 : isLst x = true) (h2 : isLst y = true) (hx : itemsOf x T = some (xs.map Vd.dat)) (hy : itemsOf y T = some (ys.map Vd.dat)) (hl : (xs ++ ys).length ≤ 100000) :
    fCatL fCatO x y T = .ok (.own T.length) (T ++ [some ((xs ++ ys).map Vd.dat)]) := by
  unfold fCatL fCatO
  simp only [h1, h2, Bool.and_self, if_true, hx, hy]
  rw [if_pos (by simpa using hl), List.map_append]
section
variable {K d m : Int} {T0 T : Tab} {t f fa fb g h : Nat} {B n : Int} {st : LSt} {xs ys : List PyData} {z6 z7 z8 z9 z10 z11 : Option Vd}
theorem drawA (S : Sh K d m) (D : DL T0 T t f fa fb B st) (Og : Ow T0 T f fa fb g xs) (Oh : Ow T0 T f fa fb h []) (hgh : g ≠ h) (hB : B < 2 ^ 50) :
    Ev (sFor (mRng1 (mCons (mN (fCall 2 f_law_take) (mCons (mVar 0) (mCons (m2 fAdd (m2 fIx (mVar 1) (mC (.int 0))) (mC (.int 3))) (mNil)))) (mNil))) (gNm 8) (
            sSeq (sApp (mVar 7) (mN fTup (mCons (mC (.str "write")) (mCons (mN (fCall 1 f_law_note) (mCons (mVar 0) (mNil))) (mNil))))) (
              sIf (m2 (fEq false) (mN (fCall 2 f_law_take) (mCons (mVar 0) (mCons (mC (.int 6)) (mNil)))) (mC (.int 0))) (sApp (mVar 7) (mN fTup (mCons (mC (.str "sync")) (mNil)))) (sSkip)))
      (rL K d m t f n g z6 (some (.own h)) z8 z9 z10 z11) T)
      fun fl T' => ∃ z8' ys, fl = .nx (rL K d m t f n g z6 (some (.own h)) z8' z9 z10 z11) ∧ DL T0 T' t f fa fb (B + 100) st ∧ Ow T0 T' f fa fb g xs ∧ Ow T0 T' f fa fb h ys ∧ (∀ y ∈ ys, WS y) ∧ ys.length ≤ 20 := by
  have k1 := S.k1
  have k2 := S.k2
  obtain ⟨v, T1, e1, v0, v1, d1⟩ := ev_take D.good D.tin (by omega) (n := K + 3) (by omega) (by omega)
  refine e_for (nums v.toNat) (fun y => .one (.dat (.int y))) (fun i ρ T' => ∃ z8' ys, ρ = rL K d m t f n g z6 (some (.own h)) z8' z9 z10 z11 ∧ DL T0 T' t f fa fb (B + 1 + 5 * (i : Nat)) st ∧ Ow T0 T' f fa fb g xs ∧ Ow T0 T' f fa fb h ys ∧ (∀ y ∈ ys, WS y) ∧ ys.length ≤ 2 * i)
    (T1 := T1) (it := .rng 0 v.toNat) (x_rng1 (by simp [e1]) (by omega)) (by simp [fuelOf, nums]) (fun i ρ T' hi _ => nw_rng i) ⟨z8, [], rfl, ?_, Og.draw D d1, Oh.draw D d1, (fun y hy => by cases hy), by simp⟩ ?_ ?_
  · have := D.draw d1
    exact ⟨this.good, this.fr, this.len, this.old, this.tin.up (by omega), this.t0, this.f0, this.a0, this.b0⟩
  · rintro i y ρ T' hy ⟨z8', ys, rfl, D1, Og1, Oh1, hw, hl⟩
    obtain ⟨ey, hi⟩ := nums_get hy
    refine ⟨_, _, rfl, ?_⟩
    obtain ⟨r, T2, e2, hr, d2⟩ := ev_note D1.good D1.tin (by omega)
    have D2 := D1.draw d2
    have Og2 := Og1.draw D1 d2
    have Oh2 := Oh1.draw D1 d2
    refine e_seq (e_app (k := h) (xs := ys.map Vd.dat) (T1 := T2) (d := .dat (encWrite r)) (by simp) ⟨_, Oh1.get⟩ (by simp [e2, encWrite]) Oh2.get (by simp; omega) ?_)
    have eA : ys.map Vd.dat ++ [Vd.dat (encWrite r)] = (ys ++ [encWrite r]).map Vd.dat := by simp
    rw [eA]
    have D3 := D2.put Oh2 (ys ++ [encWrite r])
    have Og3 := Og2.put2 hgh (ys ++ [encWrite r])
    have Oh3 := Oh2.put (ys ++ [encWrite r])
    have hw3 : ∀ y ∈ ys ++ [encWrite r], WS y := fun y hy => by
      rcases List.mem_append.mp hy with q | q
      · exact hw y q
      · have : y = encWrite r := by simpa using q
        exact .inl ⟨r, hr, this⟩
    generalize T2.set h (some ((ys ++ [encWrite r]).map Vd.dat)) = T3 at *
    obtain ⟨u, T4, e4, u0, u1, d4⟩ := ev_take D3.good D3.tin (by omega) (n := 6) (by decide) (by decide)
    have D4 := D3.draw d4
    have Og4 := Og3.draw D3 d4
    have Oh4 := Oh3.draw D3 d4
    have up : ∀ {T5 : Tab} {B5 : Int}, DL T0 T5 t f fa fb B5 st → B5 ≤ B + 1 + 5 * ((i + 1 : Nat) : Int) → DL T0 T5 t f fa fb (B + 1 + 5 * ((i + 1 : Nat) : Int)) st := fun D5 hb => ⟨D5.good, D5.fr, D5.len, D5.old, D5.tin.up hb, D5.t0, D5.f0, D5.a0, D5.b0⟩
    refine e_if (x := decide (u = 0)) (T' := T4) (by simp [e4]) (fun c => ?_) (fun c => ?_)
    · refine e_app (k := h) (xs := (ys ++ [encWrite r]).map Vd.dat) (T1 := T4) (d := .dat encSync) (by simp) ⟨_, Oh4.get⟩ (by simp [encSync]) Oh4.get (by simp; omega) ?_
      have eB : (ys ++ [encWrite r]).map Vd.dat ++ [Vd.dat encSync] = (ys ++ [encWrite r] ++ [encSync]).map Vd.dat := by simp
      rw [eB]
      refine ⟨_, rfl, _, ys ++ [encWrite r] ++ [encSync], rfl, up (D4.put Oh4 _) (by omega), Og4.put2 hgh _, Oh4.put _, fun y hy => ?_, by simp; omega⟩
      rcases List.mem_append.mp hy with q | q
      · exact hw3 y q
      · exact .inr (by simpa using q)
    · exact e_skip ⟨_, rfl, _, ys ++ [encWrite r], rfl, up D4 (by omega), Og4, Oh4, hw3, by simp; omega⟩
  · rintro ρ T' ⟨z8', ys, rfl, D1, Og1, Oh1, hw, hl⟩
    have hn : (nums v.toNat).length = v.toNat := by simp [nums]
    rw [hn] at D1 hl
    exact ⟨z8', ys, rfl, ⟨D1.good, D1.fr, D1.len, D1.old, D1.tin.up (by omega), D1.t0, D1.f0, D1.a0, D1.b0⟩, Og1, Oh1, hw, by omega⟩
theorem ws_step (S : Sh K d m) (A : Aw K d m st) {y : PyData} (h : WS y) : ∃ st', Step1 K d m st y st' ∧ Aw K d m st' ∧ st'.n ≤ st.n + 1 := by
  rcases h with ⟨r, hr, rfl⟩ | rfl
  · exact ⟨_, .write A hr, A.write S hr, Int.le_refl _⟩
  · exact ⟨_, .sync A, A.settle S, by show st.n ≤ st.n + 1; omega⟩
theorem drawB (S : Sh K d m) (D : DL T0 T t f fa fb B st) (Og : Ow T0 T f fa fb g xs) (Oh : Ow T0 T f fa fb h ys) (hw : ∀ y ∈ ys, WS y) (A : Aw K d m st) :
    Ev (sFor (mSeq (mVar 7)) (gNm 9) (sDrop (mN (fCall 4 f_law_dealt) (mCons (mVar 1) (mCons (mVar 5) (mCons (mVar 9) (mCons (mC (.bool false)) (mNil))))))) (rL K d m t f n g z6 (some (.own h)) z8 z9 z10 z11) T)
      fun fl T' => ∃ z9' fa' fb' st', fl = .nx (rL K d m t f n g z6 (some (.own h)) z8 z9' z10 z11) ∧ DL T0 T' t f fa' fb' B st' ∧ Ow T0 T' f fa' fb' g xs ∧ Ow T0 T' f fa' fb' h ys ∧ Steps K d m st ys st' ∧ Aw K d m st' ∧ st'.n ≤ st.n + ys.length := by
  refine e_for ys (fun y => .one (.dat y)) (fun i ρ T' => ∃ z9' fa' fb' st', ρ = rL K d m t f n g z6 (some (.own h)) z8 z9' z10 z11 ∧ DL T0 T' t f fa' fb' B st' ∧ Ow T0 T' f fa' fb' g xs ∧ Ow T0 T' f fa' fb' h ys ∧ Steps K d m st (ys.take i) st' ∧ Aw K d m st' ∧ st'.n ≤ st.n + (i : Nat))
    (T1 := T) (it := .seq (.own h)) (by simp [mSeq, hasItems, Oh.items]) (by rw [fu_seq Oh.items]; simp) (fun i ρ T' hi q => ?_) ⟨z9, fa, fb, st, rfl, D, Og, Oh, .nil, A, by omega⟩ ?_ ?_
  · obtain ⟨z9', fa', fb', st', rfl, D1, Og1, Oh1, _⟩ := q
    rw [nw_seq Oh1.items, List.getElem?_map, Option.map_map]
    rfl
  · rintro i y ρ T' hy ⟨z9', fa', fb', st', rfl, D1, Og1, Oh1, s1, A1, hn⟩
    refine ⟨_, _, rfl, ?_⟩
    obtain ⟨st2, s2, A2, hn2⟩ := ws_step S A1 (hw y (List.mem_of_getElem? hy))
    obtain ⟨T2, fa2, fb2, e2, g2, F2, M2⟩ := step_run S D1.good D1.fr s2
    refine e_drop (T' := T2) (d := .dat (.bool true)) (by simp [e2]) ⟨_, rfl, _, fa2, fb2, st2, rfl, D1.deal g2 F2 M2, Og1.deal M2, Oh1.deal M2, ?_, A2, by omega⟩
    rw [take_next hy]
    exact s1.app (.one s2)
  · rintro ρ T' ⟨z9', fa', fb', st', rfl, D1, Og1, Oh1, s1, A1, hn⟩
    rw [List.take_length] at s1
    exact ⟨z9', fa', fb', st', rfl, D1, Og1, Oh1, s1, A1, hn⟩
end
end Hr
set_option Elab.async false
set_option linter.all false
set_option maxRecDepth 100000
set_option maxHeartbeats 4000000
namespace Hr
open PySem PySem.Spec PyProof.Rows L2
section
variable {K d m : Int} {T0 T : Tab} {t f fa fb g h : Nat} {B n : Int} {st : LSt} {xs ys : List PyData} {z6 z7 z8 z9 z10 z11 : Option Vd} {REST : MS} {Q : Fl → Tab → Prop}
theorem rL4 {x : Nat} : List.set (rL K d m t f n g z6 z7 z8 z9 z10 z11) 4 (some (.own x)) = rL K d m t f n x z6 z7 z8 z9 z10 z11 := rfl
theorem rL6 {x : Vd} : List.set (rL K d m t f n g z6 z7 z8 z9 z10 z11) 6 (some x) = rL K d m t f n g (some x) z7 z8 z9 z10 z11 := rfl
theorem rL7 {x : Vd} : List.set (rL K d m t f n g z6 z7 z8 z9 z10 z11) 7 (some x) = rL K d m t f n g z6 (some x) z8 z9 z10 z11 := rfl
theorem rL8 {x : Vd} : List.set (rL K d m t f n g z6 z7 z8 z9 z10 z11) 8 (some x) = rL K d m t f n g z6 z7 (some x) z9 z10 z11 := rfl
theorem rL10 {x : Vd} : List.set (rL K d m t f n g z6 z7 z8 z9 z10 z11) 10 (some x) = rL K d m t f n g z6 z7 z8 z9 (some x) z11 := rfl
theorem rL11 {x : Vd} : List.set (rL K d m t f n g z6 z7 z8 z9 z10 z11) 11 (some x) = rL K d m t f n g z6 z7 z8 z9 z10 (some x) := rfl
theorem DL.up {B' : Int} (D : DL T0 T t f fa fb B st) (hb : B ≤ B') : DL T0 T t f fa fb B' st := ⟨D.good, D.fr, D.len, D.old, D.tin.up hb, D.t0, D.f0, D.a0, D.b0⟩
theorem drawC (S : Sh K d m) (D : DL T0 T t f fa fb B st) (Og : Ow T0 T f fa fb g xs) (Oh : Ow T0 T f fa fb h ys) (A : Aw K d m st) (hB : B < 2 ^ 50)
    (hR : ∀ ts T' z11', ts.length = st.flight.length → DL T0 T' t f fa fb (B + 50) st → Ow T0 T' f fa fb g xs → Ow T0 T' f fa fb h ys → Ev (REST (rL K d m t f n g z6 z7 z8 z9 (some (.dat (.tuple (encTs ts)))) z11') T') Q) :
    Ev (sSeq (sAsg (mN (fCall 2 f_law_fates) (mCons (mVar 0) (mCons (mN fLen (mCons (m2 fIx (mVar 5) (mC (.int 1))) (mNil))) (mNil)))) (gNm 10)) (
              sSeq (
                sIf (m2 (fEq false) (mN (fCall 2 f_law_take) (mCons (mVar 0) (mCons (mC (.int 3)) (mNil)))) (mC (.int 0))) (
                  sSeq (sAsg (mN (fCall 2 f_law_take) (mCons (mVar 0) (mCons (m2 fAdd (m2 fIx (mVar 1) (mC (.int 1))) (mC (.int 1))) (mNil)))) (gNm 11)) (sAsg (mN fTupleOf (mCons (mLc1 (mRng1 (mCons (mN fLen (mCons (mVar 10) (mNil))) (mNil))) 12 (mC (.bool true)) (mIf (m2 fLt (mVar 12) (mVar 11)) (mN (fCall 2 f_law_of) (mCons (mVar 0) (mCons (mN fLst (mCons (mC (.str "old")) (mCons (mC (.str "torn")) (mNil)))) (mNil)))) (mC (.str "new")))) (mNil))) (gNm 10))) (sSkip)) REST)
      (rL K d m t f n g z6 z7 z8 z9 z10 z11) T) Q := by
  have k2 := S.k2
  have d1 := S.d1
  have d2 := S.d2
  have hL := A.len
  obtain ⟨ts, T1, e1, l1, r1⟩ := ev_fates D.good D.tin (by omega) (n := st.flight.length) (by omega) (by omega)
  have D1 := D.draw r1
  have Og1 := Og.draw D r1
  have Oh1 := Oh.draw D r1
  refine e_seq (e_set (T' := T1) (d := .dat (.tuple (encTs ts))) (by simp -implicitDefEqProofs [D.fr.ix1, D.fr.len_b, e1]) ?_)
  rw [rL10]
  obtain ⟨v, T2, e2, v0, v1, r2⟩ := ev_take D1.good D1.tin (by omega) (n := 3) (by decide) (by decide)
  have D2 := D1.draw r2
  have Og2 := Og1.draw D1 r2
  have Oh2 := Oh1.draw D1 r2
  refine e_seq (e_if (x := decide (v = 0)) (T' := T2) (by simp -implicitDefEqProofs [e2]) (fun c => ?_) (fun c => ?_))
  · obtain ⟨k, T3, e3, w0, w1, r3⟩ := ev_take D2.good D2.tin (by omega) (n := d + 1) (by omega) (by omega)
    have D3 := D2.draw r3
    have Og3 := Og2.draw D2 r3
    have Oh3 := Oh2.draw D2 r3
    refine e_seq (e_set (T' := T3) (d := .dat (.int k)) (by simp -implicitDefEqProofs [e3]) ?_)
    rw [rL11]
    have hlt : (encTs ts).length = ts.length := by simp -implicitDefEqProofs [encTs]
    obtain ⟨us, T4, e4, l4, r4⟩ := lc_fates (ρ := rL K d m t f n g z6 z7 z8 z9 (some (.dat (.tuple (encTs ts)))) (some (.dat (.int k)))) (i := 12) (mi := mRng1 (mCons (mN fLen (mCons (mVar 10) (mNil))) (mNil)))
      (el := mIf (m2 fLt (mVar 12) (mVar 11)) (mN (fCall 2 f_law_of) (mCons (mVar 0) (mCons (mN fLst (mCons (mC (.str "old")) (mCons (mC (.str "torn")) (mNil)))) (mNil)))) (mC (.str "new"))) D3.good D3.tin (n := ts.length) (by omega) (by omega) (x_rng1 (by simp -implicitDefEqProofs [hlt]) (by omega)) fun y S' j gS tS y0 y1 hj => by
        by_cases c : y < k
        · obtain ⟨u, T', e, hu, dr⟩ := ev_of gS tS (by omega) (xs := [.str "old", .str "torn"]) (by simp) (by simp)
          have hu2 : ∃ f, u = encT f := by
            simp at hu
            rcases hu with rfl | rfl
            · exact ⟨.old, rfl⟩
            · exact ⟨.torn, rfl⟩
          obtain ⟨f, rfl⟩ := hu2
          exact ⟨f, T', by simp -implicitDefEqProofs [c, e], ⟨dr.same, dr.tin.up (by omega)⟩⟩
        · exact ⟨.new, S', by simp -implicitDefEqProofs [c]; rfl, ⟨SameBut.refl _ _, tS.up (by omega)⟩⟩
    have D4 := D3.draw r4
    refine e_set (T' := T4) (d := .dat (.tuple (encTs us))) e4 ?_
    rw [rL10]
    exact hR us T4 _ (by omega) (D4.up (by omega)) (Og3.draw D3 r4) (Oh3.draw D3 r4)
  · exact e_skip (hR ts T2 z11 (by omega) (D2.up (by omega)) Og2 Oh2)
theorem drawD (S : Sh K d m) (D : DL T0 T t f fa fb B st) (Og : Ow T0 T f fa fb g xs) (Oh : Ow T0 T f fa fb h ys) (A : Aw K d m st) {ts : List Fate} (hts : ts.length = st.flight.length) (hx : xs.length + ys.length ≤ 1000)
    (hR : ∀ T' g' fa' fb', DL T0 T' t f fa' fb' B (cutS1 st ts) → Ow T0 T' f fa' fb' g' (xs ++ ys ++ [encCut ts]) → Ev (REST (rL K d m t f n g' z6 (some (.own h)) z8 z9 (some (.dat (.tuple (encTs ts)))) z11) T') Q) :
    Ev (sSeq (sAsg (m2 (fCatL fCatO) (m2 (fCatL fCatO) (mVar 4) (mVar 7)) (mN fLst (mCons (mN fTup (mCons (mC (.str "cut")) (mCons (mVar 10) (mNil)))) (mNil)))) (gNm 4)) (
                  sSeq (sDrop (mN (fCall 4 f_law_dealt) (mCons (mVar 1) (mCons (mVar 5) (mCons (m2 fIx (mVar 4) (m1 fNeg (mC (.int 1)))) (mCons (mC (.bool false)) (mNil))))))) REST)
      (rL K d m t f n g z6 (some (.own h)) z8 z9 (some (.dat (.tuple (encTs ts)))) z11) T) Q := by
  have c1 := x_catO (T := T) (x := .own g) (y := .own h) rfl rfl Og.items Oh.items (by simp; omega)
  have D1 := D.push (xs ++ ys)
  have N1 := D.new (xs ++ ys)
  have lT : (T ++ [some ((xs ++ ys).map Vd.dat)]).length = T.length + 1 := by simp
  generalize T ++ [some ((xs ++ ys).map Vd.dat)] = T1 at *
  have c2 := x_catO (T := T1) (x := .own T.length) (y := .dat (.list [encCut ts])) (ys := [encCut ts]) rfl rfl N1.items rfl (by simp; omega)
  have D2 := D1.push (xs ++ ys ++ [encCut ts])
  have N2 := D1.new (xs ++ ys ++ [encCut ts])
  generalize T1 ++ [some ((xs ++ ys ++ [encCut ts]).map Vd.dat)] = T2 at *
  have hc2 : fCatL fCatO (.own T.length) (.dat (.list [.tuple [.str "cut", .tuple (encTs ts)]])) T1 = .ok (.own T1.length) T2 := c2
  refine e_seq (e_set (T' := T2) (d := .own T1.length) (by simp only [x_m2, x_var, List.getElem?_cons_succ, List.getElem?_cons_zero, bd_ok, c1, x_N, x_cons, x_nil, x_C, x_tup, x_dats_cons, x_dats_nil, Option.map_some, List.length_cons, List.length_nil, Nat.reduceAdd, Nat.reduceLeDiff, if_true, x_lst, hc2]) ?_)
  rw [rL4]
  obtain ⟨T3, fa', fb', e3, g3, F3, M3⟩ := step_run S D2.good D2.fr (.cut A hts)
  have el := x_last N2.get
  refine e_seq (e_drop (T' := T3) (d := .dat (.bool true)) (by simp -implicitDefEqProofs [el, e3]) ?_)
  exact hR T3 T1.length fa' fb' (D2.deal g3 F3 M3) (N2.deal M3)
end
end Hr
set_option Elab.async false
set_option linter.all false
set_option maxRecDepth 100000
set_option maxHeartbeats 4000000
namespace Hr
open PySem PySem.Spec PyProof.Rows L2
section
variable {K d m : Int} {T0 T : Tab} {t f fa fb g h : Nat} {B n : Int} {st : LSt} {xs ys : List PyData} {z6 z7 z8 z9 z10 z11 : Option Vd} {Q : Fl → Tab → Prop} {e : Int}
theorem drawE1 (S : Sh K d m) (D : DL T0 T t f fa fb B st) (Og : Ow T0 T f fa fb g xs) (A : AslS K d m st e) (hx : xs.length ≤ 1000) (hB : B < 2 ^ 50) :
    Ev (sFor (mRng1 (mCons (mIf (mVar 3) (mN (fCall 2 f_law_take) (mCons (mVar 0) (mCons (mC (.int 4)) (mNil)))) (mC (.int 0))) (mNil))) (gNm 8) (
                            sSeq (sAsg (mN (fCall 2 f_law_take) (mCons (mVar 0) (mCons (m2 fAdd (mN fLen (mCons (mN (fCall 2 f_law_mending) (mCons (mVar 1) (mCons (m2 fIx (mVar 5) (mC (.int 0))) (mNil)))) (mNil))) (mC (.int 1))) (mNil)))) (gNm 11)) (
                              sSeq (sApp (mVar 4) (mN fTup (mCons (mC (.str "mend")) (mCons (mVar 11) (mCons (mN (fCall 2 f_law_fates) (mCons (mVar 0) (mCons (mVar 11) (mNil)))) (mNil)))))) (sDrop (mN (fCall 4 f_law_dealt) (mCons (mVar 1) (mCons (mVar 5) (mCons (m2 fIx (mVar 4) (m1 fNeg (mC (.int 1)))) (mCons (mC (.bool false)) (mNil))))))))) 
      (rL K d m t f n g z6 z7 z8 z9 z10 z11) T)
      fun fl T' => ∃ z8' z11' fa' fb' st' zs, fl = .nx (rL K d m t f n g z6 z7 z8' z9 z10 z11') ∧ DL T0 T' t f fa' fb' (B + 100) st' ∧ Ow T0 T' f fa' fb' g (xs ++ zs) ∧ Steps K d m st zs st' ∧ AslS K d m st' e ∧ st'.hi = st.hi ∧ zs.length ≤ 5 := by
  obtain ⟨v, T1, e1, v0, v1, d1⟩ := ev_take D.good D.tin (by omega) (n := 4) (by omega) (by omega)
  refine e_for (nums v.toNat) (fun y => .one (.dat (.int y))) (fun i ρ T' => ∃ z8' z11' fa' fb' st' zs, ρ = rL K d m t f n g z6 z7 z8' z9 z10 z11' ∧ DL T0 T' t f fa' fb' (B + 1 + 20 * (i : Nat)) st' ∧ Ow T0 T' f fa' fb' g (xs ++ zs) ∧ Steps K d m st zs st' ∧ AslS K d m st' e ∧ st'.hi = st.hi ∧ zs.length = i)
    (T1 := T1) (it := .rng 0 v.toNat) (x_rng1 (by simp -implicitDefEqProofs [e1]) (by omega)) (by simp [fuelOf, nums]) (fun i ρ T' hi _ => nw_rng i) ⟨z8, z11, fa, fb, st, [], rfl, (D.draw d1).up (by omega), by simpa using Og.draw D d1, .nil, A, rfl, rfl⟩ ?_ ?_
  · rintro i y ρ T' hy ⟨z8', z11', fa', fb', st', zs, rfl, D1, Og1, s1, A1, hh, hl⟩
    obtain ⟨ey, hi⟩ := nums_get hy
    refine ⟨_, _, rfl, ?_⟩
    rw [rL8]
    have hn := A1.asl.answer S
    have em := ev_mending D1.good S A1.asl.face.len D1.fr.items_a (okA_mod S e) hn
    have hwl := wr_len S st'.cells (e % (K * m))
    have hle : (encWs (wr K d m st'.cells (e % (K * m)))).length = (wr K d m st'.cells (e % (K * m))).length := by simp [encWs]
    obtain ⟨k, T2, e2, k0, k1, d2⟩ := ev_take D1.good D1.tin (by omega) (n := (wr K d m st'.cells (e % (K * m))).length + 1) (by omega) (by omega)
    have D2 := D1.draw d2
    have Og2 := Og1.draw D1 d2
    refine e_seq (e_set (T' := T2) (d := .dat (.int k)) (by simp -implicitDefEqProofs [D1.fr.ix0, em, hle, e2]) ?_)
    rw [rL11]
    obtain ⟨ts, T3, e3, l3, d3⟩ := ev_fates D2.good D2.tin (by omega) (n := k) (by omega) (by omega)
    have D3 := D2.draw d3
    have Og3 := Og2.draw D2 d3
    subst l3
    refine e_seq (e_app (k := g) (xs := (xs ++ zs).map Vd.dat) (T1 := T3) (d := .dat (encMend ts)) (by simp -implicitDefEqProofs) ⟨_, Og2.get⟩ (by simp -implicitDefEqProofs [e3, encMend]) Og3.get (by simp; omega) ?_)
    have eA : (xs ++ zs).map Vd.dat ++ [Vd.dat (encMend ts)] = (xs ++ (zs ++ [encMend ts])).map Vd.dat := by simp
    rw [eA]
    have D4 := D3.put Og3 (xs ++ (zs ++ [encMend ts]))
    have Og4 := Og3.put (xs ++ (zs ++ [encMend ts]))
    generalize T3.set g (some ((xs ++ (zs ++ [encMend ts])).map Vd.dat)) = T4 at *
    have st1 : Step1 K d m st' (encMend ts) (mendS1 K d m (e % (K * m)) st' ts) := .mend A1 (by omega)
    obtain ⟨T5, fa2, fb2, e5, g5, F5, M5⟩ := step_run S D4.good D4.fr st1
    have el : fIx (.own g) (.dat (.int (-1))) T4 = .ok (.dat (encMend ts)) T4 := x_last (xs := xs ++ zs) (by rw [List.append_assoc]; exact Og4.get)
    refine e_drop (T' := T5) (d := .dat (.bool true)) (by simp -implicitDefEqProofs [el, e5]) ?_
    refine ⟨_, rfl, _, _, fa2, fb2, _, zs ++ [encMend ts], rfl, (D4.deal g5 F5 M5).up (by omega), Og4.deal M5, s1.app (.one st1), A1.mend S (cong_self S e).1 ts, hh, by simp [hl]⟩
  · rintro ρ T' ⟨z8', z11', fa', fb', st', zs, rfl, D1, Og1, s1, A1, hh, hl⟩
    have hn : (nums v.toNat).length = v.toNat := by simp [nums]
    rw [hn] at D1 hl
    exact ⟨z8', z11', fa', fb', st', zs, rfl, D1.up (by omega), Og1, s1, A1, hh, by omega⟩
theorem drawE (S : Sh K d m) (D : DL T0 T t f fa fb B st) (Og : Ow T0 T f fa fb g xs) (A : AslS K d m st e) (hx : xs.length ≤ 1000) (hB : B < 2 ^ 50) (hh : st.hi < 2 ^ 30) :
    Ev (sSeq (
                        sIf (m1 (fIsN false) (mN (fCall 2 f_law_answer) (mCons (mVar 1) (mCons (m2 fIx (mVar 5) (mC (.int 0))) (mNil))))) (sRet (mN fTupleOf (mCons (mVar 4) (mNil)))) (sSkip)) (
                        sSeq (
                          sFor (mRng1 (mCons (mIf (mVar 3) (mN (fCall 2 f_law_take) (mCons (mVar 0) (mCons (mC (.int 4)) (mNil)))) (mC (.int 0))) (mNil))) (gNm 8) (
                            sSeq (sAsg (mN (fCall 2 f_law_take) (mCons (mVar 0) (mCons (m2 fAdd (mN fLen (mCons (mN (fCall 2 f_law_mending) (mCons (mVar 1) (mCons (m2 fIx (mVar 5) (mC (.int 0))) (mNil)))) (mNil))) (mC (.int 1))) (mNil)))) (gNm 11)) (
                              sSeq (sApp (mVar 4) (mN fTup (mCons (mC (.str "mend")) (mCons (mVar 11) (mCons (mN (fCall 2 f_law_fates) (mCons (mVar 0) (mCons (mVar 11) (mNil)))) (mNil)))))) (sDrop (mN (fCall 4 f_law_dealt) (mCons (mVar 1) (mCons (mVar 5) (mCons (m2 fIx (mVar 4) (m1 fNeg (mC (.int 1)))) (mCons (mC (.bool false)) (mNil)))))))))) (
                          sSeq (sApp (mVar 4) (mN fTup (mCons (mC (.str "wake")) (mNil)))) (sDrop (mN (fCall 4 f_law_dealt) (mCons (mVar 1) (mCons (mVar 5) (mCons (m2 fIx (mVar 4) (m1 fNeg (mC (.int 1)))) (mCons (mC (.bool false)) (mNil)))))))))
      (rL K d m t f n g z6 z7 z8 z9 z10 z11) T)
      fun fl T' => ∃ z8' z11' fa' fb' st' zs, fl = .nx (rL K d m t f n g z6 z7 z8' z9 z10 z11') ∧ DL T0 T' t f fa' fb' (B + 100) st' ∧ Ow T0 T' f fa' fb' g (xs ++ zs) ∧ Steps K d m st zs st' ∧ Aw K d m st' ∧ st'.n ≤ st.hi ∧ zs.length ≤ 6 := by
  have en := ev_answer D.good S A.asl.face.len D.fr.items_a
  rw [A.asl.answer S] at en
  refine e_seq (p_ifF (by simp -implicitDefEqProofs [D.fr.ix0, en]) (e_skip ?_))
  refine e_seq ((drawE1 S D Og A hx hB).imp ?_)
  rintro fl T1 ⟨z8', z11', fa', fb', st', zs, rfl, D1, Og1, s1, A1, hh1, hl⟩
  refine e_seq (e_app (k := g) (xs := (xs ++ zs).map Vd.dat) (T1 := T1) (d := .dat encWake) (by simp -implicitDefEqProofs) ⟨_, Og1.get⟩ (by simp -implicitDefEqProofs [encWake]) Og1.get (by simp; omega) ?_)
  have eA : (xs ++ zs).map Vd.dat ++ [Vd.dat encWake] = (xs ++ (zs ++ [encWake])).map Vd.dat := by simp
  rw [eA]
  have D4 := D1.put Og1 (xs ++ (zs ++ [encWake]))
  have Og4 := Og1.put (xs ++ (zs ++ [encWake]))
  generalize T1.set g (some ((xs ++ (zs ++ [encWake])).map Vd.dat)) = T4 at *
  have st1 : Step1 K d m st' encWake (wakeS K d m (e % (K * m)) st') := .wake A1 (by rw [hh1]; omega)
  obtain ⟨T5, fa2, fb2, e5, g5, F5, M5⟩ := step_run S D4.good D4.fr st1
  have el : fIx (.own g) (.dat (.int (-1))) T4 = .ok (.dat encWake) T4 := x_last (xs := xs ++ zs) (by rw [List.append_assoc]; exact Og4.get)
  obtain ⟨A2, hn⟩ := A1.wake S
  have heb := A1.asl.eb
  refine e_drop (T' := T5) (d := .dat (.bool true)) (by simp -implicitDefEqProofs [el, e5]) ?_
  exact ⟨_, _, fa2, fb2, _, zs ++ [encWake], rfl, D4.deal g5 F5 M5, Og4.deal M5, s1.app (.one st1), A2, by rw [hn]; omega, by simp; omega⟩
end
end Hr
set_option Elab.async false
set_option linter.all false
set_option maxRecDepth 100000
set_option maxHeartbeats 4000000
namespace Hr
open PySem PySem.Spec PyProof.Rows L2
/-- a life asleep at its end -/
structure Life (K d m : Int) (xs : List PyData) (st : LSt) (e : Int) : Prop where
  steps : Steps K d m (startS K m) xs st
  asl : AslS K d m st e
theorem lap_of {K d m : Int} {T0 T : Tab} {t f fa fb g : Nat} {B n : Int} {st : LSt} {xs : List PyData} {z6 z7 z8 z9 z10 z11 : Option Vd} (S : Sh K d m) (D : DL T0 T t f fa fb B st) (Og : Ow T0 T f fa fb g xs) (A : Aw K d m st) (s0 : Steps K d m (startS K m) xs st)
    (hx : xs.length ≤ 500) (hB : B < 2 ^ 40) (hn : st.n ≤ 1000) {i : Nat} (hlap : z6 = some (.dat (.int i))) :
    Ev ((sSeq (sAsg (mN fLstO (mNil)) (gNm 7)) (
        sSeq (
          sFor (mRng1 (mCons (mN (fCall 2 f_law_take) (mCons (mVar 0) (mCons (m2 fAdd (m2 fIx (mVar 1) (mC (.int 0))) (mC (.int 3))) (mNil)))) (mNil))) (gNm 8) (
            sSeq (sApp (mVar 7) (mN fTup (mCons (mC (.str "write")) (mCons (mN (fCall 1 f_law_note) (mCons (mVar 0) (mNil))) (mNil))))) (
              sIf (m2 (fEq false) (mN (fCall 2 f_law_take) (mCons (mVar 0) (mCons (mC (.int 6)) (mNil)))) (mC (.int 0))) (sApp (mVar 7) (mN fTup (mCons (mC (.str "sync")) (mNil)))) (sSkip)))) (
          sSeq (
            sFor (mSeq (mVar 7)) (gNm 9) (sDrop (mN (fCall 4 f_law_dealt) (mCons (mVar 1) (mCons (mVar 5) (mCons (mVar 9) (mCons (mC (.bool false)) (mNil)))))))) (
            sSeq (sAsg (mN (fCall 2 f_law_fates) (mCons (mVar 0) (mCons (mN fLen (mCons (m2 fIx (mVar 5) (mC (.int 1))) (mNil))) (mNil)))) (gNm 10)) (
              sSeq (
                sIf (m2 (fEq false) (mN (fCall 2 f_law_take) (mCons (mVar 0) (mCons (mC (.int 3)) (mNil)))) (mC (.int 0))) (
                  sSeq (sAsg (mN (fCall 2 f_law_take) (mCons (mVar 0) (mCons (m2 fAdd (m2 fIx (mVar 1) (mC (.int 1))) (mC (.int 1))) (mNil)))) (gNm 11)) (sAsg (mN fTupleOf (mCons (mLc1 (mRng1 (mCons (mN fLen (mCons (mVar 10) (mNil))) (mNil))) 12 (mC (.bool true)) (mIf (m2 fLt (mVar 12) (mVar 11)) (mN (fCall 2 f_law_of) (mCons (mVar 0) (mCons (mN fLst (mCons (mC (.str "old")) (mCons (mC (.str "torn")) (mNil)))) (mNil)))) (mC (.str "new")))) (mNil))) (gNm 10))) (sSkip)) (
                sSeq (sAsg (m2 (fCatL fCatO) (m2 (fCatL fCatO) (mVar 4) (mVar 7)) (mN fLst (mCons (mN fTup (mCons (mC (.str "cut")) (mCons (mVar 10) (mNil)))) (mNil)))) (gNm 4)) (
                  sSeq (sDrop (mN (fCall 4 f_law_dealt) (mCons (mVar 1) (mCons (mVar 5) (mCons (m2 fIx (mVar 4) (m1 fNeg (mC (.int 1)))) (mCons (mC (.bool false)) (mNil))))))) (
                    sIf (m2 fLt (m2 fAdd (mVar 6) (mC (.int 1))) (mVar 2)) (
                      sSeq (
                        sIf (m1 (fIsN false) (mN (fCall 2 f_law_answer) (mCons (mVar 1) (mCons (m2 fIx (mVar 5) (mC (.int 0))) (mNil))))) (sRet (mN fTupleOf (mCons (mVar 4) (mNil)))) (sSkip)) (
                        sSeq (
                          sFor (mRng1 (mCons (mIf (mVar 3) (mN (fCall 2 f_law_take) (mCons (mVar 0) (mCons (mC (.int 4)) (mNil)))) (mC (.int 0))) (mNil))) (gNm 8) (
                            sSeq (sAsg (mN (fCall 2 f_law_take) (mCons (mVar 0) (mCons (m2 fAdd (mN fLen (mCons (mN (fCall 2 f_law_mending) (mCons (mVar 1) (mCons (m2 fIx (mVar 5) (mC (.int 0))) (mNil)))) (mNil))) (mC (.int 1))) (mNil)))) (gNm 11)) (
                              sSeq (sApp (mVar 4) (mN fTup (mCons (mC (.str "mend")) (mCons (mVar 11) (mCons (mN (fCall 2 f_law_fates) (mCons (mVar 0) (mCons (mVar 11) (mNil)))) (mNil)))))) (sDrop (mN (fCall 4 f_law_dealt) (mCons (mVar 1) (mCons (mVar 5) (mCons (m2 fIx (mVar 4) (m1 fNeg (mC (.int 1)))) (mCons (mC (.bool false)) (mNil)))))))))) (
                          sSeq (sApp (mVar 4) (mN fTup (mCons (mC (.str "wake")) (mNil)))) (sDrop (mN (fCall 4 f_law_dealt) (mCons (mVar 1) (mCons (mVar 5) (mCons (m2 fIx (mVar 4) (m1 fNeg (mC (.int 1)))) (mCons (mC (.bool false)) (mNil)))))))))) (sSkip)))))))))
      (rL K d m t f n g z6 z7 z8 z9 z10 z11) T)
      fun fl T' => ∃ g' z7' z8' z9' z10' z11' fa' fb' st' zs, fl = .nx (rL K d m t f n g' z6 z7' z8' z9' z10' z11') ∧ DL T0 T' t f fa' fb' (B + 300) st' ∧ Ow T0 T' f fa' fb' g' zs ∧ Steps K d m (startS K m) zs st' ∧ zs.length ≤ xs.length + 50 ∧ (if (i : Int) + 1 < n then Aw K d m st' ∧ st'.n ≤ st.n + 50 else ∃ e, AslS K d m st' e) := by
  subst hlap
  refine e_seq (e_set (T' := T ++ [some []]) (d := .own T.length) (by simp [fLstO]) ?_)
  rw [rL7]
  have D1 := D.push []
  have O1 := Og.push []
  have H1 := D.new []
  have hne : g ≠ T.length := by have := lt_of Og.get; omega
  simp only [List.map_nil] at D1 O1 H1
  generalize T ++ [some []] = T1 at *
  refine e_seq ((drawA S D1 O1 H1 hne (by omega)).imp ?_)
  rintro fl T2 ⟨z8', ys, rfl, D2, O2, H2, hw, hl⟩
  refine e_seq ((drawB S D2 O2 H2 hw A).imp ?_)
  rintro fl T3 ⟨z9', fa', fb', st', rfl, D3, O3, H3, s3, A3, hn3⟩
  refine drawC S D3 O3 H3 A3 (by omega) fun ts T4 z11' hts D4 O4 H4 => ?_
  refine drawD S D4 O4 H4 A3 hts (by omega) fun T5 g' fa2 fb2 D5 O5 => ?_
  obtain ⟨e, A5⟩ := A3.cut S ts
  have s5 : Steps K d m (startS K m) (xs ++ ys ++ [encCut ts]) (cutS1 st' ts) := (s0.app s3).app (.one (.cut A3 hts))
  by_cases c : (i : Int) + 1 < n
  · refine e_ifT (T' := T5) (by simp [c]) ((drawE S D5 O5 A5 (by simp; omega) (by omega) (by show st'.n < _; omega)).imp ?_)
    rintro fl T6 ⟨z8', z11', fa', fb', st6, zs, rfl, D6, O6, s6, A6, hn6, hl6⟩
    refine ⟨g', _, _, _, _, _, fa', fb', st6, _, rfl, D6.up (by omega), O6, s5.app s6, by simp; omega, ?_⟩
    rw [if_pos c]
    exact ⟨A6, by have : st6.n ≤ st'.n := hn6; omega⟩
  · refine e_ifF (T' := T5) (by simp [c]) (e_skip ⟨g', _, _, _, _, _, fa2, fb2, _, _, rfl, D5.up (by omega), O5, s5, by simp; omega, ?_⟩)
    rw [if_neg c]
    exact ⟨e, A5⟩
theorem ev_drawn_life {K d m : Int} {T : Tab} {t : Nat} {B n : Int} (S : Sh K d m) (g : Good T) (ht : Tin T t B) (hB : B < 2 ^ 30) (n1 : 1 ≤ n) (n2 : n ≤ 2) :
    ∃ xs st e T', f_law_drawn_life [.own t, .dat (fmD K d m), .dat (.int n), .dat (.bool true)] T = .ok (.dat (.tuple xs)) T' ∧ Life K d m xs st e ∧ Dr t T (B + 1000) T' := by
  have main : Ev (f_law_drawn_life [.own t, .dat (fmD K d m), .dat (.int n), .dat (.bool true)] T) fun d' T' => ∃ xs st e, d' = .dat (.tuple xs) ∧ Life K d m xs st e ∧ Dr t T (B + 1000) T' := by
    refine e_cut (e_fn ?_)
    show Ev (m_law_drawn_life [some (.own t), some (.dat (fmD K d m)), some (.dat (.int n)), some (.dat (.bool true)), none, none, none, none, none, none, none, none, none] T) _
    have htl := ht.lt
    obtain ⟨T2, e2, p2, g2, l2, F2⟩ := ev_frame g.snocN S
    have hl1 : (T ++ [some ([] : List Vd)]).length = T.length + 1 := by simp
    rw [hl1] at e2 l2 F2
    have p0 : Pre T T2 := (Pre.snoc _ _).trans p2
    have D2 : DL T T2 t (T.length + 1 + 2) (T.length + 1) (T.length + 1 + 1) B (startS K m) := by
      refine ⟨g2, F2, by omega, fun k hk _ => ?_, ?_, htl, by omega, by omega, by omega⟩
      · obtain ⟨R, rfl⟩ := p0
        exact List.getElem?_append_left hk
      · obtain ⟨a, b, c, e, q⟩ := ht
        exact ⟨a, b, c, p0.get e, q⟩
    have O2 : Ow T T2 (T.length + 1 + 2) (T.length + 1) (T.length + 1 + 1) T.length [] := ⟨p2.get (get_sn _ _), Nat.le_refl _, by omega, by omega, by omega⟩
    refine e_seq (e_par (T' := T2) (x := .own T.length) (y := .own (T.length + 1 + 2)) (by simp -implicitDefEqProofs [fLstO, e2]) ?_)
    show Ev _ _
    refine e_seq (e_for (nums n.toNat) (fun y => .one (.dat (.int y))) (fun i ρ T' => ∃ g' z6 z7 z8 z9 z10 z11 fa fb st xs, ρ = rL K d m t (T.length + 1 + 2) n g' z6 z7 z8 z9 z10 z11 ∧ DL T T' t (T.length + 1 + 2) fa fb (B + 300 * (i : Nat)) st ∧ Ow T T' (T.length + 1 + 2) fa fb g' xs ∧ Steps K d m (startS K m) xs st ∧
        xs.length ≤ 50 * i ∧ (if (i : Int) < n then Aw K d m st ∧ st.n ≤ 50 * (i : Nat) else ∃ e, AslS K d m st e))
      (T1 := T2) (it := .rng 0 n.toNat) (x_rng1 (by simp) (by omega)) (by simp [fuelOf, nums]) (fun i ρ T' hi _ => nw_rng i) ⟨T.length, none, none, none, none, none, none, T.length + 1, T.length + 1 + 1, startS K m, [], rfl, D2.up (by omega), O2, .nil, by simp, ?_⟩ ?_ ?_)
    · rw [if_pos (by omega)]
      exact ⟨start_aw S, by simp [startS]⟩
    · rintro i y ρ T' hy ⟨g', z6, z7, z8, z9, z10, z11, fa, fb, st, xs, rfl, D3, O3, s3, hl, hA⟩
      obtain ⟨ey, hi⟩ := nums_get hy
      rw [if_pos (by omega)] at hA
      refine ⟨_, _, rfl, ?_⟩
      rw [rL6, ey]
      refine (lap_of S D3 O3 hA.1 s3 (by omega) (by omega) (by have := hA.2; omega) (i := i) rfl).imp ?_
      rintro fl T4 ⟨g2, z7', z8', z9', z10', z11', fa', fb', st', zs, rfl, D4, O4, s4, hl4, hA4⟩
      refine ⟨_, rfl, g2, _, _, _, _, _, _, fa', fb', st', zs, rfl, D4.up (by omega), O4, s4, by omega, ?_⟩
      by_cases c : (i : Int) + 1 < n
      · rw [if_pos c] at hA4
        rw [if_pos (by omega)]
        exact ⟨hA4.1, by have := hA.2; have := hA4.2; omega⟩
      · rw [if_neg c] at hA4
        rw [if_neg (by omega)]
        exact hA4
    · rintro ρ T' ⟨g', z6, z7, z8, z9, z10, z11, fa, fb, st, xs, rfl, D3, O3, s3, hl, hA⟩
      have hn : (nums n.toNat).length = n.toNat := by simp [nums]
      rw [hn] at D3 hA hl
      rw [if_neg (by omega)] at hA
      obtain ⟨e, A3⟩ := hA
      have hlen := D3.len
      have gt : ∀ k, k < T.length → (T'.take T.length)[k]? = T'[k]? := fun k hk => List.getElem?_take_of_lt hk
      refine e_ret (T' := T') (d := .dat (.tuple xs)) ?_ ⟨?_, rfl, xs, st, e, rfl, ⟨s3, A3⟩, ⟨⟨by simp; omega, fun k hk => ?_⟩, ?_⟩⟩
      · simp only [x_N, x_cons, x_nil, x_var, List.getElem?_cons_succ, List.getElem?_cons_zero, bd_ok]
        exact x_tupo O3.get
      · refine good_iff.mpr fun k ys hk ek => ?_
        by_cases c : k = t
        · subst c
          obtain ⟨a, b, c, e, _⟩ := D3.tin
          rw [e] at ek
          have := Option.some.inj (Option.some.inj ek)
          subst this
          rfl
        · rw [D3.old k hk c] at ek
          exact g.get ek
      · by_cases c : k < T.length
        · rw [gt k c, D3.old k c hk]
        · rw [List.getElem?_eq_none (by simp; omega), List.getElem?_eq_none (by omega)]
      · obtain ⟨a, b, c, e, q1, q2, q3, q4⟩ := D3.tin
        exact ⟨a, b, c, by rw [gt t htl]; exact e, q1, q2, q3, by omega⟩
  obtain ⟨d', T', e', xs, st, e, rfl, q⟩ := main
  exact ⟨xs, st, e, T', e', q⟩
end Hr
set_option Elab.async false
set_option linter.all false
set_option maxRecDepth 100000
set_option maxHeartbeats 4000000
namespace Hr
open PySem PySem.Spec PyProof.Rows L2
theorem ev_run {K d m : Int} {T : Tab} {t : Nat} {B : Int} {xs : List PyData} {st : LSt} {e : Int} (S : Sh K d m) (g : Good T) (ht : Tin T t B) (L : Life K d m xs st e) :
    ∃ T' f fa fb, f_law_run [.dat (fmD K d m), .dat (.tuple xs), .dat (.bool false)] T = .ok (.own f) T' ∧ DL T T' t f fa fb B st := by
  have main : Ev (f_law_run [.dat (fmD K d m), .dat (.tuple xs), .dat (.bool false)] T) fun d' T' => ∃ f fa fb, d' = .own f ∧ DL T T' t f fa fb B st := by
    refine e_fn ?_
    show Ev (m_law_run [some (.dat (fmD K d m)), some (.dat (.tuple xs)), some (.dat (.bool false)), none, none] T) _
    have htl := ht.lt
    obtain ⟨T2, e2, p2, g2, l2, F2⟩ := ev_frame g S
    have D2 : DL T T2 t (T.length + 2) T.length (T.length + 1) B (startS K m) := by
      refine ⟨g2, F2, by omega, fun k hk _ => ?_, ?_, htl, by omega, by omega, by omega⟩
      · obtain ⟨R, rfl⟩ := p2
        exact List.getElem?_append_left hk
      · obtain ⟨a, b, c, e, q⟩ := ht
        exact ⟨a, b, c, p2.get e, q⟩
    refine e_seq (e_set (T' := T2) (d := .own (T.length + 2)) (by simp -implicitDefEqProofs [e2]) ?_)
    refine e_seq (p_ifF (by simp) (e_skip ?_))
    have hit : ∀ S, itemsOf (.dat (.tuple xs)) S = some (xs.map Vd.dat) := fun S => rfl
    refine e_seq (e_for xs (fun y => .one (.dat y)) (fun i ρ T' => ∃ z fa fb si, ρ = [some (.dat (fmD K d m)), some (.dat (.tuple xs)), some (.dat (.bool false)), some (.own (T.length + 2)), z] ∧ DL T T' t (T.length + 2) fa fb B si ∧ Steps K d m si (xs.drop i) st)
      (T1 := T2) (it := .seq (.dat (.tuple xs))) (by simp [mSeq, hasItems, hit]) (by rw [fu_seq (hit _)]; simp) (fun i ρ T' hi _ => ?_) ⟨none, _, _, _, rfl, D2, L.steps⟩ ?_ ?_)
    · rw [nw_seq (hit _), List.getElem?_map, Option.map_map]
      rfl
    · rintro i y ρ T' hy ⟨z, fa, fb, si, rfl, D3, s3⟩
      obtain ⟨hlt, ey⟩ := List.getElem?_eq_some_iff.mp hy
      rw [List.drop_eq_getElem_cons hlt, ey] at s3
      cases s3 with
      | @cons _ b _ _ _ h1 h2 =>
        obtain ⟨T4, fa2, fb2, e4, g4, F4, M4⟩ := step_run S D3.good D3.fr h1
        refine ⟨_, _, rfl, ?_⟩
        exact e_ifF (T' := T4) (by simp -implicitDefEqProofs [e4]) (e_skip ⟨_, rfl, _, fa2, fb2, b, rfl, D3.deal g4 F4 M4, h2⟩)
    · rintro ρ T' ⟨z, fa, fb, si, rfl, D3, s3⟩
      rw [List.drop_length] at s3
      cases s3
      exact e_ret (T' := T') (d := .own (T.length + 2)) (by simp) ⟨_, fa, fb, rfl, D3⟩
  obtain ⟨d', T', e', f, fa, fb, rfl, q⟩ := main
  exact ⟨T', f, fa, fb, e', q⟩
/-! ### plain data -/
theorem depthAll_le {n : Nat} : ∀ {xs : List PyData}, (∀ y ∈ xs, y.depth ≤ n) → PyData.depthAll xs ≤ n
  | [], _ => by simp [PyData.depthAll]
  | x :: xs, h => by
    have h1 := h x (by simp)
    have h2 := depthAll_le (xs := xs) fun y hy => h y (by simp [hy])
    simp [PyData.depthAll]
    omega
theorem plainAll_of : ∀ {xs : List PyData}, (∀ y ∈ xs, y.plain = true) → PyData.plainAll xs = true
  | [], _ => rfl
  | x :: xs, h => by
    simp only [PyData.plainAll, h x (by simp), plainAll_of (xs := xs) fun y hy => h y (by simp [hy]), Bool.and_self]
theorem Tq.depth : ∀ {n : Nat} {x : PyData}, Tq n x → x.depth ≤ n
  | 0, _, h => h.elim
  | n + 1, .tuple xs, h => by
    have := depthAll_le (n := n) fun y hy => Tq.depth (h.2 y hy)
    simp [PyData.depth]
    omega
  | n + 1, .list xs, h => by
    have := depthAll_le (n := n) fun y hy => Tq.depth (h.2 y hy)
    simp [PyData.depth]
    omega
  | n + 1, .int i, h => by simp [PyData.depth]
  | n + 1, .str s, h => by simp [PyData.depth]
  | n + 1, .none, h => h.elim
  | n + 1, .bool b, h => h.elim
  | n + 1, .dict b, h => h.elim
theorem Tq.plain : ∀ {n : Nat} {x : PyData}, Tq n x → x.plain = true
  | 0, _, h => h.elim
  | n + 1, .tuple xs, h => by
    simp only [PyData.plain]
    exact plainAll_of fun y hy => Tq.plain (h.2 y hy)
  | n + 1, .list xs, h => by
    simp only [PyData.plain]
    exact plainAll_of fun y hy => Tq.plain (h.2 y hy)
  | n + 1, .int i, h => rfl
  | n + 1, .str s, h => rfl
  | n + 1, .none, h => h.elim
  | n + 1, .bool b, h => h.elim
  | n + 1, .dict b, h => h.elim
theorem ne_self {T : Tab} {n : Nat} {x : PyData} (h : Tq n x) (hn : n ≤ 60) : fEq true (.dat x) (.dat x) T = .ok (.dat (.bool false)) T := by
  have h1 := h.depth
  have h2 : shal x x = true := by simp [shal]; omega
  rw [x_eq, if_pos h2, PySem.SeqAt.eqv_refl_plain x h.plain]
  rfl
/-! ### what stands ahead of a place -/
def readL (K d : Int) (f : List Cell) (p : Int) : List PyData := (((List.range (K - d).toNat).map fun j => (1 : Int) + (j : Nat))).map fun j => match f[((p - j) % K).toNat]? with
  | some c => enc c
  | none => .none
theorem readL_same {K d m e p : Int} {f f' : List Cell} (S : Sh K d m) (hp : (p - e) % (K * m) = 0) (h : ∀ j, 1 ≤ j → j ≤ K - d → f'[((e - j) % K).toNat]? = f[((e - j) % K).toNat]?) : readL K d f' p = readL K d f p := by
  unfold readL
  refine List.map_congr_left fun j hj => ?_
  obtain ⟨a, ha, rfl⟩ := List.mem_map.mp hj
  rw [List.mem_range] at ha
  have e1 : (p - (1 + (a : Int))) % K = (e - (1 + (a : Int))) % K := (of_cong S (u := p - (1 + (a : Int))) (v := e - (1 + (a : Int))) (by rwa [show p - (1 + (a : Int)) - (e - (1 + (a : Int))) = p - e by omega])).1
  rw [e1, h (1 + (a : Int)) (by omega) (by omega)]
theorem readL_tq {K d m p : Int} {f : List Cell} (S : Sh K d m) (F : FaceOk K m f) : Tq 5 (.list (readL K d f p)) := by
  have := S.k2
  have := S.d1
  refine ⟨by simp [readL]; omega, fun y hy => ?_⟩
  obtain ⟨j, _, rfl⟩ := List.mem_map.mp hy
  obtain ⟨_, c, hc⟩ := mod_ix (n := p - j) (by have := S.k1; omega : 0 < K) F.len
  rw [hc]
  exact (cell_tp (F.ok c (List.mem_of_getElem? hc))).q
theorem read_lc {K d m p : Int} {f : List Cell} {T : Tab} {ρ : Rho} {x : Vd} {mf mn mk mw : ME} (S : Sh K d m) (F : FaceOk K m f) (g : Good T) (hx : ∀ S, itemsOf x S = some ((encF f).map Vd.dat)) (hp : okA p)
    (h1 : ∀ y S, mf (ρ.set 16 (some (.dat (.int y)))) S = .ok x S) (h2 : ∀ y S, mn (ρ.set 16 (some (.dat (.int y)))) S = .ok (.dat (.int p)) S) (h3 : ∀ y S, mk (ρ.set 16 (some (.dat (.int y)))) S = .ok (.dat (fmD K d m)) S) (h4 : mw ρ T = .ok (.dat (.int (K - d))) T)
    (h5 : ∀ y, (ρ.set 16 (some (.dat (.int y))))[16]? = some (some (.dat (.int y)))) :
    mLc1 (mRng2 (mCons (mC (.int 1)) (mCons (m2 fAdd mw (mC (.int 1))) (mNil)))) 16 (mC (.bool true)) (m2 fIx mf (m2 fMod (mN fInt (mCons (m2 fSub mn (mVar 16)) (mNil))) (m2 fIx mk (mC (.int 0))))) ρ T = .ok (.dat (.list (readL K d f p))) T := by
  have k1 := S.k1
  have k2 := S.k2
  have d1 := S.d1
  have d2 := S.d2
  have e := p_lc1r (ρ := ρ) (T := T) (mi := mRng2 (mCons (mC (.int 1)) (mCons (m2 fAdd mw (mC (.int 1))) (mNil)))) (tt := mC (.bool true)) (el := m2 fIx mf (m2 fMod (mN fInt (mCons (m2 fSub mn (mVar 16)) (mNil))) (m2 fIx mk (mC (.int 0))))) (i := 16) (lo := 1) (n := (K - d + 1 - 1).toNat)
    (fun _ => true) (fun j => match f[((p - j) % K).toNat]? with | some c => enc c | none => .none) g (x_rng2 (by simp -implicitDefEqProofs [h4]) (by omega) (by omega)) (by omega) fun y y1 y2 S' gS _ => ⟨rfl, fun _ => by
      obtain ⟨h0, c, hc⟩ := mod_ix (n := p - y) (by omega : 0 < K) F.len
      have hix := x_ix (T := S') (hx S') h0 (enc_get hc)
      rw [hc]
      rw [List.set_set]
      have hk : 0 < K := by omega
      simp -implicitDefEqProofs only [x_m2, h1, bd_ok, x_N, x_cons, x_nil, h2, x_var, h5, x_I, x_cTrue, if_true, x_int_i, h3, x_C, x_ix0, x_cPos, hk, hix]⟩
  rw [filt] at e
  rw [show K - d + 1 - 1 = K - d by omega] at e
  exact e
end Hr
set_option Elab.async false
set_option linter.all false
set_option maxRecDepth 100000
set_option maxHeartbeats 4000000
namespace Hr
open PySem PySem.Spec PyProof.Rows L2
def isT (r : Re Vd) : Bool := match r with
  | .ok (.dat (.bool b)) _ => b
  | _ => false
theorem closed_hand : isT (f_law_by_hand_right [] []) = true := by decide +kernel
theorem closed_refused : isT (f_law_refused_right [] []) = true := by decide +kernel
theorem x_callX {f : List Vd → Tab → Re Vd} {ρ : Rho} {T : Tab} (h : isT (f [] []) = true) : mCallX f ρ T = .ok (.dat (.bool true)) (T.map fun _ => none) := by
  unfold mCallX
  unfold isT at h
  split at h
  · rename_i b _ e
    subst h
    rw [e]
  · cases h
abbrev rW (ns : List Int) (K d m : Int) (f : Nat) (c : List Cell) (p : Int) (rd : List PyData) (z8 z9 z10 z11 z12 z13 z14 z15 : Option Vd) : Rho :=
  [some (.scr ns), some (.own 0), some (.dat (fmD K d m)), some (.own f), some (.dat (.tuple (encF c))), some (.dat (.int p)), some (.dat (.int (K - d))), some (.dat (.list rd)), z8, z9, z10, z11, z12, z13, z14, z15, none]
section
variable {ns : List Int} {K d m p : Int} {f : Nat} {c c' : List Cell} {rd : List PyData} {z8 z9 z10 z11 z12 z13 z14 z15 : Option Vd}
theorem rW4 : List.set (rW ns K d m f c p rd z8 z9 z10 z11 z12 z13 z14 z15) 4 (some (.dat (.tuple (encF c')))) = rW ns K d m f c' p rd z8 z9 z10 z11 z12 z13 z14 z15 := rfl
theorem rW8 {x : Vd} : List.set (rW ns K d m f c p rd z8 z9 z10 z11 z12 z13 z14 z15) 8 (some x) = rW ns K d m f c p rd (some x) z9 z10 z11 z12 z13 z14 z15 := rfl
theorem rW9 {x : Vd} : List.set (rW ns K d m f c p rd z8 z9 z10 z11 z12 z13 z14 z15) 9 (some x) = rW ns K d m f c p rd z8 (some x) z10 z11 z12 z13 z14 z15 := rfl
theorem rW10 {x : Vd} : List.set (rW ns K d m f c p rd z8 z9 z10 z11 z12 z13 z14 z15) 10 (some x) = rW ns K d m f c p rd z8 z9 (some x) z11 z12 z13 z14 z15 := rfl
theorem rW11 {x : Vd} : List.set (rW ns K d m f c p rd z8 z9 z10 z11 z12 z13 z14 z15) 11 (some x) = rW ns K d m f c p rd z8 z9 z10 (some x) z12 z13 z14 z15 := rfl
theorem rW12 {x : Vd} : List.set (rW ns K d m f c p rd z8 z9 z10 z11 z12 z13 z14 z15) 12 (some x) = rW ns K d m f c p rd z8 z9 z10 z11 (some x) z13 z14 z15 := rfl
theorem rW13 {x : Vd} : List.set (rW ns K d m f c p rd z8 z9 z10 z11 z12 z13 z14 z15) 13 (some x) = rW ns K d m f c p rd z8 z9 z10 z11 z12 (some x) z14 z15 := rfl
theorem rW14 {x : Vd} : List.set (rW ns K d m f c p rd z8 z9 z10 z11 z12 z13 z14 z15) 14 (some x) = rW ns K d m f c p rd z8 z9 z10 z11 z12 z13 (some x) z15 := rfl
theorem rW15 {x : Vd} : List.set (rW ns K d m f c p rd z8 z9 z10 z11 z12 z13 z14 z15) 15 (some x) = rW ns K d m f c p rd z8 z9 z10 z11 z12 z13 z14 (some x) := rfl
end
theorem encWs_tq {K d m p : Int} {c : List Cell} (S : Sh K d m) : Tq 6 (.tuple (encWs (wr K d m c p))) := by
  have h := wr_len S c p
  refine ⟨by simp [encWs]; omega, fun y hy => ?_⟩
  obtain ⟨w, hw, rfl⟩ := List.mem_map.mp hy
  obtain ⟨j, _, _, _, rfl⟩ := mem_wr.mp hw
  refine ⟨by simp, fun z hz => ?_⟩
  simp at hz
  rcases hz with rfl | rfl
  · trivial
  · refine ⟨by simp, fun z hz => ?_⟩
    simp at hz
    rcases hz with rfl | rfl
    · trivial
    · exact (note_tp .blank).q
theorem Tq.up : ∀ {n : Nat} {x : PyData}, Tq n x → Tq (n + 1) x
  | 0, _, h => h.elim
  | n + 1, .tuple xs, h => ⟨h.1, fun y hy => Tq.up (h.2 y hy)⟩
  | n + 1, .list xs, h => ⟨h.1, fun y hy => Tq.up (h.2 y hy)⟩
  | n + 1, .int i, h => trivial
  | n + 1, .str s, h => trivial
  | n + 1, .none, h => h.elim
  | n + 1, .bool b, h => h.elim
  | n + 1, .dict b, h => h.elim
theorem lst_fates (ts : List Fate) : As (.tuple (encTs ts)) (.list (encTs ts)) := by
  right
  show _ = PyData.list ((encTs ts).map (lst 7))
  congr 1
  unfold encTs
  rw [List.map_map]
  rfl
/-- one turn of the law's last loop -/
theorem law_turn {ns : List Int} {K d m e s b p : Int} {f : Nat} {c : List Cell} {T : Tab} {B : Int} {z8 z9 z10 z11 z12 z13 z14 z15 : Option Vd} (S : Sh K d m) (A : Asl K d m c s e b) (hp : (p - e) % (K * m) = 0) (he : p = e % (K * m)) (g : Good T) (ht : Tin T 0 B) (hB : B < 2 ^ 40) :
    Ev ((sSeq (sAsg (mN (fCall 2 f_law_mending) (mCons (mVar 2) (mCons (mVar 4) (mNil)))) (gNm 9)) (
                        sSeq (sAsg (mN (fCall 2 f_law_take) (mCons (mVar 1) (mCons (m2 fAdd (mN fLen (mCons (mVar 9) (mNil))) (mC (.int 1))) (mNil)))) (gNm 10)) (
                          sSeq (sAsg (mN (fCall 2 f_law_fates) (mCons (mVar 1) (mCons (mVar 10) (mNil)))) (gNm 11)) (
                            sSeq (sAsg (mN fTupleOf (mCons (mN (fCall 3 f_law_fallen) (mCons (mVar 4) (mCons (mSl (mVar 9) none (some (mVar 10))) (mCons (mVar 11) (mNil))))) (mNil))) (gNm 12)) (
                              sSeq (sAsg (mN fLst (mCons (mN (fCall 2 f_mend_writes) (mCons (mN (fCall 1 (f_law_lists 8)) (mCons (mVar 2) (mNil))) (mCons (mN (fCall 1 (f_law_lists 8)) (mCons (mVar 4) (mNil))) (mNil)))) (mCons (mN (fCall 4 f_partly_mended) (mCons (mVar 2) (mCons (mVar 4) (mCons (mVar 10) (mCons (mN fListOf (mCons (mVar 11) (mNil))) (mNil)))))) (mCons (mN (fCall 2 f_mended) (mCons (mVar 2) (mCons (mVar 4) (mNil)))) (mNil))))) (gNm 13)) (
                                sSeq (
                                  sIf (mNot (mN (fCall 2 (f_law_same 8)) (mCons (mVar 13) (mCons (mN fLst (mCons (mN fTupleOf (mCons (mVar 9) (mNil))) (mCons (mVar 12) (mCons (mN fTupleOf (mCons (mN (fCall 2 f_law_mended) (mCons (mVar 2) (mCons (mVar 4) (mNil)))) (mNil))) (mNil))))) (mNil))))) (sRet (mC (.bool false))) (sSkip)) (
                                  sSeq (
                                    sFor (mSeq (mSl (mVar 13) (some (mC (.int 1))) none)) (gNm 14) (
                                      sSeq (sAsg (mLc1 (mRng2 (mCons (mC (.int 1)) (mCons (m2 fAdd (mVar 6) (mC (.int 1))) (mNil)))) 16 (mC (.bool true)) (m2 fIx (mVar 14) (m2 fMod (mN fInt (mCons (m2 fSub (mVar 5) (mVar 16)) (mNil))) (m2 fIx (mVar 2) (mC (.int 0)))))) (gNm 15)) (
                                        sIf (mOr (m2 (fEq true) (mN (fCall 2 f_law_answer) (mCons (mVar 2) (mCons (mVar 14) (mNil)))) (mVar 5)) (m2 (fEq true) (mVar 15) (mVar 7))) (sRet (mC (.bool false))) (sSkip)))) (sAsg (m2 fIx (mVar 13) (mC (.int 1))) (gNm 4))))))))) 
      (rW ns K d m f c p (readL K d c p) z8 z9 z10 z11 z12 z13 z14 z15) T)
      fun fl T' => ∃ c' z9 z10 z11 z12 z13 z14 z15, fl = .nx (rW ns K d m f c' p (readL K d c' p) z8 z9 z10 z11 z12 z13 z14 z15) ∧ Good T' ∧ Tin T' 0 (B + 100) ∧ Asl K d m c' s e b ∧ readL K d c' p = readL K d c p := by
  subst he
  have hpo := okA_mod S e
  have hn := A.answer S
  have F := A.face
  have hwl := wr_len S c (e % (K * m))
  have hwc : wr K d m c (e % (K * m)) = wr K d m c e := wr_cong S hp
  have hit : ∀ S, itemsOf (.dat (.tuple (encF c))) S = some ((encF c).map Vd.dat) := fun S => rfl
  have em := ev_mending g S F.len (hit T) hpo hn
  refine e_seq (p_set (d := .dat (.list (encWs (wr K d m c (e % (K * m)))))) (by simp -implicitDefEqProofs [em]) ?_)
  rw [rW9]
  have hle : (encWs (wr K d m c (e % (K * m)))).length = (wr K d m c (e % (K * m))).length := by simp [encWs]
  obtain ⟨k, T1, e1, k0, k1, d1⟩ := ev_take g ht (by omega) (n := (wr K d m c (e % (K * m))).length + 1) (by omega) (by omega)
  have g1 := d1.good g
  refine e_seq (e_set (T' := T1) (d := .dat (.int k)) (by simp -implicitDefEqProofs [hle, e1]) ?_)
  rw [rW10]
  obtain ⟨ts, T2, e2, l2, d2⟩ := ev_fates g1 d1.tin (by omega) (n := k) (by omega) (by omega)
  have g2 := d2.good g1
  subst l2
  refine e_seq (e_set (T' := T2) (d := .dat (.tuple (encTs ts))) (by simp -implicitDefEqProofs [e2]) ?_)
  rw [rW11]
  have es : fSl (.dat (.list (encWs (wr K d m c (e % (K * m)))))) none (some (ts.length : Int)) T2 = .ok (.dat (.list (encWs ((wr K d m c (e % (K * m))).take ts.length)))) T2 := x_sl_l (by rw [cut_to, encWs_take])
  have ef := ev_law_fallen (T := T2) (ts := ts) ((wr_in S c F.len (e % (K * m))).take (k := ts.length)) (hit T2) (y := .dat (.list (encWs ((wr K d m c (e % (K * m))).take ts.length)))) rfl
  have kp1 : Kept K d m c (fall c (((wr K d m c (e % (K * m))).take ts.length).zip ts)) s e b := A.keep S fun q hq => by
    rw [hwc] at hq
    exact List.mem_of_mem_take (List.of_mem_zip (a := q.1) (b := q.2) hq).1
  have kp2 : Kept K d m c (mendF c (wr K d m c (e % (K * m)))) s e b := by
    rw [hwc]
    exact A.keep S fun q hq => mendF_qs hq
  have eg2 := fun {T : Tab} (g : Good T) => ev_partly g S F (.inl rfl) (.inl rfl) hpo hn (lst_fates ts) (by omega)
  have eg3 := fun {T : Tab} (g : Good T) => ev_mended g S F (.inl rfl) (.inl rfl) hpo hn
  have eg1 := fun {T : Tab} (g : Good T) => ev_mend_writes g S F (x := lst 8 (fmD K d m)) (y := lst 8 (.tuple (encF c))) (.inr rfl) (.inr rfl) hpo hn
  have el1 := fun {T : Tab} (g : Good T) => ev_lists 8 T g (fmD K d m) (form_tp K d m).up3.up3
  have el2 := fun {T : Tab} (g : Good T) => ev_lists 8 T g (.tuple (encF c)) (face_tp F S.k2).up3
  have elm := fun {T : Tab} (g : Good T) => ev_law_mended g S F.len (hit T) hpo hn
  generalize hc1 : fall c (((wr K d m c (e % (K * m))).take ts.length).zip ts) = c1 at *
  generalize hc2 : mendF c (wr K d m c (e % (K * m))) = c2 at *
  have g3 : Good (T2 ++ [some ((encF c1).map Vd.dat)]) := g2.snocD _
  have t3 := d2.tin.snoc (some ((encF c1).map Vd.dat))
  have et3 := x_tupo (get_sn T2 (some ((encF c1).map Vd.dat)))
  refine e_seq (e_set (T' := T2 ++ [some ((encF c1).map Vd.dat)]) (d := .dat (.tuple (encF c1))) (by simp -implicitDefEqProofs [mSl, mPart, es, ef, et3]) ?_)
  rw [rW12]
  generalize T2 ++ [some ((encF c1).map Vd.dat)] = T3 at *
  have elo : fListOf [.dat (.tuple (encTs ts))] T3 = .ok (.dat (.list (encTs ts))) T3 := by
    unfold fListOf itemsOf
    simp only [dats_map]
  refine e_seq (p_set (d := .dat (.list [.tuple (encWs (wr K d m c (e % (K * m)))), .tuple (encF c1), .tuple (encF c2)])) (by simp -implicitDefEqProofs [el1 g3, el2 g3, eg1 g3, eg2 g3, eg3 g3, elo]) ?_)
  rw [rW13]
  have g4 : Good (T3 ++ [some ((encF c2).map Vd.dat)]) := g3.snocD _
  have t4 := t3.snoc (some ((encF c2).map Vd.dat))
  have et4 := x_tupo (get_sn T3 (some ((encF c2).map Vd.dat)))
  have tq : Tq 8 (.list [.tuple (encWs (wr K d m c (e % (K * m)))), .tuple (encF c1), .tuple (encF c2)]) := ⟨by simp, fun y hy => by
    simp at hy
    rcases hy with rfl | rfl | rfl
    · exact (encWs_tq S).up
    · exact (face_tp kp1.asl.face S.k2).q.up.up
    · exact (face_tp kp2.asl.face S.k2).q.up.up⟩
  have esm := ev_same 8 _ g4 _ tq
  have elm3 := elm g3
  refine e_seq (e_ifF (T' := T3 ++ [some ((encF c2).map Vd.dat)]) (by simp -implicitDefEqProofs [elm3, et4, esm]) (e_skip ?_))
  generalize T3 ++ [some ((encF c2).map Vd.dat)] = T4 at *
  have r1 := readL_same S hp kp1.win
  have r2 := readL_same S hp kp2.win
  have hsl : fSl (.dat (.list [.tuple (encWs (wr K d m c (e % (K * m)))), .tuple (encF c1), .tuple (encF c2)])) (some 1) none T4 = .ok (.dat (.list [.tuple (encF c1), .tuple (encF c2)])) T4 := x_sl_l (by rw [cut_from]; rfl)
  have hit2 : ∀ S, itemsOf (.dat (.list [.tuple (encF c1), .tuple (encF c2)])) S = some ([c1, c2].map fun c => Vd.dat (.tuple (encF c))) := fun S => rfl
  refine e_seq (e_for [c1, c2] (fun c => .one (.dat (.tuple (encF c)))) (fun i ρ T' => ∃ z14 z15, ρ = rW ns K d m f c (e % (K * m)) (readL K d c (e % (K * m))) z8 (some (.dat (.list (encWs (wr K d m c (e % (K * m))))))) (some (.dat (.int ts.length))) (some (.dat (.tuple (encTs ts)))) (some (.dat (.tuple (encF c1))))
      (some (.dat (.list [.tuple (encWs (wr K d m c (e % (K * m)))), .tuple (encF c1), .tuple (encF c2)]))) z14 z15 ∧ T' = T4)
    (T1 := T4) (it := .seq (.dat (.list [.tuple (encF c1), .tuple (encF c2)]))) (by simp -implicitDefEqProofs [mSeq, mSl, mPart, hsl, hasItems, hit2]) (by rw [fu_seq (hit2 _)]; rfl) (fun i ρ T' hi _ => ?_) ⟨z14, z15, rfl, rfl⟩ ?_ ?_)
  · rw [nw_seq (hit2 _), List.getElem?_map, Option.map_map]
    rfl
  · rintro i c' ρ T' hy ⟨z14, z15, rfl, rfl⟩
    have hk : Kept K d m c c' s e b ∧ readL K d c' (e % (K * m)) = readL K d c (e % (K * m)) := by
      have := List.mem_of_getElem? hy
      simp at this
      rcases this with rfl | rfl
      · exact ⟨kp1, r1⟩
      · exact ⟨kp2, r2⟩
    refine ⟨_, _, rfl, ?_⟩
    rw [rW14]
    have lc := read_lc (ρ := rW ns K d m f c (e % (K * m)) (readL K d c (e % (K * m))) z8 (some (.dat (.list (encWs (wr K d m c (e % (K * m))))))) (some (.dat (.int ts.length))) (some (.dat (.tuple (encTs ts)))) (some (.dat (.tuple (encF c1))))
      (some (.dat (.list [.tuple (encWs (wr K d m c (e % (K * m)))), .tuple (encF c1), .tuple (encF c2)]))) (some (.dat (.tuple (encF c')))) z15) (x := .dat (.tuple (encF c'))) (mf := mVar 14) (mn := mVar 5) (mk := mVar 2) (mw := mVar 6) S hk.1.asl.face g4 (fun _ => rfl) hpo (fun _ _ => rfl) (fun _ _ => rfl) (fun _ _ => rfl) rfl (fun _ => rfl)
    rw [hk.2] at lc
    refine e_seq (p_set (d := .dat (.list (readL K d c (e % (K * m))))) lc ?_)
    rw [rW15]
    have ea := ev_answer g4 S hk.1.asl.face.len (x := .dat (.tuple (encF c'))) rfl
    rw [hk.1.asl.answer S] at ea
    have en := ne_self (T := T') (readL_tq (d := d) (p := e % (K * m)) S F) (by decide)
    refine p_ifF (by simp -implicitDefEqProofs only [x_or, x_m2, x_N, x_cons, x_nil, x_var, List.getElem?_cons_succ, List.getElem?_cons_zero, bd_ok, x_call2, ea, x_eq, x_sh_int, if_true, x_eqv_i, decide_true, Bool.not_true, en]; exact en) (e_skip ⟨_, rfl, _, _, rfl, rfl⟩)
  · rintro ρ T' ⟨z14, z15, rfl, rfl⟩
    have hx1 : fIx (.dat (.list [.tuple (encWs (wr K d m c (e % (K * m)))), .tuple (encF c1), .tuple (encF c2)])) (.dat (.int 1)) T' = .ok (.dat (.tuple (encF c1))) T' := x_ixn_l (by decide) rfl
    refine p_set (d := .dat (.tuple (encF c1))) (by simp -implicitDefEqProofs [hx1]) ?_
    rw [rW4]
    refine ⟨c1, _, _, _, _, _, _, _, by rw [r1], g4, t4.up (by omega), kp1.asl, r1⟩
end Hr
set_option Elab.async false
set_option linter.all false
set_option maxRecDepth 100000
set_option maxHeartbeats 4000000
namespace Hr
open PySem PySem.Spec PyProof.Rows L2
/-- THE LAW, as its mirror runs: True at every script -/
theorem law_true (ns : List Int) (hn : ns.length ≤ 63) : ∃ T, f_law [.scr ns] [] = .ok (.dat (.bool true)) T := by
  have main : Ev (f_law [.scr ns] []) fun d' _ => d' = .dat (.bool true) := by
    refine e_fn ?_
    show Ev (m_law [some (.scr ns), none, none, none, none, none, none, none, none, none, none, none, none, none, none, none, none] []) _
    have g0 : Good [] := rfl
    have eh := fun ρ => x_callX (ρ := ρ) (T := []) closed_hand
    refine e_seq (p_ifF (by simp -implicitDefEqProofs [eh]) (e_skip ?_))
    obtain ⟨z, ec⟩ := ev_cells g0 ns hn
    obtain ⟨a, b, eb, a0, b0⟩ := ev_box (T := []) z
    refine e_seq (e_set (T' := [some [.dat (.int a), .dat (.int b), .dat (.int 0)]]) (d := .own 0) (by simp -implicitDefEqProofs [ec]; exact eb) ?_)
    show Ev _ _
    have g1 : Good [some [.dat (.int a), .dat (.int b), .dat (.int 0)]] := rfl
    have t1 : Tin [some [.dat (.int a), .dat (.int b), .dat (.int 0)]] 0 0 := ⟨a, b, 0, rfl, a0, b0, by omega, by omega⟩
    generalize ([some [Vd.dat (.int a), Vd.dat (.int b), Vd.dat (.int 0)]] : Tab) = T1 at *
    obtain ⟨K, d, m, T2, e2, S, d2⟩ := ev_safe_form g1 t1 (by omega)
    have g2 := d2.good g1
    refine e_seq (e_set (T' := T2) (d := .dat (fmD K d m)) (by simp -implicitDefEqProofs [e2]) ?_)
    show Ev _ _
    obtain ⟨v, T3, e3, v0, v1, d3⟩ := ev_take g2 d2.tin (by omega) (n := 2) (by decide) (by decide)
    have g3 := d3.good g2
    obtain ⟨xs, st, e, T4, e4, L, d4⟩ := ev_drawn_life (n := 1 + v) S g3 d3.tin (by omega) (by omega) (by omega)
    have g4 := d4.good g3
    obtain ⟨T5, f, fa, fb, e5, D5⟩ := ev_run S g4 d4.tin L
    refine e_seq (e_set (T' := T5) (d := .own f) (by simp -implicitDefEqProofs [e3, e4, e5]) ?_)
    show Ev _ _
    have hit : itemsOf (.own fa) T5 = some ((encF st.cells).map Vd.dat) := D5.fr.items_a
    have ett := x_tupo D5.fr.cells
    refine e_seq (p_set (d := .dat (.tuple (encF st.cells))) (by simp -implicitDefEqProofs [D5.fr.ix0, ett]) ?_)
    show Ev _ _
    have A := L.asl.asl
    have F := A.face
    have g5 := D5.good
    have t5 := D5.tin
    have ea := ev_answer g5 S F.len (x := .dat (.tuple (encF st.cells))) rfl
    rw [A.answer S] at ea
    refine e_seq (p_set (d := .dat (.int (e % (K * m)))) (by simp -implicitDefEqProofs [ea]) ?_)
    show Ev _ _
    refine e_seq (p_ifF (by simp -implicitDefEqProofs) (e_skip ?_))
    refine e_seq (p_set (d := .dat (.int (K - d))) (by simp -implicitDefEqProofs) ?_)
    show Ev _ _
    have hpo := okA_mod S e
    have lc := read_lc (ρ := [some (.scr ns), some (.own 0), some (.dat (fmD K d m)), some (.own f), some (.dat (.tuple (encF st.cells))), some (.dat (.int (e % (K * m)))), some (.dat (.int (K - d))), none, none, none, none, none, none, none, none, none, none]) (x := .dat (.tuple (encF st.cells)))
      (mf := mVar 4) (mn := mVar 5) (mk := mVar 2) (mw := mVar 6) S F g5 (fun _ => rfl) hpo (fun _ _ => rfl) (fun _ _ => rfl) (fun _ _ => rfl) rfl (fun _ => rfl)
    refine e_seq (p_set (d := .dat (.list (readL K d st.cells (e % (K * m))))) lc ?_)
    show Ev _ _
    have fin : ∀ ρ T, Ev (sRet (mCallX f_law_refused_right) ρ T) fun fl T' => match fl with
        | .rt d => d = .dat (.bool true)
        | .nx _ => Vd.dat .none = .dat (.bool true) := fun ρ T => e_ret (x_callX closed_refused) rfl
    refine e_seq (e_for (nums 3) (fun y => .one (.dat (.int y))) (fun i ρ T' => ∃ c z8 z9 z10 z11 z12 z13 z14 z15, ρ = rW ns K d m f c (e % (K * m)) (readL K d c (e % (K * m))) z8 z9 z10 z11 z12 z13 z14 z15 ∧ Good T' ∧ Tin T' 0 (10000 + 100 * (i : Nat)) ∧ Asl K d m c st.lo e st.hi)
      (T1 := T5) (it := .rng 0 3) (x_rng1 (n := 3) (by simp) (by omega)) (by simp [fuelOf, nums]) (fun i ρ T' hi _ => nw_rng i) ⟨st.cells, none, none, none, none, none, none, none, none, rfl, g5, t5.up (by omega), A⟩ ?_ ?_)
    · rintro i y ρ T' hy ⟨c, z8, z9, z10, z11, z12, z13, z14, z15, rfl, g6, t6, A6⟩
      obtain ⟨ey, hi⟩ := nums_get hy
      refine ⟨_, _, rfl, ?_⟩
      rw [rW8]
      refine (law_turn (ns := ns) (f := f) S A6 (cong_self S e).1 rfl g6 t6 (by omega)).imp ?_
      rintro fl T7 ⟨c', z9', z10', z11', z12', z13', z14', z15', rfl, g7, t7, A7, _⟩
      exact ⟨_, rfl, c', _, _, _, _, _, _, _, _, rfl, g7, t7.up (by omega), A7⟩
    · rintro ρ T' _
      exact fin ρ T'
  obtain ⟨d', T', e, rfl⟩ := main
  exact ⟨T', e⟩
end Hr
set_option Elab.async false
set_option linter.all false
set_option maxRecDepth 100000
set_option maxHeartbeats 0
namespace Hr
open PySem PySem.Spec PyProof.Rows L2
def dD0 : He.DefD := ⟨("is_number", none), "is_number", "is_number", defArgs (topS 4), defBody (topS 4), defScope (topS 4), [], []⟩
def dD1 : He.DefD := ⟨("is_from", none), "is_from", "is_from", defArgs (topS 5), defBody (topS 5), defScope (topS 5), [], []⟩
def dD2 : He.DefD := ⟨("is_within", none), "is_within", "is_within", defArgs (topS 6), defBody (topS 6), defScope (topS 6), [], []⟩
def dD3 : He.DefD := ⟨("is_long", none), "is_long", "is_long", defArgs (topS 7), defBody (topS 7), defScope (topS 7), [], []⟩
def dD4 : He.DefD := ⟨("tupled", none), "tupled", "tupled", defArgs (topS 8), defBody (topS 8), defScope (topS 8), [], []⟩
def dD5 : He.DefD := ⟨("is_word", none), "is_word", "is_word", defArgs (topS 12), defBody (topS 12), defScope (topS 12), [], []⟩
def dD6 : He.DefD := ⟨("is_key", none), "is_key", "is_key", defArgs (topS 13), defBody (topS 13), defScope (topS 13), [], []⟩
def dD7 : He.DefD := ⟨("is_single", none), "is_single", "is_single", defArgs (topS 14), defBody (topS 14), defScope (topS 14), [], []⟩
def dD8 : He.DefD := ⟨("is_record", none), "is_record", "is_record", defArgs (topS 15), defBody (topS 15), defScope (topS 15), [], []⟩
def dD9 : He.DefD := ⟨("is_shape", none), "is_shape", "is_shape", defArgs (topS 17), defBody (topS 17), defScope (topS 17), [], []⟩
def dD10 : He.DefD := ⟨("sure_shape", none), "sure_shape", "sure_shape", defArgs (topS 18), defBody (topS 18), defScope (topS 18), [], []⟩
def dD11 : He.DefD := ⟨("mark_in", none), "mark_in", "mark_in", defArgs (topS 19), defBody (topS 19), defScope (topS 19), [], []⟩
def dD12 : He.DefD := ⟨("is_told_cell", none), "is_told_cell", "is_told_cell", defArgs (topS 24), defBody (topS 24), defScope (topS 24), [], []⟩
def dD13 : He.DefD := ⟨("is_cell_in", none), "is_cell_in", "is_cell_in", defArgs (topS 25), defBody (topS 25), defScope (topS 25), [], []⟩
def dD14 : He.DefD := ⟨("is_picture_in", none), "is_picture_in", "is_picture_in", defArgs (topS 26), defBody (topS 26), defScope (topS 26), [], []⟩
def dD15 : He.DefD := ⟨("sure_picture", none), "sure_picture", "sure_picture", defArgs (topS 27), defBody (topS 27), defScope (topS 27), [], []⟩
def dD16 : He.DefD := ⟨("are_fates", none), "are_fates", "are_fates", defArgs (topS 28), defBody (topS 28), defScope (topS 28), [], []⟩
def dD17 : He.DefD := ⟨("fallen", none), "fallen", "fallen", defArgs (topS 29), defBody (topS 29), defScope (topS 29), [], []⟩
def dD18 : He.DefD := ⟨("shows_in", none), "shows_in", "shows_in", defArgs (topS 31), defBody (topS 31), defScope (topS 31), [], []⟩
def dD19 : He.DefD := ⟨("run_in", none), "run_in", "run_in", defArgs (topS 32), defBody (topS 32), defScope (topS 32), [], []⟩
def dD20 : He.DefD := ⟨("places_in", none), "places_in", "places_in", defArgs (topS 33), defBody (topS 33), defScope (topS 33), [], []⟩
def dD21 : He.DefD := ⟨("gaps_in", none), "gaps_in", "gaps_in", defArgs (topS 34), defBody (topS 34), defScope (topS 34), [], []⟩
def dD22 : He.DefD := ⟨("far_in", none), "far_in", "far_in", defArgs (topS 35), defBody (topS 35), defScope (topS 35), [], []⟩
def dD23 : He.DefD := ⟨("answer_in", none), "answer_in", "answer_in", defArgs (topS 36), defBody (topS 36), defScope (topS 36), [], []⟩
def dD24 : He.DefD := ⟨("writes_at", none), "writes_at", "writes_at", defArgs (topS 40), defBody (topS 40), defScope (topS 40), [], []⟩
def dD25 : He.DefD := ⟨("sure_both", none), "sure_both", "sure_both", defArgs (topS 42), defBody (topS 42), defScope (topS 42), [], []⟩
def dD26 : He.DefD := ⟨("sure_answer", none), "sure_answer", "sure_answer", defArgs (topS 43), defBody (topS 43), defScope (topS 43), [], []⟩
def dD27 : He.DefD := ⟨("mend_writes", none), "mend_writes", "mend_writes", defArgs (topS 44), defBody (topS 44), defScope (topS 44), [], []⟩
def dD28 : He.DefD := ⟨("sure_words", none), "sure_words", "sure_words", defArgs (topS 45), defBody (topS 45), defScope (topS 45), [], []⟩
def dD29 : He.DefD := ⟨("partly_mended", none), "partly_mended", "partly_mended", defArgs (topS 46), defBody (topS 46), defScope (topS 46), [], []⟩
def dD30 : He.DefD := ⟨("mended_in", none), "mended_in", "mended_in", defArgs (topS 47), defBody (topS 47), defScope (topS 47), [], []⟩
def dD31 : He.DefD := ⟨("mended", none), "mended", "mended", defArgs (topS 48), defBody (topS 48), defScope (topS 48), [], []⟩
def dD32 : He.DefD := ⟨("_law_box", none), "_law_box", "_law_box", defArgs (topS 50), defBody (topS 50), defScope (topS 50), [], []⟩
def dD33 : He.DefD := ⟨("_law_take", none), "_law_take", "_law_take", defArgs (topS 51), defBody (topS 51), defScope (topS 51), [], []⟩
def dD34 : He.DefD := ⟨("_law_cells", none), "_law_cells", "_law_cells", defArgs (topS 52), defBody (topS 52), defScope (topS 52), [], []⟩
def dD35 : He.DefD := ⟨("_law_of", none), "_law_of", "_law_of", defArgs (topS 53), defBody (topS 53), defScope (topS 53), [], []⟩
def dD36 : He.DefD := ⟨("_law_lists", none), "_law_lists", "_law_lists", defArgs (topS 54), defBody (topS 54), defScope (topS 54), [], []⟩
def dD37 : He.DefD := ⟨("_law_same", none), "_law_same", "_law_same", defArgs (topS 55), defBody (topS 55), defScope (topS 55), [], []⟩
def dD38 : He.DefD := ⟨("_law_lap", none), "_law_lap", "_law_lap", defArgs (topS 56), defBody (topS 56), defScope (topS 56), [], []⟩
def dD39 : He.DefD := ⟨("_law_shows", none), "_law_shows", "_law_shows", defArgs (topS 57), defBody (topS 57), defScope (topS 57), [], []⟩
def dD40 : He.DefD := ⟨("_law_wholes", none), "_law_wholes", "_law_wholes", defArgs (topS 58), defBody (topS 58), defScope (topS 58), [], []⟩
def dD41 : He.DefD := ⟨("_law_answer", none), "_law_answer", "_law_answer", defArgs (topS 59), defBody (topS 59), defScope (topS 59), [], []⟩
def dD42 : He.DefD := ⟨("_law_blank", none), "_law_blank", "_law_blank", defArgs (topS 60), defBody (topS 60), defScope (topS 60), [], []⟩
def dD43 : He.DefD := ⟨("_law_face", none), "_law_face", "_law_face", defArgs (topS 61), defBody (topS 61), defScope (topS 61), [], []⟩
def dD44 : He.DefD := ⟨("_law_fates", none), "_law_fates", "_law_fates", defArgs (topS 62), defBody (topS 62), defScope (topS 62), [], []⟩
def dD45 : He.DefD := ⟨("_law_fallen", none), "_law_fallen", "_law_fallen", defArgs (topS 63), defBody (topS 63), defScope (topS 63), [], []⟩
def dD46 : He.DefD := ⟨("_law_mending", none), "_law_mending", "_law_mending", defArgs (topS 64), defBody (topS 64), defScope (topS 64), [], []⟩
def dD47 : He.DefD := ⟨("_law_is_note", none), "_law_is_note", "_law_is_note", defArgs (topS 65), defBody (topS 65), defScope (topS 65), [], []⟩
def dD48 : He.DefD := ⟨("_law_are_fates", none), "_law_are_fates", "_law_are_fates", defArgs (topS 66), defBody (topS 66), defScope (topS 66), [], []⟩
def dD49 : He.DefD := ⟨("_law_alone", none), "_law_alone", "_law_alone", defArgs (topS 67), defBody (topS 67), defScope (topS 67), [], []⟩
def dD50 : He.DefD := ⟨("_law_mended", none), "_law_mended", "_law_mended", defArgs (topS 68), defBody (topS 68), defScope (topS 68), [], []⟩
def dD51 : He.DefD := ⟨("_law_frame", none), "_law_frame", "_law_frame", defArgs (topS 69), defBody (topS 69), defScope (topS 69), [], []⟩
def dD52 : He.DefD := ⟨("_law_settle", none), "_law_settle", "_law_settle", defArgs (topS 70), defBody (topS 70), defScope (topS 70), [], []⟩
def dD53 : He.DefD := ⟨("_law_is_count", none), "_law_is_count", "_law_is_count", defArgs (topS 72), defBody (topS 72), defScope (topS 72), [], []⟩
def dD54 : He.DefD := ⟨("_law_dealt", none), "_law_dealt", "_law_dealt", defArgs (topS 71), defBody (topS 71), defScope (topS 71), [], []⟩
def dD55 : He.DefD := ⟨("_law_run", none), "_law_run", "_law_run", defArgs (topS 73), defBody (topS 73), defScope (topS 73), [], []⟩
def dD56 : He.DefD := ⟨("_law_note", none), "_law_note", "_law_note", defArgs (topS 74), defBody (topS 74), defScope (topS 74), [], []⟩
def dD57 : He.DefD := ⟨("_law_drawn_life", none), "_law_drawn_life", "_law_drawn_life", defArgs (topS 75), defBody (topS 75), defScope (topS 75), [], []⟩
def dD58 : He.DefD := ⟨("_law_safe_form", none), "_law_safe_form", "_law_safe_form", defArgs (topS 76), defBody (topS 76), defScope (topS 76), [], []⟩
def dD59 : He.DefD := ⟨("_law_by_hand_right", none), "_law_by_hand_right", "_law_by_hand_right", defArgs (topS 77), defBody (topS 77), defScope (topS 77), [], []⟩
def dD60 : He.DefD := ⟨("_law_reply", none), "_law_reply", "_law_reply", defArgs (topS 78), defBody (topS 78), defScope (topS 78), [], []⟩
def dD61 : He.DefD := ⟨("_law_refused_right", none), "_law_refused_right", "_law_refused_right", defArgs (topS 79), defBody (topS 79), defScope (topS 79), [], []⟩
def dD62 : He.DefD := ⟨("law", none), "law", "law", defArgs (topS 80), defBody (topS 80), defScope (topS 80), [], []⟩
def fnH0 : List He.DefD := [dD0, dD1, dD2, dD3, dD4, dD5, dD6, dD7, dD8, dD9, dD10, dD11, dD12, dD13, dD14, dD15, dD16, dD17, dD18, dD19, dD20, dD21, dD22, dD23, dD24, dD25, dD26, dD27, dD28, dD29]
def fnH1 : List He.DefD := [dD30, dD31, dD32, dD33, dD34, dD35, dD36, dD37, dD38, dD39, dD40, dD41, dD42, dD43, dD44, dD45, dD46, dD47, dD48, dD49, dD50, dD51, dD52, dD53, dD54, dD55, dD56, dD57, dD58, dD59]
def fnH2 : List He.DefD := [dD60, dD61, dD62]
def fnH : List He.DefD := fnH0 ++ fnH1 ++ fnH2
def faH0 : List He.Fa := [.glo "is_number", .glo "is_from", .glo "is_within", .glo "is_long", .glo "tupled", .glo "is_word", .glo "is_key", .glo "is_single", .glo "is_record", .glo "is_shape", .glo "sure_shape", .glo "mark_in", .glo "is_told_cell", .glo "is_cell_in", .glo "is_picture_in", .glo "sure_picture", .glo "are_fates", .glo "fallen", .glo "shows_in", .glo "run_in", .glo "places_in", .glo "gaps_in", .glo "far_in", .glo "answer_in", .glo "writes_at", .glo "sure_both", .glo "sure_answer", .glo "mend_writes", .glo "sure_words", .glo "partly_mended"]
def faH1 : List He.Fa := [.glo "mended_in", .glo "mended", .glo "_law_box", .glo "_law_take", .glo "_law_cells", .glo "_law_of", .glo "_law_lists", .glo "_law_same", .glo "_law_lap", .glo "_law_shows", .glo "_law_wholes", .glo "_law_answer", .glo "_law_blank", .glo "_law_face", .glo "_law_fates", .glo "_law_fallen", .glo "_law_mending", .glo "_law_is_note", .glo "_law_are_fates", .glo "_law_alone", .glo "_law_mended", .glo "_law_frame", .glo "_law_settle", .glo "_law_is_count", .glo "_law_dealt", .glo "_law_run", .glo "_law_note", .glo "_law_drawn_life", .glo "_law_safe_form", .glo "_law_by_hand_right"]
def faH2 : List He.Fa := [.glo "_law_reply", .glo "_law_refused_right", .glo "law", .glo "TORN_devices", .glo "TORN_log", .glo "BLANK", .glo "CanNot", .glo "Unfit", .free "isinstance", .free "int", .free "bool", .free "str", .free "tuple", .free "list", .free "len", .free "all", .free "zip", .free "range", .free "enumerate", .free "abs", .free "max", .free "ValueError", .str "OLD" "old", .str "NEW" "new", .str "SIGNS" "abcdefghijklmnopqrstuvwxyz0123456789", .int "LONGEST" 12, .exc "CanNot", .exc "Unfit", .exm "CanNot" "CanNot" true, .exm "Unfit" "CanNot" false]
def faH3 : List He.Fa := [.exm "Unfit" "Unfit" true]
def faH : List He.Fa := faH0 ++ faH1 ++ faH2 ++ faH3
def excB (K : PySem.W.Frag) (D : Addr) : Bool := decide (PySem.W.findIn K (.ref D) "__getattribute__" = some (some (.builtin "BaseException.__getattribute__"))) && (decide (PySem.W.findIn K (.ref D) "__getattr__" = some none) && (decide (PySem.W.subIn K (.ref D) (.type "BaseException") = some true) &&
  (PySem.W.hasDictIn K D && (decide (PySem.W.findIn K (.ref D) "__class__" = some (some (.builtin "object.__class__"))) && (decide (PySem.W.specialIn K (.builtin "object.__class__") "__get__" = some (some (.builtin "getset_descriptor.__get__"))) && (decide (PySem.W.takesIn K (.builtin "object.__class__") = some true) &&
  (decide (PySem.W.mroIn K D (.type "object") = some true) && decide (PySem.W.kitOne K (.ref D) (.type "ValueError") = some true))))))))
theorem excB_ok {K : PySem.W.Frag} {D : Addr} (h : excB K D = true) : ExcC K D ∧ PySem.W.kitOne K (.ref D) (.type "ValueError") = some true := by
  unfold excB at h
  simp only [Bool.and_eq_true, decide_eq_true_eq] at h
  obtain ⟨h1, h2, h3, h4, h5, h6, h7, h8, h9⟩ := h
  exact ⟨⟨h1, h2, h3, h4, h5, h6, h7, h8⟩, h9⟩
def exB (K : PySem.W.Frag) : Bool := He.tupB K "TORN_devices" [.str "torn"] && (He.tupB K "TORN_log" [.str "torn"] && (He.tupB K "BLANK" [.str "blank"] && (excB K (He.ga K "CanNot") && excB K (He.ga K "Unfit"))))
abbrev AlH : Type := Bool × He.AlD
def clH (K : PySem.W.Frag) : Cl := fun n => if n = 0 then .ref (He.ga K "CanNot") else .ref (He.ga K "Unfit")
def obsH (K : PySem.W.Frag) : AlH := (exB K, He.obsD faH fnH K)
def valH : AlH := (true, He.valD fnH)
def obsHG (n : Nat) (g : Addr → Option Obj) : AlH := obsH (He.frG g (He.asD g n))
def hookH (n : Nat) : PySem.W.Hook where
  α := AlH
  obs := fun s => obsHG n s.heap.get?
  val := fun _ => valH
  says := fun _ h => ∃ K : PySem.W.Frag, K.In h ∧ obsH K = valH
  of := fun _ _ e => ⟨_, He.frG_in, e⟩
  keeps := fun _ _ _ ⟨K, hK, c⟩ k => ⟨K, PySem.W.Frag.In.keeps hK k, c⟩
theorem obsHG_eq {n : Nat} {g : Addr → Option Obj} {s : Shared} (h : ∀ a, g a = s.heap.get? a) : obsHG n g = (hookH n).obs s := by
  have e : g = s.heap.get? := funext h
  rw [e] <;> rfl
abbrev RH : PySem.W.OpenRow := PySem.W.OpenLaw.row PySem.Challenge.rw_halfring_k25_whole_mending_cut_anywhere
def obH (s : PySem.W.SharedT) : AlH := obsHG 4 (HandSHeadRun.getT s)
theorem obH_eq (s : PySem.W.SharedT) : obH s = (hookH 4).obs s.abs := obsHG_eq (HandSHeadRun.getT_eq s)
def looseH0 : List Str := ["__name__", "CanNot", "Unfit", "is_number", "is_from", "is_within", "is_long", "tupled", "SIGNS", "LONGEST", "is_word", "is_key", "is_single", "is_record", "is_shape", "sure_shape", "mark_in", "TORN_devices", "OLD", "NEW", "is_told_cell", "is_cell_in", "is_picture_in", "sure_picture", "are_fates", "fallen", "shows_in", "run_in", "places_in", "gaps_in"]
def looseH1 : List Str := ["far_in", "answer_in", "TORN_log", "BLANK", "writes_at", "sure_both", "sure_answer", "mend_writes", "sure_words", "partly_mended", "mended_in", "mended", "_law_box", "_law_take", "_law_cells", "_law_of", "_law_lists", "_law_same", "_law_lap", "_law_shows", "_law_wholes", "_law_answer", "_law_blank", "_law_face", "_law_fates", "_law_fallen", "_law_mending", "_law_is_note", "_law_are_fates", "_law_alone"]
def looseH2 : List Str := ["_law_mended", "_law_frame", "_law_settle", "_law_dealt", "_law_is_count", "_law_run", "_law_note", "_law_drawn_life", "_law_safe_form", "_law_by_hand_right", "_law_reply", "_law_refused_right"]
def looseH : List Str := looseH0 ++ looseH1 ++ looseH2
theorem runH (w : World) : HandSHeadRun.RunEq RH (PySem.W.view RH.prog [80]) (hookH 4) obH 20000 looseH w := by
  intro os
  kernel_rfl
theorem facH {K : PySem.W.Frag} {h : Heap} {mg : Str → Option Value} (X : K.In h) (G : h.Ns mainGlobals mg) (c : He.SaysD faH fnH K) (cx : exB K = true) : Fac K mg (clH K) := by
  unfold exB at cx
  simp only [Bool.and_eq_true] at cx
  obtain ⟨x1, x2, x3, x4, x5⟩ := cx
  have b0 := excB_ok x4
  have b1 := excB_ok x5
  have g0 := He.glo_ok X G (c.fact 66 (f := .glo "CanNot") rfl)
  have g1 := He.glo_ok X G (c.fact 67 (f := .glo "Unfit") rfl)
  have q0 := He.exc_ok (c.fact 86 (f := .exc "CanNot") rfl)
  have q1 := He.exc_ok (c.fact 87 (f := .exc "Unfit") rfl)
  exact ⟨He.free_ok X G (c.fact 68 (f := .free "isinstance") rfl),
    He.free_ok X G (c.fact 69 (f := .free "int") rfl),
    He.free_ok X G (c.fact 70 (f := .free "bool") rfl),
    He.free_ok X G (c.fact 71 (f := .free "str") rfl),
    He.free_ok X G (c.fact 72 (f := .free "tuple") rfl),
    He.free_ok X G (c.fact 73 (f := .free "list") rfl),
    He.free_ok X G (c.fact 74 (f := .free "len") rfl),
    He.free_ok X G (c.fact 75 (f := .free "all") rfl),
    He.free_ok X G (c.fact 76 (f := .free "zip") rfl),
    He.free_ok X G (c.fact 77 (f := .free "range") rfl),
    He.free_ok X G (c.fact 78 (f := .free "enumerate") rfl),
    He.free_ok X G (c.fact 79 (f := .free "abs") rfl),
    He.free_ok X G (c.fact 80 (f := .free "max") rfl),
    He.free_ok X G (c.fact 81 (f := .free "ValueError") rfl),
    ⟨_, .ref (He.ga K "TORN_devices"), He.glo_ok X G (c.fact 63 (f := .glo "TORN_devices") rfl), rfl, fun F => Da.tup (He.tupB_ok x1 F) (.cons (.str _) .nil)⟩,
    ⟨_, .ref (He.ga K "TORN_log"), He.glo_ok X G (c.fact 64 (f := .glo "TORN_log") rfl), rfl, fun F => Da.tup (He.tupB_ok x2 F) (.cons (.str _) .nil)⟩,
    ⟨_, .ref (He.ga K "BLANK"), He.glo_ok X G (c.fact 65 (f := .glo "BLANK") rfl), rfl, fun F => Da.tup (He.tupB_ok x3 F) (.cons (.str _) .nil)⟩,
    (by obtain ⟨t, e⟩ := He.str_ok X G (c.fact 82 (f := .str "OLD" "old") rfl); exact ⟨_, .str "old", e, ⟨t, rfl⟩, fun F => .str _⟩),
    (by obtain ⟨t, e⟩ := He.str_ok X G (c.fact 83 (f := .str "NEW" "new") rfl); exact ⟨_, .str "new", e, ⟨t, rfl⟩, fun F => .str _⟩),
    (by obtain ⟨t, e⟩ := He.str_ok X G (c.fact 84 (f := .str "SIGNS" "abcdefghijklmnopqrstuvwxyz0123456789") rfl); exact ⟨_, .str "abcdefghijklmnopqrstuvwxyz0123456789", e, ⟨t, rfl⟩, fun F => .str _⟩),
    (by obtain ⟨t, e⟩ := He.int_ok X G (c.fact 85 (f := .int "LONGEST" 12) rfl); exact ⟨_, .int 12, e, ⟨t, rfl⟩, fun F => .int _⟩),
    ⟨_, rfl, g0, q0.1, q0.2.1, q0.2.2.1, q0.2.2.2⟩,
    ⟨_, rfl, g1, q1.1, q1.2.1, q1.2.2.1, q1.2.2.2⟩,
    ⟨_, _, ⟨rfl, rfl, g0, g1, He.exm_ok (c.fact 88 (f := .exm "CanNot" "CanNot" true) rfl), He.exm_ok (c.fact 89 (f := .exm "Unfit" "CanNot" false) rfl), He.exm_ok (c.fact 90 (f := .exm "Unfit" "Unfit" true) rfl), b0.1, b1.1, b0.2, b1.2⟩⟩⟩
theorem allH {P : Program} {w : World} {K : PySem.W.Frag} {mg : Str → Option Value} {base : Heap} {cl : Cl} (Fc : Fac K mg cl) (c : He.SaysD faH fnH K) (gm : ∀ (i : Nat) (x : Str), faH[i]? = some (.glo x) → mg x = some (.ref (He.ga K x))) :
    ∃ fd, FnP K "law" (topS 80) (He.ga K "law") fd ∧ FnOk P w K mg base (L2.CX P w) 16 (He.ga K "law") fd ["_law_script"] (spOf K cl 1 f_law) := by
  obtain ⟨fd0, F0⟩ := c.def_ 0 (d := dD0) rfl
  have hm0 := gm 0 "is_number" rfl
  have C_is_number : Cal P w K mg base cl "is_number" ["thing"] 1 f_is_number := ok_is_number Fc F0 hm0
  obtain ⟨fd1, F1⟩ := c.def_ 1 (d := dD1) rfl
  have hm1 := gm 1 "is_from" rfl
  have C_is_from : Cal P w K mg base cl "is_from" ["thing", "least"] 2 f_is_from := ok_is_from Fc F1 hm1 C_is_number
  obtain ⟨fd2, F2⟩ := c.def_ 2 (d := dD2) rfl
  have hm2 := gm 2 "is_within" rfl
  have C_is_within : Cal P w K mg base cl "is_within" ["thing", "least", "most"] 2 f_is_within := ok_is_within Fc F2 hm2 C_is_number
  obtain ⟨fd3, F3⟩ := c.def_ 3 (d := dD3) rfl
  have hm3 := gm 3 "is_long" rfl
  have C_is_long : Cal P w K mg base cl "is_long" ["thing", "length"] 1 f_is_long := ok_is_long Fc F3 hm3
  obtain ⟨fd4, F4⟩ := c.def_ 4 (d := dD4) rfl
  have hm4 := gm 4 "tupled" rfl
  have C_tupled : Cal P w K mg base cl "tupled" ["value"] 9 (f_tupled 8) := ok_tupled Fc F4 hm4 8
  obtain ⟨fd5, F5⟩ := c.def_ 5 (d := dD5) rfl
  have hm5 := gm 5 "is_word" rfl
  have C_is_word : Cal P w K mg base cl "is_word" ["thing"] 1 f_is_word := ok_is_word Fc F5 hm5
  obtain ⟨fd6, F6⟩ := c.def_ 6 (d := dD6) rfl
  have hm6 := gm 6 "is_key" rfl
  have C_is_key : Cal P w K mg base cl "is_key" ["thing"] 2 f_is_key := ok_is_key Fc F6 hm6 C_is_word
  obtain ⟨fd7, F7⟩ := c.def_ 7 (d := dD7) rfl
  have hm7 := gm 7 "is_single" rfl
  have C_is_single : Cal P w K mg base cl "is_single" ["thing"] 3 f_is_single := ok_is_single Fc F7 hm7 C_is_key C_is_word
  obtain ⟨fd8, F8⟩ := c.def_ 8 (d := dD8) rfl
  have hm8 := gm 8 "is_record" rfl
  have C_is_record : Cal P w K mg base cl "is_record" ["thing"] 4 f_is_record := ok_is_record Fc F8 hm8 C_is_single C_is_from
  obtain ⟨fd9, F9⟩ := c.def_ 9 (d := dD9) rfl
  have hm9 := gm 9 "is_shape" rfl
  have C_is_shape : Cal P w K mg base cl "is_shape" ["thing"] 3 f_is_shape := ok_is_shape Fc F9 hm9 C_is_long C_is_from C_is_within
  obtain ⟨fd10, F10⟩ := c.def_ 10 (d := dD10) rfl
  have hm10 := gm 10 "sure_shape" rfl
  have C_sure_shape : Cal P w K mg base cl "sure_shape" ["shape"] 10 f_sure_shape := ok_sure_shape Fc F10 hm10 C_tupled C_is_shape
  obtain ⟨fd11, F11⟩ := c.def_ 11 (d := dD11) rfl
  have hm11 := gm 11 "mark_in" rfl
  have C_mark_in : Cal P w K mg base cl "mark_in" ["shape", "number"] 1 f_mark_in := ok_mark_in Fc F11 hm11
  obtain ⟨fd12, F12⟩ := c.def_ 12 (d := dD12) rfl
  have hm12 := gm 12 "is_told_cell" rfl
  have C_is_told_cell : Cal P w K mg base cl "is_told_cell" ["thing"] 5 f_is_told_cell := ok_is_told_cell Fc F12 hm12 C_is_long C_is_from C_is_record
  obtain ⟨fd13, F13⟩ := c.def_ 13 (d := dD13) rfl
  have hm13 := gm 13 "is_cell_in" rfl
  have C_is_cell_in : Cal P w K mg base cl "is_cell_in" ["shape", "thing"] 6 f_is_cell_in := ok_is_cell_in Fc F13 hm13 C_is_told_cell
  obtain ⟨fd14, F14⟩ := c.def_ 14 (d := dD14) rfl
  have hm14 := gm 14 "is_picture_in" rfl
  have C_is_picture_in : Cal P w K mg base cl "is_picture_in" ["shape", "thing"] 7 f_is_picture_in := ok_is_picture_in Fc F14 hm14 C_is_long C_is_cell_in
  obtain ⟨fd15, F15⟩ := c.def_ 15 (d := dD15) rfl
  have hm15 := gm 15 "sure_picture" rfl
  have C_sure_picture : Cal P w K mg base cl "sure_picture" ["shape", "picture"] 10 f_sure_picture := ok_sure_picture Fc F15 hm15 C_tupled C_is_picture_in
  obtain ⟨fd16, F16⟩ := c.def_ 16 (d := dD16) rfl
  have hm16 := gm 16 "are_fates" rfl
  have C_are_fates : Cal P w K mg base cl "are_fates" ["many", "thing"] 2 f_are_fates := ok_are_fates Fc F16 hm16 C_is_long
  obtain ⟨fd17, F17⟩ := c.def_ 17 (d := dD17) rfl
  have hm17 := gm 17 "fallen" rfl
  have C_fallen : Cal P w K mg base cl "fallen" ["picture", "writes", "fates"] 1 f_fallen := ok_fallen Fc F17 hm17
  obtain ⟨fd18, F18⟩ := c.def_ 18 (d := dD18) rfl
  have hm18 := gm 18 "shows_in" rfl
  have C_shows_in : Cal P w K mg base cl "shows_in" ["shape", "picture", "number"] 2 f_shows_in := ok_shows_in Fc F18 hm18 C_mark_in
  obtain ⟨fd19, F19⟩ := c.def_ 19 (d := dD19) rfl
  have hm19 := gm 19 "run_in" rfl
  have C_run_in : Cal P w K mg base cl "run_in" ["shape", "picture", "place"] 3 f_run_in := ok_run_in Fc F19 hm19 C_shows_in
  obtain ⟨fd20, F20⟩ := c.def_ 20 (d := dD20) rfl
  have hm20 := gm 20 "places_in" rfl
  have C_places_in : Cal P w K mg base cl "places_in" ["shape", "picture"] 4 f_places_in := ok_places_in Fc F20 hm20 C_run_in C_shows_in
  obtain ⟨fd21, F21⟩ := c.def_ 21 (d := dD21) rfl
  have hm21 := gm 21 "gaps_in" rfl
  have C_gaps_in : Cal P w K mg base cl "gaps_in" ["shape", "picture"] 5 f_gaps_in := ok_gaps_in Fc F21 hm21 C_places_in
  obtain ⟨fd22, F22⟩ := c.def_ 22 (d := dD22) rfl
  have hm22 := gm 22 "far_in" rfl
  have C_far_in : Cal P w K mg base cl "far_in" ["shape", "picture"] 6 f_far_in := ok_far_in Fc F22 hm22 C_gaps_in
  obtain ⟨fd23, F23⟩ := c.def_ 23 (d := dD23) rfl
  have hm23 := gm 23 "answer_in" rfl
  have C_answer_in : Cal P w K mg base cl "answer_in" ["shape", "picture"] 7 f_answer_in := ok_answer_in Fc F23 hm23 C_far_in
  obtain ⟨fd24, F24⟩ := c.def_ 24 (d := dD24) rfl
  have hm24 := gm 24 "writes_at" rfl
  have C_writes_at : Cal P w K mg base cl "writes_at" ["shape", "picture", "place"] 3 f_writes_at := ok_writes_at Fc F24 hm24 C_shows_in C_mark_in
  obtain ⟨fd25, F25⟩ := c.def_ 25 (d := dD25) rfl
  have hm25 := gm 25 "sure_both" rfl
  have C_sure_both : Cal P w K mg base cl "sure_both" ["shape", "picture"] 11 f_sure_both := ok_sure_both Fc F25 hm25 C_sure_shape C_sure_picture
  obtain ⟨fd26, F26⟩ := c.def_ 26 (d := dD26) rfl
  have hm26 := gm 26 "sure_answer" rfl
  have C_sure_answer : Cal P w K mg base cl "sure_answer" ["shape", "picture"] 12 f_sure_answer := ok_sure_answer Fc F26 hm26 C_sure_both C_answer_in
  obtain ⟨fd27, F27⟩ := c.def_ 27 (d := dD27) rfl
  have hm27 := gm 27 "mend_writes" rfl
  have C_mend_writes : Cal P w K mg base cl "mend_writes" ["shape", "picture"] 13 f_mend_writes := ok_mend_writes Fc F27 hm27 C_sure_answer C_writes_at
  obtain ⟨fd28, F28⟩ := c.def_ 28 (d := dD28) rfl
  have hm28 := gm 28 "sure_words" rfl
  have C_sure_words : Cal P w K mg base cl "sure_words" ["fates"] 10 f_sure_words := ok_sure_words Fc F28 hm28 C_tupled C_are_fates
  obtain ⟨fd29, F29⟩ := c.def_ 29 (d := dD29) rfl
  have hm29 := gm 29 "partly_mended" rfl
  have C_partly_mended : Cal P w K mg base cl "partly_mended" ["shape", "picture", "many", "fates"] 13 f_partly_mended := ok_partly_mended Fc F29 hm29 C_sure_both C_sure_words C_sure_answer C_writes_at C_is_from C_fallen
  have K_partly_mended : CalK P w K mg base cl "partly_mended" ["shape", "picture", "many", "fates"] ["picture", "many", "shape", "fates"] [2, 0, 1, 3] 13 f_partly_mended := ky_partly_mended Fc F29 hm29 C_sure_both C_sure_words C_sure_answer C_writes_at C_is_from C_fallen
  obtain ⟨fd30, F30⟩ := c.def_ 30 (d := dD30) rfl
  have hm30 := gm 30 "mended_in" rfl
  have C_mended_in : Cal P w K mg base cl "mended_in" ["shape", "picture", "place"] 4 f_mended_in := ok_mended_in Fc F30 hm30 C_writes_at C_fallen
  obtain ⟨fd31, F31⟩ := c.def_ 31 (d := dD31) rfl
  have hm31 := gm 31 "mended" rfl
  have C_mended : Cal P w K mg base cl "mended" ["shape", "picture"] 13 f_mended := ok_mended Fc F31 hm31 C_sure_answer C_mended_in
  have K_mended : CalK P w K mg base cl "mended" ["shape", "picture"] ["shape", "picture"] [0, 1] 13 f_mended := ky_mended Fc F31 hm31 C_sure_answer C_mended_in
  obtain ⟨fd32, F32⟩ := c.def_ 32 (d := dD32) rfl
  have hm32 := gm 32 "_law_box" rfl
  have C_law_box : Cal P w K mg base cl "_law_box" ["_law_script", "_law_k"] 1 f_law_box := ok_law_box Fc F32 hm32
  obtain ⟨fd33, F33⟩ := c.def_ 33 (d := dD33) rfl
  have hm33 := gm 33 "_law_take" rfl
  have C_law_take : Cal P w K mg base cl "_law_take" ["_law_tin", "_law_below_so"] 1 f_law_take := ok_law_take Fc F33 hm33
  obtain ⟨fd34, F34⟩ := c.def_ 34 (d := dD34) rfl
  have hm34 := gm 34 "_law_cells" rfl
  have C_law_cells : Cal P w K mg base cl "_law_cells" ["_law_script", "_law_most_so"] 1 f_law_cells := ok_law_cells Fc F34 hm34
  obtain ⟨fd35, F35⟩ := c.def_ 35 (d := dD35) rfl
  have hm35 := gm 35 "_law_of" rfl
  have C_law_of : Cal P w K mg base cl "_law_of" ["_law_tin", "_law_goods_so"] 2 f_law_of := ok_law_of Fc F35 hm35 C_law_take
  obtain ⟨fd36, F36⟩ := c.def_ 36 (d := dD36) rfl
  have hm36 := gm 36 "_law_lists" rfl
  have C_law_lists : Cal P w K mg base cl "_law_lists" ["_law_matter"] 9 (f_law_lists 8) := ok_law_lists Fc F36 hm36 8
  obtain ⟨fd37, F37⟩ := c.def_ 37 (d := dD37) rfl
  have hm37 := gm 37 "_law_same" rfl
  have C_law_same : Cal P w K mg base cl "_law_same" ["_law_got", "_law_due"] 9 (f_law_same 8) := ok_law_same Fc F37 hm37 8
  obtain ⟨fd38, F38⟩ := c.def_ 38 (d := dD38) rfl
  have hm38 := gm 38 "_law_lap" rfl
  have C_law_lap : Cal P w K mg base cl "_law_lap" ["_law_form", "_law_n"] 1 f_law_lap := ok_law_lap Fc F38 hm38
  obtain ⟨fd39, F39⟩ := c.def_ 39 (d := dD39) rfl
  have hm39 := gm 39 "_law_shows" rfl
  have C_law_shows : Cal P w K mg base cl "_law_shows" ["_law_form", "_law_face_here", "_law_n"] 2 f_law_shows := ok_law_shows Fc F39 hm39 C_law_lap
  obtain ⟨fd40, F40⟩ := c.def_ 40 (d := dD40) rfl
  have hm40 := gm 40 "_law_wholes" rfl
  have C_law_wholes : Cal P w K mg base cl "_law_wholes" ["_law_form", "_law_face_here"] 3 f_law_wholes := ok_law_wholes Fc F40 hm40 C_law_shows
  obtain ⟨fd41, F41⟩ := c.def_ 41 (d := dD41) rfl
  have hm41 := gm 41 "_law_answer" rfl
  have C_law_answer : Cal P w K mg base cl "_law_answer" ["_law_form", "_law_face_here"] 4 f_law_answer := ok_law_answer Fc F41 hm41 C_law_wholes
  obtain ⟨fd42, F42⟩ := c.def_ 42 (d := dD42) rfl
  have hm42 := gm 42 "_law_blank" rfl
  have C_law_blank : Cal P w K mg base cl "_law_blank" [] 1 f_law_blank := ok_law_blank Fc F42 hm42
  obtain ⟨fd43, F43⟩ := c.def_ 43 (d := dD43) rfl
  have hm43 := gm 43 "_law_face" rfl
  have C_law_face : Cal P w K mg base cl "_law_face" ["_law_form"] 2 f_law_face := ok_law_face Fc F43 hm43 C_law_blank
  obtain ⟨fd44, F44⟩ := c.def_ 44 (d := dD44) rfl
  have hm44 := gm 44 "_law_fates" rfl
  have C_law_fates : Cal P w K mg base cl "_law_fates" ["_law_tin", "_law_many_so"] 3 f_law_fates := ok_law_fates Fc F44 hm44 C_law_of
  obtain ⟨fd45, F45⟩ := c.def_ 45 (d := dD45) rfl
  have hm45 := gm 45 "_law_fallen" rfl
  have C_law_fallen : Cal P w K mg base cl "_law_fallen" ["_law_cells_so", "_law_flight_so", "_law_fates_so"] 1 f_law_fallen := ok_law_fallen Fc F45 hm45
  obtain ⟨fd46, F46⟩ := c.def_ 46 (d := dD46) rfl
  have hm46 := gm 46 "_law_mending" rfl
  have C_law_mending : Cal P w K mg base cl "_law_mending" ["_law_form", "_law_face_here"] 5 f_law_mending := ok_law_mending Fc F46 hm46 C_law_answer C_law_shows C_law_blank C_law_lap
  obtain ⟨fd47, F47⟩ := c.def_ 47 (d := dD47) rfl
  have hm47 := gm 47 "_law_is_note" rfl
  have C_law_is_note : Cal P w K mg base cl "_law_is_note" ["_law_note_here"] 1 f_law_is_note := ok_law_is_note Fc F47 hm47
  obtain ⟨fd48, F48⟩ := c.def_ 48 (d := dD48) rfl
  have hm48 := gm 48 "_law_are_fates" rfl
  have C_law_are_fates : Cal P w K mg base cl "_law_are_fates" ["_law_fates_so", "_law_many_so"] 1 f_law_are_fates := ok_law_are_fates Fc F48 hm48
  obtain ⟨fd49, F49⟩ := c.def_ 49 (d := dD49) rfl
  have hm49 := gm 49 "_law_alone" rfl
  have C_law_alone : Cal P w K mg base cl "_law_alone" ["_law_form", "_law_face_here"] 5 f_law_alone := ok_law_alone Fc F49 hm49 C_law_answer C_law_shows C_law_blank C_law_lap
  obtain ⟨fd50, F50⟩ := c.def_ 50 (d := dD50) rfl
  have hm50 := gm 50 "_law_mended" rfl
  have C_law_mended : Cal P w K mg base cl "_law_mended" ["_law_form", "_law_face_here"] 6 f_law_mended := ok_law_mended Fc F50 hm50 C_law_mending
  obtain ⟨fd51, F51⟩ := c.def_ 51 (d := dD51) rfl
  have hm51 := gm 51 "_law_frame" rfl
  have C_law_frame : Cal P w K mg base cl "_law_frame" ["_law_form"] 3 f_law_frame := ok_law_frame Fc F51 hm51 C_law_face
  obtain ⟨fd52, F52⟩ := c.def_ 52 (d := dD52) rfl
  have hm52 := gm 52 "_law_settle" rfl
  have C_law_settle : Cal P w K mg base cl "_law_settle" ["_law_frame_here"] 1 f_law_settle := ok_law_settle Fc F52 hm52
  obtain ⟨fd53, F53⟩ := c.def_ 53 (d := dD53) rfl
  have hm53 := gm 53 "_law_is_count" rfl
  have C_law_is_count : Cal P w K mg base cl "_law_is_count" ["_law_own", "_law_most_so"] 1 f_law_is_count := ok_law_is_count Fc F53 hm53
  obtain ⟨fd54, F54⟩ := c.def_ 54 (d := dD54) rfl
  have hm54 := gm 54 "_law_dealt" rfl
  have C_law_dealt : Cal P w K mg base cl "_law_dealt" ["_law_form", "_law_frame_here", "_law_deal", "_law_lone_so"] 7 f_law_dealt := ok_law_dealt Fc F54 hm54 C_law_is_note C_law_settle C_law_lap C_law_are_fates C_law_fallen C_law_answer C_law_mending C_law_is_count C_law_alone C_law_mended
  obtain ⟨fd55, F55⟩ := c.def_ 55 (d := dD55) rfl
  have hm55 := gm 55 "_law_run" rfl
  have C_law_run : Cal P w K mg base cl "_law_run" ["_law_form", "_law_tale", "_law_lone_so"] 8 f_law_run := ok_law_run Fc F55 hm55 C_law_frame C_law_dealt
  obtain ⟨fd56, F56⟩ := c.def_ 56 (d := dD56) rfl
  have hm56 := gm 56 "_law_note" rfl
  have C_law_note : Cal P w K mg base cl "_law_note" ["_law_tin"] 3 f_law_note := ok_law_note Fc F56 hm56 C_law_take C_law_blank C_law_of
  obtain ⟨fd57, F57⟩ := c.def_ 57 (d := dD57) rfl
  have hm57 := gm 57 "_law_drawn_life" rfl
  have C_law_drawn_life : Cal P w K mg base cl "_law_drawn_life" ["_law_tin", "_law_form", "_law_many_so", "_law_mends_so"] 8 f_law_drawn_life := ok_law_drawn_life Fc F57 hm57 C_law_frame C_law_take C_law_note C_law_dealt C_law_fates C_law_of C_law_answer C_law_mending
  obtain ⟨fd58, F58⟩ := c.def_ 58 (d := dD58) rfl
  have hm58 := gm 58 "_law_safe_form" rfl
  have C_law_safe_form : Cal P w K mg base cl "_law_safe_form" ["_law_tin", "_law_most_so"] 2 f_law_safe_form := ok_law_safe_form Fc F58 hm58 C_law_take
  obtain ⟨fd59, F59⟩ := c.def_ 59 (d := dD59) rfl
  have hm59 := gm 59 "_law_by_hand_right" rfl
  have C_law_by_hand_right : Cal P w K mg base cl "_law_by_hand_right" [] 14 f_law_by_hand_right := ok_law_by_hand_right Fc F59 hm59 C_law_blank C_law_lists K_mended C_mend_writes C_mended C_law_answer C_partly_mended K_partly_mended C_law_same
  obtain ⟨fd60, F60⟩ := c.def_ 60 (d := dD60) rfl
  have hm60 := gm 60 "_law_reply" rfl
  have C_law_reply : Cal P w K mg base cl "_law_reply" ["_law_form", "_law_face_here", "_law_many_so", "_law_fates_so"] 14 f_law_reply := ok_law_reply Fc F60 hm60 C_partly_mended
  obtain ⟨fd61, F61⟩ := c.def_ 61 (d := dD61) rfl
  have hm61 := gm 61 "_law_refused_right" rfl
  have C_law_refused_right : Cal P w K mg base cl "_law_refused_right" [] 15 f_law_refused_right := ok_law_refused_right Fc F61 hm61 C_law_blank C_law_reply C_law_same
  obtain ⟨fd62, F62⟩ := c.def_ 62 (d := dD62) rfl
  have hm62 := gm 62 "law" rfl
  exact ⟨fd62, F62, fo_law Fc F62 hm62 C_law_by_hand_right C_law_box C_law_cells C_law_safe_form C_law_run C_law_drawn_life C_law_take C_law_answer C_law_mending C_law_fates C_law_fallen C_mended C_partly_mended C_mend_writes C_law_lists C_law_same C_law_mended C_law_refused_right⟩
theorem law_sp {K : PySem.W.Frag} {cl : Cl} (H : Hp) (a : Addr) (ns : List Int) (hn : ns.length ≤ 63) (hS : SqL K H a (ns.map V.int)) : spOf K cl 1 f_law [.ref a] H (fun v _ => v = .bl true) fun _ _ _ => False := by
  obtain ⟨T, e⟩ := law_true ns hn
  refine ⟨rfl, H, [], [], [.scr ns], ⟨Ext.refl H, rfl, .nil, fun k a e => by simp at e, fun k a xs e => by simp at e⟩, .cons ⟨a, rfl, hS⟩ .nil, ?_⟩
  rw [e]
  intro F' as' H' _ _ v vr
  cases vr
  rfl
theorem funD_eq {K : PySem.W.Frag} {x q : Str} {ps : Arguments} {b : List Stmt} {sc : Scope} {f : Addr} {fd fd2 : FuncData} (F : FunD K x q ps b sc [] [] f fd) (F2 : FunD K x q ps b sc [] [] f fd2) : fd = fd2 := by
  obtain ⟨_, _, _, _, _, _, _, _, _, _, e1, l1, _⟩ := F.ex
  obtain ⟨_, _, _, _, _, _, _, _, _, _, e2, l2, _⟩ := F2.ex
  rw [l1] at l2
  have := congrArg (fun o : Obj => o.data) (Option.some.inj l2)
  exact Data.func.inj this
theorem ok_nox {P : Program} {w : World} {K : PySem.W.Frag} {mg : Str → Option Value} {base : Heap} {k : Nat} {f : Addr} {fd : FuncData} {ps : List Str} {sp : Sp} (F : FnOk P w K mg base (L2.CX P w) k f fd ps sp) : FnOk P w K mg base L2.CX0 k f fd ps (fun vs H Q _ => sp vs H Q L2.E0) :=
  ⟨fun vs H Q E h => F.len _ _ _ _ h, fun A outer s H args us vs Q E hr he hb hv hs => codeAny_mono (F.run A outer s H args us vs Q L2.E0 hr he hb hv hs) fun r s' q => by
    cases r with
    | error e =>
      obtain ⟨_, _, _, _, _, _, _, _, _, _, _, _, z⟩ := (show L2.CX P w outer H s L2.E0 e s' from q)
      exact z.elim
    | ok fl => cases fl <;> exact q⟩
end Hr
set_option Elab.async false
set_option linter.all false
set_option maxRecDepth 100000
set_option maxHeartbeats 0
open PySem PySem.W PySem.Calls PyProof.Rows
theorem PySem.Challenge.cw_halfring_k25_whole_mending_cut_anywhere_holds : PySem.Challenge.rw_halfring_k25_whole_mending_cut_anywhere.Holds := by
  w_on; o_law
  refine HandSHeadRun.head_any (r := OpenLaw.row PySem.Challenge.rw_halfring_k25_whole_mending_cut_anywhere) (q := view (OpenLaw.row PySem.Challenge.rw_halfring_k25_whole_mending_cut_anywhere).prog [80]) (H := Hr.hookH 4) (ob := Hr.obH) (M := 20000) (loose := Hr.looseH) (d := HandSHeadRun.topDef (OpenLaw.row PySem.Challenge.rw_halfring_k25_whole_mending_cut_anywhere).prog 80) (kwd := []) Hr.obH_eq
    (by kernel_rfl) (fun s => by kernel_rfl) Hr.runH (by kernel_rfl) (by kernel_rfl) (by kernel_rfl) (by rfl) (by first | assumption | decide +kernel) (by decide +kernel) ⟨rfl, rfl, rfl, rfl, rfl, by decide +kernel⟩ ?hw ?hc
  case hw => w_witness2
  case hc =>
    refine L2.walk_ofE (l := PySem.Challenge.rw_halfring_k25_whole_mending_cut_anywhere) (n := 63) (k := 16) (x := "_law_script") (CX := L2.CX0) rfl (by decide) (by kernel_rfl) ⟨rfl, by decide, by decide⟩ ?F (fun _ _ _ _ z => z)
    intro w mg fa h Y G hmg0
    obtain ⟨K, KX, c0⟩ := Y
    have hmg : mg ("law" : PySem.Str) = some (.ref fa) := by
      have e : (HandSHeadRun.topDef (OpenLaw.row PySem.Challenge.rw_halfring_k25_whole_mending_cut_anywhere).prog 80).name = ("law" : PySem.Str) := by kernel_rfl
      rw [← e]
      exact hmg0
    have cx : Hr.exB K = true := congrArg Prod.fst c0
    have c : He.SaysD Hr.faH Hr.fnH K := congrArg Prod.snd c0
    have gm : ∀ (i : Nat) (x : PySem.Str), Hr.faH[i]? = some (.glo x) → mg x = some (.ref (He.ga K x)) := fun i x e => He.glo_ok KX G (c.fact i (f := .glo x) e)
    have Fc := Hr.facH KX G c cx
    have e1 := hmg.symm.trans (gm 62 "law" rfl)
    cases e1
    obtain ⟨fd, F, _⟩ := Hr.allH (P := (PySem.Challenge.rw_halfring_k25_whole_mending_cut_anywhere).prog) (w := w) (base := h) Fc c gm
    have b := L2.FunD.bindsA (ps := ["_law_script"]) F fun _ _ _ _ _ _ us hl => match us, hl with | [_], _ => rfl
    refine ⟨K, fd, fun vs H Q _ => Hr.spOf K (Hr.clH K) 1 Hr.f_law vs H Q L2.E0, KX, fun s v => b s [v] rfl, fun H a ns hl _ hS => Hr.law_sp H a ns hl hS, fun base hb hn => ?_⟩
    obtain ⟨fd2, F2, G2⟩ := Hr.allH (P := (PySem.Challenge.rw_halfring_k25_whole_mending_cut_anywhere).prog) (w := w) (base := base) Fc c gm
    have : fd2 = fd := Hr.funD_eq F2 F
    subst this
    exact Hr.ok_nox G2
