import PyProof.Rows.All
import Wide.All
import OpenK.AllK
import Wide.FinOn
import HandS.ForMost
import HandS.Deep
import HandS.EndBits
import KE.DataEq
import HandS.TupAny
import HandS.Wide
import HandS.DictComp
import KE.SortData
import HandS.IsInst
import HandS.ListItems
import KE.GoesMore
import KE.GoesEnum
import HandS.Iter
import HandS.Defaults
import PySem.Challenge.RW_mapwise_k47_whole_trees_of_names
set_option Elab.async false
set_option linter.all false
set_option maxRecDepth 100000
set_option maxHeartbeats 4000000
/-! Dm: a layer of plain data over HandS. A slot of a frame holds data (shared, never written again) or an own object (held by this slot alone, may be written). A construct is mirrored by a plain partial function on the slots; where the mirror gives an answer, the construct gives a value that stands for it. -/
namespace Dm
open PySem PySem.Spec PyProof.Rows L2

/-! ### heaps -/
/-- what H knows may be read at H1 -/
def Le (H H1 : Hp) : Prop := ∀ a o, H a = some o → H1 a = some o ∨ (Mut (some o) ∧ ∃ ob, H1 a = some (.frz ob o))
theorem Le.refl (H : Hp) : Le H H := fun _ _ h => .inl h
theorem Le.of {H H1 : Hp} (h : Same H H1) : Le H H1 := fun a o e => .inl (h a o e)
theorem Le.pre {H H' H1 : Hp} (h : Same H H') (l : Le H' H1) : Le H H1 := fun a o e => l a o (h a o e)
theorem Le.post {H H1 H2 : Hp} (l : Le H H1) (h : Same H1 H2) : Le H H2 := fun a o e => by
  rcases l a o e with q | ⟨m, ob, q⟩
  · exact .inl (h a _ q)
  · exact .inr ⟨m, ob, h a _ q⟩
theorem Le.rd {H H1 : Hp} {a : Addr} {u : HO} (l : Le H H1) (h : Rd H a u) : Rd H1 a u := by
  rcases h with h | ⟨o, h⟩
  · rcases l a u h with q | ⟨_, ob, q⟩
    · exact .inl q
    · exact .inr ⟨ob, q⟩
  · rcases l a _ h with q | ⟨m, ob, q⟩
    · exact .inr ⟨o, q⟩
    · exact (show False from m).elim
theorem Le.l {K : PySem.W.Frag} {H H1 : Hp} {a : Addr} {xs : List V} (l : Le H H1) (h : SqL K H a xs) : SqL K H1 a xs := h.imp l.rd id
theorem Le.t {K : PySem.W.Frag} {H H1 : Hp} {a : Addr} {xs : List V} (l : Le H H1) (h : SqT K H a xs) : SqT K H1 a xs := h.imp l.rd id
theorem Le.tup {H H1 : Hp} {a : Addr} {xs : List V} (l : Le H H1) (h : H a = some (.tup xs)) : H1 a = some (.tup xs) := by
  rcases l a _ h with q | ⟨m, _⟩
  · exact q
  · exact (show False from m).elim
theorem Le.none {H H1 : Hp} {a : Addr} (l : Le H H1) (h : H1 a = Option.none) : H a = Option.none := by
  cases q : H a with
  | none => rfl
  | some o =>
    rcases l a o q with z | ⟨_, ob, z⟩ <;> rw [h] at z <;> cases z

/-! ### data -/
def kD : Key → PyData
  | .inl i => .int i
  | .inr x => .str x
def isStrD : PyData → Bool
  | .str _ => true
  | _ => false
/-- what a tuple of the module's own may hold here (such a one is never a key) -/
def kOk (ds : List PyData) : Bool := ds.isEmpty || (decide (3 ≤ ds.length) && ds.all isStrD)
mutual
inductive Rp (K : PySem.W.Frag) (H : Hp) : V → PyData → Prop
  | non : Rp K H .non .none
  | bl (b : Bool) : Rp K H (.bl b) (.bool b)
  | int (i : Int) : Rp K H (.int i) (.int i)
  | str (x : Str) : Rp K H (.str x) (.str x)
  | lst {a : Addr} {xs : List V} {ds : List PyData} : SqL K H a xs → RpAll K H xs ds → Rp K H (V.ref a) (.list ds)
  | tup {a : Addr} {xs : List V} {ds : List PyData} : H a = some (.tup xs) → RpAll K H xs ds → Rp K H (V.ref a) (.tuple ds)
  | tupK {a : Addr} {xs : List V} {ds : List PyData} : SqT K H a xs → kOk ds = true → RpAll K H xs ds → Rp K H (V.ref a) (.tuple ds)
  | dK {a : Addr} {ks : List (Key × V)} {ds : List (PyData × PyData)} : Rd H a (.dK ks) → RpKV K H ks ds → Rp K H (V.ref a) (.dict ds)
  | dT {a : Addr} {ks : List (List Key × V)} {ds : List (PyData × PyData)} : Rd H a (.dT ks) → RpKT K H ks ds → Rp K H (V.ref a) (.dict ((.none, .none) :: ds))
inductive RpAll (K : PySem.W.Frag) (H : Hp) : List V → List PyData → Prop
  | nil : RpAll K H [] []
  | cons {v : V} {vs : List V} {d : PyData} {ds : List PyData} : Rp K H v d → RpAll K H vs ds → RpAll K H (v :: vs) (d :: ds)
inductive RpKV (K : PySem.W.Frag) (H : Hp) : List (Key × V) → List (PyData × PyData) → Prop
  | nil : RpKV K H [] []
  | cons {k : Key} {v : V} {vs : List (Key × V)} {d : PyData} {ds : List (PyData × PyData)} : Rp K H v d → RpKV K H vs ds → RpKV K H ((k, v) :: vs) ((kD k, d) :: ds)
inductive RpKT (K : PySem.W.Frag) (H : Hp) : List (List Key × V) → List (PyData × PyData) → Prop
  | nil : RpKT K H [] []
  | cons {k : List Key} {v : V} {vs : List (List Key × V)} {d : PyData} {ds : List (PyData × PyData)} : Rp K H v d → RpKT K H vs ds → RpKT K H ((k, v) :: vs) ((.tuple (k.map kD), d) :: ds)
end
section
variable {K : PySem.W.Frag} {H H1 : Hp}
mutual
theorem Rp.mono (l : Le H H1) : ∀ {v : V} {d : PyData}, Rp K H v d → Rp K H1 v d
  | _, _, .non => .non
  | _, _, .bl b => .bl b
  | _, _, .int i => .int i
  | _, _, .str x => .str x
  | _, _, .lst s r => .lst (l.l s) (RpAll.mono l r)
  | _, _, .tup s r => .tup (l.tup s) (RpAll.mono l r)
  | _, _, .tupK s k r => .tupK (l.t s) k (RpAll.mono l r)
  | _, _, .dK s r => .dK (l.rd s) (RpKV.mono l r)
  | _, _, .dT s r => .dT (l.rd s) (RpKT.mono l r)
theorem RpAll.mono (l : Le H H1) : ∀ {v : List V} {d : List PyData}, RpAll K H v d → RpAll K H1 v d
  | _, _, .nil => .nil
  | _, _, .cons r t => .cons (Rp.mono l r) (RpAll.mono l t)
theorem RpKV.mono (l : Le H H1) : ∀ {v : List (Key × V)} {d : List (PyData × PyData)}, RpKV K H v d → RpKV K H1 v d
  | _, _, .nil => .nil
  | _, _, .cons r t => .cons (Rp.mono l r) (RpKV.mono l t)
theorem RpKT.mono (l : Le H H1) : ∀ {v : List (List Key × V)} {d : List (PyData × PyData)}, RpKT K H v d → RpKT K H1 v d
  | _, _, .nil => .nil
  | _, _, .cons r t => .cons (Rp.mono l r) (RpKT.mono l t)
end
theorem RpAll.length : ∀ {v : List V} {d : List PyData}, RpAll K H v d → v.length = d.length
  | _, _, .nil => rfl
  | _, _, .cons _ t => by rw [List.length_cons, List.length_cons, RpAll.length t]
theorem RpKV.length : ∀ {v : List (Key × V)} {d : List (PyData × PyData)}, RpKV K H v d → v.length = d.length
  | _, _, .nil => rfl
  | _, _, .cons _ t => by rw [List.length_cons, List.length_cons, RpKV.length t]
theorem RpKT.length : ∀ {v : List (List Key × V)} {d : List (PyData × PyData)}, RpKT K H v d → v.length = d.length
  | _, _, .nil => rfl
  | _, _, .cons _ t => by rw [List.length_cons, List.length_cons, RpKT.length t]
theorem RpAll.get : ∀ {vs : List V} {ds : List PyData} {i : Nat} {d : PyData}, RpAll K H vs ds → ds[i]? = some d → ∃ v, vs[i]? = some v ∧ Rp K H v d
  | _, _, _, _, .nil, e => by simp at e
  | _, _, 0, _, .cons r _, e => by simp at e; subst e; exact ⟨_, rfl, r⟩
  | _, _, i + 1, _, .cons _ t, e => by
    obtain ⟨v, h1, h2⟩ := RpAll.get (i := i) t (by simpa using e)
    exact ⟨v, by simpa using h1, h2⟩
theorem RpAll.getV : ∀ {vs : List V} {ds : List PyData} {i : Nat} {v : V}, RpAll K H vs ds → vs[i]? = some v → ∃ d, ds[i]? = some d ∧ Rp K H v d
  | _, _, _, _, .nil, e => by simp at e
  | _, _, 0, _, .cons r _, e => by simp at e; subst e; exact ⟨_, rfl, r⟩
  | _, _, i + 1, _, .cons _ t, e => by
    obtain ⟨v, h1, h2⟩ := RpAll.getV (i := i) t (by simpa using e)
    exact ⟨v, by simpa using h1, h2⟩
theorem RpAll.append : ∀ {vs ws : List V} {ds es : List PyData}, RpAll K H vs ds → RpAll K H ws es → RpAll K H (vs ++ ws) (ds ++ es)
  | _, _, _, _, .nil, s => s
  | _, _, _, _, .cons r t, s => .cons r (RpAll.append t s)
theorem RpAll.snoc {vs : List V} {ds : List PyData} {v : V} {d : PyData} (r : RpAll K H vs ds) (q : Rp K H v d) : RpAll K H (vs ++ [v]) (ds ++ [d]) := r.append (.cons q .nil)
theorem RpAll.set : ∀ {vs : List V} {ds : List PyData} {v : V} {d : PyData} (i : Nat), RpAll K H vs ds → Rp K H v d → RpAll K H (vs.set i v) (ds.set i d)
  | _, _, _, _, _, .nil, _ => .nil
  | _, _, _, _, 0, .cons _ t, q => .cons q t
  | _, _, _, _, i + 1, .cons r t, q => .cons r (RpAll.set i t q)
theorem RpAll.take : ∀ {vs : List V} {ds : List PyData} (n : Nat), RpAll K H vs ds → RpAll K H (vs.take n) (ds.take n)
  | _, _, 0, _ => .nil
  | _, _, _ + 1, .nil => .nil
  | _, _, n + 1, .cons r t => .cons r (RpAll.take n t)
theorem RpAll.drop : ∀ {vs : List V} {ds : List PyData} (n : Nat), RpAll K H vs ds → RpAll K H (vs.drop n) (ds.drop n)
  | _, _, 0, r => r
  | _, _, _ + 1, .nil => .nil
  | _, _, n + 1, .cons _ t => RpAll.drop n t
end

/-! ### slots -/
inductive Own where
  | lst (xs : List PyData) | dK (kvs : List (PyData × PyData)) | dT (kvs : List (PyData × PyData))
def Own.data : Own → PyData
  | .lst xs => .list xs
  | .dK kvs => .dict kvs
  | .dT kvs => .dict ((.none, .none) :: kvs)
inductive Sl where
  | no | dat (d : PyData) | own (o : Own)
abbrev En := List Sl
section
variable (K : PySem.W.Frag)
def OwnAt (H H1 : Hp) (p : Addr) : Own → Prop
  | .lst xs => ∃ vs, H1 p = some (.lst vs) ∧ RpAll K H vs xs
  | .dK kvs => ∃ ks, H1 p = some (.dK ks) ∧ RpKV K H ks kvs
  | .dT kvs => ∃ ks, H1 p = some (.dT ks) ∧ RpKT K H ks kvs
def SlAt (H H1 : Hp) (x : Option (Option V)) : Sl → Prop
  | .no => True
  | .dat d => ∃ v, x = some (some v) ∧ Rp K H v d
  | .own o => ∃ p, x = some (some (V.ref p)) ∧ H p = none ∧ OwnAt K H H1 p o
def Owns (E : En) (σ : L2.St) (a : Addr) : Prop := ∃ (i : Nat) (o : Own), E[i]? = some (Sl.own o) ∧ σ[i]? = some (some (V.ref a))
structure EnvR (E : En) (σ : L2.St) (H H1 : Hp) : Prop where
  le : Le H H1
  len : σ.length = E.length
  atS : ∀ (i : Nat) (s : Sl), E[i]? = some s → SlAt K H H1 σ[i]? s
  sep : ∀ (i j : Nat) (o o' : Own) (a : Addr), E[i]? = some (Sl.own o) → E[j]? = some (Sl.own o') → σ[i]? = some (some (V.ref a)) → σ[j]? = some (some (V.ref a)) → i = j
end
/-- one goes on: what is stable stays, what is foreign stays, what is newly stable was free or one's own -/
structure Stp (P : Addr → Prop) (H H1 : Hp) (P' : Addr → Prop) (H' H2 : Hp) : Prop where
  ex : Same H H'
  fr : ∀ a o, H1 a = some o → ¬ P a → H2 a = some o
  nw : ∀ a, H' a ≠ none → H a ≠ none ∨ H1 a = none ∨ P a
  dm : ∀ a, H2 a = none → H1 a = none
  ow : ∀ a, P' a → P a ∨ H1 a = none
theorem Stp.refl {P : Addr → Prop} {H H1 : Hp} : Stp P H H1 P H H1 := ⟨fun _ _ h => h, fun _ _ h _ => h, fun _ h => .inl h, fun _ h => h, fun _ h => .inl h⟩
theorem Stp.trans {P P' P'' : Addr → Prop} {H H1 H' H2 H'' H3 : Hp} (a : Stp P H H1 P' H' H2) (b : Stp P' H' H2 P'' H'' H3) : Stp P H H1 P'' H'' H3 where
  ex := a.ex.trans b.ex
  fr := fun x o e n => b.fr x o (a.fr x o e n) fun z => (a.ow x z).elim n fun q => by rw [q] at e; cases e
  nw := fun x h => by
    rcases b.nw x h with q | q | q
    · exact a.nw x q
    · exact .inr (.inl (a.dm x q))
    · rcases a.ow x q with z | z
      · exact .inr (.inr z)
      · exact .inr (.inl z)
  dm := fun x h => a.dm x (b.dm x h)
  ow := fun x h => by
    rcases b.ow x h with q | q
    · exact a.ow x q
    · exact .inr (a.dm x q)
theorem Stp.wk {P P' R : Addr → Prop} {H H1 H' H2 : Hp} (a : Stp P H H1 P' H' H2) (h : ∀ x, R x → P' x) : Stp P H H1 R H' H2 := ⟨a.ex, a.fr, a.nw, a.dm, fun x q => a.ow x (h x q)⟩
/-- new objects alone -/
structure Nw (H H1 H' H2 : Hp) : Prop where
  ex : Same H H'
  fr : Same H1 H2
  nw : ∀ a, H' a ≠ none → H a ≠ none ∨ H1 a = none
  le : Le H' H2
theorem Nw.refl {H H1 : Hp} (l : Le H H1) : Nw H H1 H H1 := ⟨Same.refl _, Same.refl _, fun _ h => .inl h, l⟩
theorem Nw.trans {H H1 H' H2 H'' H3 : Hp} (a : Nw H H1 H' H2) (b : Nw H' H2 H'' H3) : Nw H H1 H'' H3 := ⟨a.ex.trans b.ex, a.fr.trans b.fr, fun x h => by
  rcases b.nw x h with q | q
  · exact a.nw x q
  · exact .inr (a.fr.free q), b.le⟩
theorem upd_some {H : Hp} {p b : Addr} {o : HO} (h : upd H p o b ≠ none) (n : b ≠ p) : H b ≠ none := by rw [upd_ne n] at h; exact h
theorem same_upd {H : Hp} {p : Addr} {o : HO} (h : H p = none) : Same H (upd H p o) := fun b u e => by
  rw [upd_ne (ne_of_none e h)]
  exact e
theorem le_upd {H H1 : Hp} {p : Addr} {o : HO} (l : Le H H1) (h : H1 p = none) : Le (upd H p o) (upd H1 p o) := fun b u e => by
  by_cases hb : b = p
  · subst hb
    rw [upd_same] at e
    cases e
    exact .inl upd_same
  · rw [upd_ne hb] at e
    rw [upd_ne hb]
    exact l b u e
theorem Nw.one {H H1 : Hp} {p : Addr} {o : HO} (l : Le H H1) (h : H1 p = none) : Nw H H1 (upd H p o) (upd H1 p o) :=
  ⟨same_upd (l.none h), same_upd h, fun b hb => by
    by_cases e : b = p
    · subst e; exact .inr h
    · exact .inl (upd_some hb e), le_upd l h⟩
section
variable {K : PySem.W.Frag} {E E' : En} {σ : L2.St} {H H1 H' H2 : Hp}
theorem OwnAt.there {p : Addr} {o : Own} (h : OwnAt K H H1 p o) : H1 p ≠ none := by
  cases o with
  | lst xs => obtain ⟨_, e, _⟩ := h; rw [e]; exact fun z => nomatch z
  | dK xs => obtain ⟨_, e, _⟩ := h; rw [e]; exact fun z => nomatch z
  | dT xs => obtain ⟨_, e, _⟩ := h; rw [e]; exact fun z => nomatch z
theorem OwnAt.move {p : Addr} {o : Own} (h : OwnAt K H H1 p o) (l : Le H H') (e : ∀ u, H1 p = some u → H2 p = some u) : OwnAt K H' H2 p o := by
  cases o with
  | lst xs => obtain ⟨_, q, r⟩ := h; exact ⟨_, e _ q, r.mono l⟩
  | dK xs => obtain ⟨_, q, r⟩ := h; exact ⟨_, e _ q, r.mono l⟩
  | dT xs => obtain ⟨_, q, r⟩ := h; exact ⟨_, e _ q, r.mono l⟩
theorem EnvR.there (R : EnvR K E σ H H1) {a : Addr} (h : Owns E σ a) : H a = none ∧ H1 a ≠ none := by
  obtain ⟨i, o, e, q⟩ := h
  obtain ⟨p, e1, e2, e3⟩ := R.atS i _ e
  rw [q] at e1
  cases e1
  exact ⟨e2, e3.there⟩
/-- new objects alone: the slots stand -/
theorem EnvR.nw (R : EnvR K E σ H H1) (n : Nw H H1 H' H2) : EnvR K E σ H' H2 := by
  refine ⟨n.le, R.len, fun i s e => ?_, R.sep⟩
  have q := R.atS i s e
  cases s with
  | no => trivial
  | dat d =>
    obtain ⟨v, e1, r⟩ := q
    exact ⟨v, e1, r.mono (.of n.ex)⟩
  | own o =>
    obtain ⟨p, e1, e2, e3⟩ := q
    refine ⟨p, e1, ?_, e3.move (.of n.ex) fun u z => n.fr p u z⟩
    cases z : H' p with
    | none => rfl
    | some u =>
      rcases n.nw p (by rw [z]; exact fun q => nomatch q) with y | y
      · exact absurd e2 y
      · exact absurd y e3.there
theorem Nw.stp (n : Nw H H1 H' H2) (P : Addr → Prop) : Stp P H H1 P H' H2 := ⟨n.ex, fun a o e _ => n.fr a o e, fun a h => (n.nw a h).imp id .inl, fun a h => n.fr.free h, fun a h => .inl h⟩
theorem EnvR.setDat (R : EnvR K E σ H H1) (i : Nat) {v : V} {d : PyData} (r : Rp K H v d) : EnvR K (E.set i (Sl.dat d)) (σ.set i (some v)) H H1 := by
  refine ⟨R.le, by rw [List.length_set, List.length_set, R.len], fun j s e => ?_, fun j k o o' a e1 e2 e3 e4 => ?_⟩
  · by_cases h : i = j
    · subst h
      have hl : i < E.length := by
        by_cases z : i < E.length
        · exact z
        · rw [List.getElem?_eq_none (by simpa using z)] at e; cases e
      rw [List.getElem?_set_self hl] at e
      cases e
      exact ⟨v, by rw [List.getElem?_set_self (by rw [R.len]; exact hl)], r⟩
    · rw [List.getElem?_set_ne h] at e
      rw [List.getElem?_set_ne h]
      exact R.atS j s e
  · have hj : i ≠ j := by
      rintro rfl
      have hl : i < E.length := by
        by_cases z : i < E.length
        · exact z
        · rw [List.getElem?_eq_none (by simpa using z)] at e1; cases e1
      rw [List.getElem?_set_self hl] at e1
      cases e1
    have hk : i ≠ k := by
      rintro rfl
      have hl : i < E.length := by
        by_cases z : i < E.length
        · exact z
        · rw [List.getElem?_eq_none (by simpa using z)] at e2; cases e2
      rw [List.getElem?_set_self hl] at e2
      cases e2
    rw [List.getElem?_set_ne hj] at e1 e3
    rw [List.getElem?_set_ne hk] at e2 e4
    exact R.sep j k o o' a e1 e2 e3 e4
theorem set_get {α : Type} {l : List α} {i j : Nat} {x y : α} (h : (l.set i x)[j]? = some y) : (i = j ∧ y = x ∧ i < l.length) ∨ (i ≠ j ∧ l[j]? = some y) := by
  by_cases e : i = j
  · subst e
    have hl : i < l.length := by
      by_cases z : i < l.length
      · exact z
      · rw [List.getElem?_eq_none (by simpa using z)] at h; cases h
    rw [List.getElem?_set_self hl] at h
    exact .inl ⟨rfl, (Option.some.inj h).symm, hl⟩
  · rw [List.getElem?_set_ne e] at h
    exact .inr ⟨e, h⟩
theorem owns_setDat {i : Nat} {x : Option V} {d : PyData} {a : Addr} (h : Owns (E.set i (Sl.dat d)) (σ.set i x) a) : Owns E σ a := by
  obtain ⟨j, o, e1, e2⟩ := h
  rcases set_get e1 with ⟨_, z, _⟩ | ⟨ne, e1⟩
  · cases z
  · rw [List.getElem?_set_ne ne] at e2
    exact ⟨j, o, e1, e2⟩
theorem owns_setDat' {i : Nat} {d : PyData} {a : Addr} (h : Owns (E.set i (Sl.dat d)) σ a) : Owns E σ a := by
  obtain ⟨j, o, e1, e2⟩ := h
  rcases set_get e1 with ⟨_, z, _⟩ | ⟨ne, e1⟩
  · cases z
  · exact ⟨j, o, e1, e2⟩
/-- a fresh own object is put into a slot -/
theorem EnvR.setOwn (R : EnvR K E σ H H1) (i : Nat) {p : Addr} {o : Own} (h0 : H p = none) (ho : OwnAt K H H1 p o) (hn : ¬ Owns E σ p) : EnvR K (E.set i (Sl.own o)) (σ.set i (some (V.ref p))) H H1 := by
  refine ⟨R.le, by rw [List.length_set, List.length_set, R.len], fun j s e => ?_, fun j k o1 o2 a e1 e2 e3 e4 => ?_⟩
  · rcases set_get e with ⟨rfl, rfl, hl⟩ | ⟨ne, e⟩
    · exact ⟨p, by rw [List.getElem?_set_self (by rw [R.len]; exact hl)], h0, ho⟩
    · rw [List.getElem?_set_ne ne]
      exact R.atS j s e
  · rcases set_get e1 with ⟨rfl, _, hl⟩ | ⟨ne1, f1⟩
    · rcases set_get e2 with ⟨rfl, _, _⟩ | ⟨ne2, f2⟩
      · rfl
      · rw [List.getElem?_set_self (by rw [R.len]; exact hl)] at e3
        cases e3
        rw [List.getElem?_set_ne ne2] at e4
        exact absurd ⟨k, o2, f2, e4⟩ hn
    · rw [List.getElem?_set_ne ne1] at e3
      rcases set_get e2 with ⟨rfl, _, hl⟩ | ⟨ne2, f2⟩
      · rw [List.getElem?_set_self (by rw [R.len]; exact hl)] at e4
        cases e4
        exact absurd ⟨j, o1, f1, e3⟩ hn
      · rw [List.getElem?_set_ne ne2] at e4
        exact R.sep j k o1 o2 a f1 f2 e3 e4
theorem owns_setOwn {i : Nat} {p a : Addr} {o : Own} (hl : σ.length = E.length) (h : Owns (E.set i (Sl.own o)) (σ.set i (some (V.ref p))) a) : Owns E σ a ∨ a = p := by
  obtain ⟨j, o', e1, e2⟩ := h
  rcases set_get e1 with ⟨rfl, _, h1⟩ | ⟨ne, e1⟩
  · rw [List.getElem?_set_self (by rw [hl]; exact h1)] at e2
    cases e2
    exact .inr rfl
  · rw [List.getElem?_set_ne ne] at e2
    exact .inl ⟨j, o', e1, e2⟩
/-- the own object of a slot is changed where it stands -/
theorem EnvR.mut (R : EnvR K E σ H H1) {i : Nat} {p : Addr} {o o' : Own} {u : HO} (e : E[i]? = some (Sl.own o)) (es : σ[i]? = some (some (V.ref p))) (hn : OwnAt K H (upd H1 p u) p o') : EnvR K (E.set i (Sl.own o')) σ H (upd H1 p u) := by
  obtain ⟨h0, h1⟩ := R.there ⟨i, o, e, es⟩
  have le' : Le H (upd H1 p u) := fun b w q => by
    have nb : b ≠ p := ne_of_none q h0
    rw [upd_ne nb]
    exact R.le b w q
  refine ⟨le', by rw [List.length_set, R.len], fun j s q => ?_, fun j k o1 o2 a e1 e2 e3 e4 => ?_⟩
  · rcases set_get q with ⟨rfl, rfl, hl⟩ | ⟨ne, q⟩
    · exact ⟨p, es, h0, hn⟩
    · have z := R.atS j s q
      cases s with
      | no => trivial
      | dat d => exact z
      | own o2 =>
        obtain ⟨b, f1, f2, f3⟩ := z
        have nb : b ≠ p := by
          rintro rfl
          exact ne (R.sep i j o o2 b e q es f1)
        exact ⟨b, f1, f2, f3.move (Le.refl _) fun w z => by rw [upd_ne nb]; exact z⟩
  · have g1 : ∃ o3, E[j]? = some (Sl.own o3) := by
      rcases set_get e1 with ⟨rfl, _, _⟩ | ⟨_, q⟩
      · exact ⟨o, e⟩
      · exact ⟨o1, q⟩
    have g2 : ∃ o3, E[k]? = some (Sl.own o3) := by
      rcases set_get e2 with ⟨rfl, _, _⟩ | ⟨_, q⟩
      · exact ⟨o, e⟩
      · exact ⟨o2, q⟩
    obtain ⟨_, g1⟩ := g1
    obtain ⟨_, g2⟩ := g2
    exact R.sep j k _ _ a g1 g2 e3 e4
theorem owns_mut {i : Nat} {a : Addr} {o o' : Own} (e : E[i]? = some (Sl.own o)) (h : Owns (E.set i (Sl.own o')) σ a) : Owns E σ a := by
  obtain ⟨j, o2, e1, e2⟩ := h
  rcases set_get e1 with ⟨rfl, _, _⟩ | ⟨_, q⟩
  · exact ⟨_, o, e, e2⟩
  · exact ⟨j, o2, q, e2⟩
theorem EnvR.mutStp (R : EnvR K E σ H H1) {i : Nat} {p : Addr} {o o' : Own} {u : HO} (e : E[i]? = some (Sl.own o)) (es : σ[i]? = some (some (V.ref p))) : Stp (Owns E σ) H H1 (Owns (E.set i (Sl.own o')) σ) H (upd H1 p u) := by
  refine ⟨Same.refl _, fun a w q n => ?_, fun a h => .inl h, fun a h => ?_, fun a h => .inl (owns_mut e h)⟩
  · have na : a ≠ p := fun z => n (z ▸ ⟨i, o, e, es⟩)
    rw [upd_ne na]
    exact q
  · by_cases z : a = p
    · subst z; rw [upd_same] at h; cases h
    · rw [upd_ne z] at h; exact h
/-- the heap object of an own thing -/
theorem OwnAt.ho {p : Addr} {o : Own} (h : OwnAt K H H1 p o) : ∃ u, H1 p = some u ∧ Rp K (upd H p u) (V.ref p) o.data ∨ H p ≠ none := by
  by_cases h0 : H p = none
  · cases o with
    | lst xs => obtain ⟨vs, e, r⟩ := h; exact ⟨_, .inl ⟨e, .lst (SqL.of upd_same) (r.mono (.of (same_upd h0)))⟩⟩
    | dK xs => obtain ⟨vs, e, r⟩ := h; exact ⟨_, .inl ⟨e, .dK (.inl upd_same) (r.mono (.of (same_upd h0)))⟩⟩
    | dT xs => obtain ⟨vs, e, r⟩ := h; exact ⟨_, .inl ⟨e, .dT (.inl upd_same) (r.mono (.of (same_upd h0)))⟩⟩
  · exact ⟨.lst [], .inr h0⟩
theorem OwnAt.ho' {p : Addr} {o : Own} (h : OwnAt K H H1 p o) (h0 : H p = none) : ∃ u, H1 p = some u ∧ Rp K (upd H p u) (V.ref p) o.data := by
  obtain ⟨u, ⟨e, r⟩ | z⟩ := h.ho
  · exact ⟨u, e, r⟩
  · exact absurd h0 z
theorem le_frz {p : Addr} {u : HO} (l : Le H H1) (e : H1 p = some u) : Le (upd H p u) H1 := fun b w q => by
  by_cases hb : b = p
  · subst hb
    rw [upd_same] at q
    cases q
    exact .inl e
  · rw [upd_ne hb] at q
    exact l b w q
/-- an own thing becomes data -/
theorem EnvR.frz (R : EnvR K E σ H H1) {i : Nat} {p : Addr} {o : Own} {u : HO} (e : E[i]? = some (Sl.own o)) (es : σ[i]? = some (some (V.ref p))) (h0 : H p = none) (hu : H1 p = some u) (r : Rp K (upd H p u) (V.ref p) o.data) : EnvR K (E.set i (Sl.dat o.data)) σ (upd H p u) H1 := by
  have ex : Same H (upd H p u) := same_upd h0
  refine ⟨le_frz R.le hu, by rw [List.length_set, R.len], fun j s q => ?_, fun j k o1 o2 a e1 e2 e3 e4 => ?_⟩
  · rcases set_get q with ⟨rfl, rfl, hl⟩ | ⟨ne, q⟩
    · exact ⟨.ref p, es, r⟩
    · have z := R.atS j s q
      cases s with
      | no => trivial
      | dat d => obtain ⟨v, f1, f2⟩ := z; exact ⟨v, f1, f2.mono (.of ex)⟩
      | own o2 =>
        obtain ⟨b, f1, f2, f3⟩ := z
        have nb : b ≠ p := by
          rintro rfl
          exact ne (R.sep i j o o2 b e q es f1)
        exact ⟨b, f1, by rw [upd_ne nb]; exact f2, f3.move (.of ex) fun w z => z⟩
  · rcases set_get e1 with ⟨_, z, _⟩ | ⟨_, f1⟩
    · cases z
    · rcases set_get e2 with ⟨_, z, _⟩ | ⟨_, f2⟩
      · cases z
      · exact R.sep j k o1 o2 a f1 f2 e3 e4
theorem EnvR.frzStp (R : EnvR K E σ H H1) {i : Nat} {p : Addr} {o : Own} {u : HO} {d : PyData} (e : E[i]? = some (Sl.own o)) (es : σ[i]? = some (some (V.ref p))) (h0 : H p = none) : Stp (Owns E σ) H H1 (Owns (E.set i (Sl.dat d)) σ) (upd H p u) H1 :=
  ⟨same_upd h0, fun _ _ q _ => q, fun a h => by
    by_cases z : a = p
    · subst z; exact .inr (.inr ⟨i, o, e, es⟩)
    · exact .inl (upd_some h z), fun _ h => h, fun a h => .inl (owns_setDat' h)⟩
end
end Dm

/-! Dm: what operators give on data. -/
namespace Dm
open PySem PySem.Spec PyProof.Rows L2

section
variable (K : PySem.W.Frag)
/-- operators by data: one place, two places, an argument list; what is asked, what is told -/
def RX1 (r : V → Hp → VK → Prop) (g : PyData → Option PyData) : Prop := ∀ (H H1 : Hp) (v : V) (d e : PyData), Le H H1 → Rp K H v d → g d = some e → ∀ Q : VK, (∀ u H' H2, Nw H H1 H' H2 → Rp K H' u e → Q u H2) → r v H1 Q
def RX2 (r : R2) (g : PyData → PyData → Option PyData) : Prop := ∀ (H H1 : Hp) (v w : V) (d d' e : PyData), Le H H1 → Rp K H v d → Rp K H w d' → g d d' = some e → ∀ Q : VK, (∀ u H' H2, Nw H H1 H' H2 → Rp K H' u e → Q u H2) → r v w H1 Q
def RXL (r : List V → Hp → VK → Prop) (g : List PyData → Option PyData) : Prop := ∀ (H H1 : Hp) (vs : List V) (ds : List PyData) (e : PyData), Le H H1 → RpAll K H vs ds → g ds = some e → ∀ Q : VK, (∀ u H' H2, Nw H H1 H' H2 → Rp K H' u e → Q u H2) → r vs H1 Q
end
section
variable {K : PySem.W.Frag} {H H1 : Hp}
theorem Rp.int_inv {v : V} {i : Int} (h : Rp K H v (.int i)) : v = .int i := by cases h; rfl
theorem Rp.bl_inv {v : V} {i : Bool} (h : Rp K H v (.bool i)) : v = .bl i := by cases h; rfl
theorem Rp.str_inv {v : V} {i : Str} (h : Rp K H v (.str i)) : v = .str i := by cases h; rfl
theorem Rp.non_inv {v : V} (h : Rp K H v .none) : v = .non := by cases h; rfl
theorem Rp.lst_inv {v : V} {ds : List PyData} (h : Rp K H v (.list ds)) : ∃ a xs, v = .ref a ∧ SqL K H a xs ∧ RpAll K H xs ds := by
  cases h with
  | lst s r => exact ⟨_, _, rfl, s, r⟩
theorem Rp.tup_inv {v : V} {ds : List PyData} (h : Rp K H v (.tuple ds)) : ∃ a xs, v = .ref a ∧ SqT K H a xs ∧ RpAll K H xs ds := by
  cases h with
  | tup s r => exact ⟨_, _, rfl, SqT.of s, r⟩
  | tupK s k r => exact ⟨_, _, rfl, s, r⟩
theorem Rp.tup_inv' {v : V} {ds : List PyData} (h : Rp K H v (.tuple ds)) (hk : kOk ds = false) : ∃ a xs, v = .ref a ∧ H a = some (.tup xs) ∧ RpAll K H xs ds := by
  cases h with
  | tup s r => exact ⟨_, _, rfl, s, r⟩
  | tupK s k r => rw [hk] at k; cases k
mutual
theorem Rp.dp : ∀ {d : PyData} {v : V}, Rp K H v d → d.plain = true → Dp K H v d
  | .none, _, h, _ => by cases h; exact .non
  | .bool _, _, h, _ => by cases h; exact .bl _
  | .int _, _, h, _ => by cases h; exact .int _
  | .str _, _, h, _ => by cases h; exact .str _
  | .list ds, _, h, p => by
    cases h with
    | lst s r => exact .lst s (RpAll.dp r (by simpa only [PyData.plain] using p))
  | .tuple ds, _, h, p => by
    cases h with
    | tup s r => exact .tup (SqT.of s) (RpAll.dp r (by simpa only [PyData.plain] using p))
    | tupK s k r => exact .tup s (RpAll.dp r (by simpa only [PyData.plain] using p))
  | .dict _, _, _, p => nomatch p
theorem RpAll.dp : ∀ {d : List PyData} {v : List V}, RpAll K H v d → PyData.plainAll d = true → DpAll K H v d
  | [], _, h, _ => by cases h; exact .nil
  | d :: ds, _, h, p => by
    have p' : d.plain = true ∧ PyData.plainAll ds = true := by simpa only [PyData.plainAll, Bool.and_eq_true] using p
    cases h with
    | cons r t => exact .cons (Rp.dp r p'.1) (RpAll.dp t p'.2)
end
theorem Rp.reads {X : Cx} {pins : List (Addr × Obj)} {σ : L2.St} {s : Shared} {v : V} {u : Value} {d : PyData} (I : Inv X pins σ H1 s) (l : Le H H1) (h : Rp X.K H v d) (p : d.plain = true) (r : RelV v u) : ∃ as, Reads s.heap u d as :=
  Dp.reads I d v u ((h.mono l).dp p) r
end

/-! ### ints -/
def gI2 (C : Int → Int → Bool) (g : Int → Int → PyData) : PyData → PyData → Option PyData
  | .int i, .int j => if C i j then some (g i j) else none
  | _, _ => none
theorem rx_I {K : PySem.W.Frag} {P : Int → Int → Prop} {f : Int → Int → V} {C : Int → Int → Bool} {g : Int → Int → PyData} (hP : ∀ i j, C i j = true → P i j) (hf : ∀ H i j, Rp K H (f i j) (g i j)) : RX2 K (rI P f) (gI2 C g) := by
  intro H H1 v w d d' e l rv rw' h Q q
  unfold gI2 at h
  split at h
  · rename_i i j
    split at h
    · rename_i hc
      cases h
      exact ⟨i, j, rv.int_inv, rw'.int_inv, hP i j hc, q _ H H1 (Nw.refl l) (hf H i j)⟩
    · cases h
  · cases h
theorem rx_I0 {K : PySem.W.Frag} {f : Int → Int → V} {g : Int → Int → PyData} (hf : ∀ H i j, Rp K H (f i j) (g i j)) : RX2 K (rI0 f) (gI2 (fun _ _ => true) g) := by
  intro H H1 v w d d' e l rv rw' h Q q
  unfold gI2 at h
  split at h
  · rename_i i j
    cases h
    exact ⟨i, j, rv.int_inv, rw'.int_inv, q _ H H1 (Nw.refl l) (hf H i j)⟩
  · cases h
/-- * of two ints of together less than so many bits -/
def CMulD (i j : Int) : Prop := i.natAbs.log2 + j.natAbs.log2 < 100000000
theorem CMulD.ok {i j : Int} (h : CMulD i j) : IntMulOk i j := by
  have b : ∀ x : Int, Builtin.Int.intBits x ≤ x.natAbs.log2 + 1 := fun x => by
    unfold Builtin.Int.intBits
    split <;> omega
  have h1 := b i
  have h2 := b j
  have h3 : i.natAbs.log2 + j.natAbs.log2 < 100000000 := h
  have e : bitsLine = 134217728 := by decide
  unfold IntMulOk
  intro z
  rw [Bool.and_eq_true] at z
  have z2 := z.2
  unfold Builtin.Int.intTooBig at z2
  have z3 := of_decide_eq_true z2
  rw [e] at z3
  omega
theorem op_mulD {X : Cx} : OpR X (binaryOp .Mult) (rI CMulD fun i j => .int (i * j)) := opI fun _ _ _ _ _ _ _ hc q => mul_int q hc.ok
def gSub := gI2 (fun _ _ => true) fun i j => .int (i - j)
def gMul := gI2 (fun i j => decide (i.natAbs.log2 + j.natAbs.log2 < 100000000)) fun i j => .int (i * j)
def gMod := gI2 (fun _ j => decide (j ≠ 0)) fun i j => .int (i.fmod j)
def gFdiv := gI2 (fun _ j => decide (j ≠ 0 ∧ j.natAbs < 1073741824)) fun i j => .int (i.fdiv j)
def gPow := gI2 (fun i j => decide (0 ≤ j ∧ j ≤ 1000000 ∧ i.natAbs < 2 ^ 64)) fun i j => .int (i ^ j.toNat)
section
variable {K : PySem.W.Frag}
theorem rx_sub : RX2 K (rI0 fun i j => .int (i - j)) gSub := rx_I0 fun _ _ _ => .int _
theorem rx_mul : RX2 K (rI CMulD fun i j => .int (i * j)) gMul := rx_I (fun i j h => (of_decide_eq_true h : i.natAbs.log2 + j.natAbs.log2 < 100000000)) fun _ _ _ => .int _
theorem rx_mod : RX2 K (rI (fun _ j => j ≠ 0) fun i j => .int (i.fmod j)) gMod := rx_I (fun i j h => of_decide_eq_true h) fun _ _ _ => .int _
theorem rx_fdiv : RX2 K (rI CDivN fun i j => .int (i.fdiv j)) gFdiv := rx_I (fun i j h => (of_decide_eq_true h : j ≠ 0 ∧ j.natAbs < 1073741824)) fun _ _ _ => .int _
theorem rx_pow : RX2 K (rI CPow fun i j => .int (i ^ j.toNat)) gPow := rx_I (fun i j h => (of_decide_eq_true h : 0 ≤ j ∧ j ≤ 1000000 ∧ i.natAbs < 2 ^ 64)) fun _ _ _ => .int _
end
def gNeg : PyData → Option PyData
  | .int i => some (.int (-i))
  | _ => none
theorem rx_neg {K : PySem.W.Frag} : RX1 K (rU fun i => .int (-i)) gNeg := by
  intro H H1 v d e l rv h Q q
  unfold gNeg at h
  split at h
  · cases h
    exact ⟨_, rv.int_inv, q _ H H1 (Nw.refl l) (.int _)⟩
  · cases h

/-! ### order: ints, texts -/
def gCmp (f : Int → Int → Bool) (g : List Nat → List Nat → Bool) : PyData → PyData → Option PyData
  | .int i, .int j => some (.bool (f i j))
  | .str x, .str y => some (.bool (g x.cps.toList y.cps.toList))
  | _, _ => none
def rCmp (f : Int → Int → Bool) (g : List Nat → List Nat → Bool) : R2 := fun x y H Q => (∃ i j, x = .int i ∧ y = .int j ∧ Q (.bl (f i j)) H) ∨ (∃ i j, x = .str i ∧ y = .str j ∧ Q (.bl (g i.cps.toList j.cps.toList)) H)
theorem rx_cmp {K : PySem.W.Frag} {f : Int → Int → Bool} {g : List Nat → List Nat → Bool} : RX2 K (rCmp f g) (gCmp f g) := by
  intro H H1 v w d d' e l rv rw' h Q q
  unfold gCmp at h
  split at h
  · cases h
    exact .inl ⟨_, _, rv.int_inv, rw'.int_inv, q _ H H1 (Nw.refl l) (.bl _)⟩
  · cases h
    exact .inr ⟨_, _, rv.str_inv, rw'.str_inv, q _ H H1 (Nw.refl l) (.bl _)⟩
  · cases h
def fLt (i j : Int) : Bool := decide (i < j)
def fLe (i j : Int) : Bool := decide (i ≤ j)
def fGt (i j : Int) : Bool := decide (j < i)
def fGe (i j : Int) : Bool := decide (j ≤ i)
def sLt (i j : List Nat) : Bool := decide (i < j)
def sLe (i j : List Nat) : Bool := !decide (j < i)
def sGt (i j : List Nat) : Bool := decide (j < i)
def sGe (i j : List Nat) : Bool := !decide (i < j)
abbrev gLt := gCmp fLt sLt
abbrev gLe := gCmp fLe sLe
abbrev gGt := gCmp fGt sGt
abbrev gGe := gCmp fGe sGe
section
variable {X : Cx}
theorem op_ltD : OpR X (compareOp .Lt) (rCmp fLt sLt) := OpR.or op_lt op_lt_str
theorem op_leD : OpR X (compareOp .LtE) (rCmp fLe sLe) := OpR.or op_le op_le_str
theorem op_gtD : OpR X (compareOp .Gt) (rCmp fGt sGt) := OpR.or op_gt op_gt_str
theorem op_geD : OpR X (compareOp .GtE) (rCmp fGe sGe) := OpR.or op_ge op_ge_str
end

/-! ### == of data without dicts -/
def eqOk (d e : PyData) : Bool := d.plain && e.plain && decide (min d.depth e.depth ≤ 60)
theorem eqOk_iff {d e : PyData} (h : eqOk d e = true) : d.plain = true ∧ e.plain = true ∧ min d.depth e.depth ≤ 60 := by
  unfold eqOk at h
  rw [Bool.and_eq_true, Bool.and_eq_true] at h
  exact ⟨h.1.1, h.1.2, of_decide_eq_true h.2⟩
def gEq (d e : PyData) : Option PyData := if eqOk d e then some (.bool (PyData.eqv d e)) else none
def gNe (d e : PyData) : Option PyData := if eqOk d e then some (.bool (!PyData.eqv d e)) else none
def rEqP (K : PySem.W.Frag) (neg : Bool) : R2 := fun x y H1 Q => ∃ H d e, Le H H1 ∧ Rp K H x d ∧ Rp K H y e ∧ eqOk d e = true ∧ Q (.bl (if neg then !PyData.eqv d e else PyData.eqv d e)) H1
theorem rx_eq {K : PySem.W.Frag} : RX2 K (rEqP K false) gEq := by
  intro H H1 v w d d' e l rv rw' h Q q
  unfold gEq at h
  split at h
  · rename_i hk
    cases h
    exact ⟨H, d, d', l, rv, rw', hk, q _ H H1 (Nw.refl l) (.bl _)⟩
  · cases h
theorem rx_ne {K : PySem.W.Frag} : RX2 K (rEqP K true) gNe := by
  intro H H1 v w d d' e l rv rw' h Q q
  unfold gNe at h
  split at h
  · rename_i hk
    cases h
    exact ⟨H, d, d', l, rv, rw', hk, q _ H H1 (Nw.refl l) (.bl _)⟩
  · cases h
section
variable {X : Cx}
theorem op_eqP (hu : X.A.units + 64 < cLine) : OpR X (compareOp .Eq) (rEqP X.K false) := by
  intro pins s σ H1 x y v u Q I rx ry h
  obtain ⟨H, d, e, l, hd, he, hk, q⟩ := h
  obtain ⟨p1, p2, p3⟩ := eqOk_iff hk
  obtain ⟨as, r1⟩ := hd.reads I l p1 rx
  obtain ⟨bs, r2⟩ := he.reads I l p2 ry
  exact SeqAt.eq_plain r1 r2 p1 p2 (by omega) ⟨.bl _, H1, I, rfl, q⟩
theorem op_neP (hu : X.A.units + 64 < cLine) : OpR X (compareOp .NotEq) (rEqP X.K true) := by
  intro pins s σ H1 x y v u Q I rx ry h
  obtain ⟨H, d, e, l, hd, he, hk, q⟩ := h
  obtain ⟨p1, p2, p3⟩ := eqOk_iff hk
  obtain ⟨as, r1⟩ := hd.reads I l p1 rx
  obtain ⟨bs, r2⟩ := he.reads I l p2 ry
  exact SeqAt.ne_plain r1 r2 p1 p2 (by omega) ⟨.bl _, H1, I, rfl, q⟩
end
/-- is None -/
def isNoneD : PyData → Bool
  | .none => true
  | _ => false
def gIsN : PyData → PyData → Option PyData
  | d, .none => some (.bool (isNoneD d))
  | _, _ => none
def gNotN : PyData → PyData → Option PyData
  | d, .none => some (.bool (!isNoneD d))
  | _, _ => none
def rIsNone (neg : Bool) : R2 := fun x y H Q => y = .non ∧ Q (.bl (if neg then !decide (x = .non) else decide (x = .non))) H
theorem Rp.dec_non {K : PySem.W.Frag} {H : Hp} {v : V} {d : PyData} (h : Rp K H v d) : decide (v = .non) = isNoneD d := by
  cases h <;> rfl
theorem rx_isN {K : PySem.W.Frag} : RX2 K (rIsNone false) gIsN := by
  intro H H1 v w d d' e l rv rw' h Q q
  unfold gIsN at h
  split at h
  · cases h
    refine ⟨rw'.non_inv, q _ H H1 (Nw.refl l) ?_⟩
    rw [if_neg Bool.false_ne_true, rv.dec_non]
    exact .bl _
  · cases h
theorem rx_notN {K : PySem.W.Frag} : RX2 K (rIsNone true) gNotN := by
  intro H H1 v w d d' e l rv rw' h Q q
  unfold gNotN at h
  split at h
  · cases h
    refine ⟨rw'.non_inv, q _ H H1 (Nw.refl l) ?_⟩
    rw [if_pos rfl, rv.dec_non]
    exact .bl _
  · cases h
section
variable {X : Cx}
theorem op_isND : OpR X (compareOp .Is) (rIsNone false) := by
  intro pins s σ H x y v u Q I rx ry h
  exact op_isN pins s σ H x y v u Q I rx ry ⟨h.1, by have := h.2; rw [if_neg Bool.false_ne_true] at this; exact this⟩
theorem op_notND : OpR X (compareOp .IsNot) (rIsNone true) := by
  intro pins s σ H x y v u Q I rx ry h
  exact op_notN pins s σ H x y v u Q I rx ry ⟨h.1, by have := h.2; rw [if_pos rfl] at this; exact this⟩
end

/-! ### in: lists, tuples, dicts, one sign in a text -/
def inOk (d : PyData) (ds : List PyData) : Bool := d.plain && PyData.plainAll ds && decide (d.depth ≤ 60)
theorem inOk_iff {d : PyData} {ds : List PyData} (h : inOk d ds = true) : d.plain = true ∧ PyData.plainAll ds = true ∧ d.depth ≤ 60 := by
  unfold inOk at h
  rw [Bool.and_eq_true, Bool.and_eq_true] at h
  exact ⟨h.1.1, h.1.2, of_decide_eq_true h.2⟩
def inD (d : PyData) (ds : List PyData) : Bool := ds.any fun z => PyData.eqv z d
def gIn : PyData → PyData → Option PyData
  | d, .list ds => if inOk d ds then some (.bool (inD d ds)) else none
  | d, .tuple ds => if inOk d ds then some (.bool (inD d ds)) else none
  | _, _ => none
def gNotIn : PyData → PyData → Option PyData
  | d, .list ds => if inOk d ds then some (.bool (!inD d ds)) else none
  | d, .tuple ds => if inOk d ds then some (.bool (!inD d ds)) else none
  | _, _ => none
def rInP (K : PySem.W.Frag) (neg : Bool) : R2 := fun x y H1 Q => ∃ H d ds, Le H H1 ∧ Rp K H x d ∧ (Rp K H y (.list ds) ∨ Rp K H y (.tuple ds)) ∧ inOk d ds = true ∧ Q (.bl (if neg then !inD d ds else inD d ds)) H1
theorem rx_in {K : PySem.W.Frag} : RX2 K (rInP K false) gIn := by
  intro H H1 v w d d' e l rv rw' h Q q
  unfold gIn at h
  split at h
  · split at h
    · rename_i hk; cases h; exact ⟨H, d, _, l, rv, .inl rw', hk, q _ H H1 (Nw.refl l) (.bl _)⟩
    · cases h
  · split at h
    · rename_i hk; cases h; exact ⟨H, d, _, l, rv, .inr rw', hk, q _ H H1 (Nw.refl l) (.bl _)⟩
    · cases h
  · cases h
theorem rx_notIn {K : PySem.W.Frag} : RX2 K (rInP K true) gNotIn := by
  intro H H1 v w d d' e l rv rw' h Q q
  unfold gNotIn at h
  split at h
  · split at h
    · rename_i hk; cases h; exact ⟨H, d, _, l, rv, .inl rw', hk, q _ H H1 (Nw.refl l) (.bl _)⟩
    · cases h
  · split at h
    · rename_i hk; cases h; exact ⟨H, d, _, l, rv, .inr rw', hk, q _ H H1 (Nw.refl l) (.bl _)⟩
    · cases h
  · cases h
section
variable {X : Cx}
theorem op_inP (hu : X.A.units + 64 < cLine) : OpR X (compareOp .In) (rInP X.K false) := by
  intro pins s σ H1 x y v u Q I rx ry h
  obtain ⟨H, d, ds, l, hd, he, hk, q⟩ := h
  obtain ⟨p1, p2, p3⟩ := inOk_iff hk
  obtain ⟨as, r1⟩ := hd.reads I l p1 rx
  rcases he with he | he
  · obtain ⟨bs, r2⟩ := he.reads I l (by simpa only [PyData.plain] using p2) ry
    exact SeqAt.in_list_data r2 r1 p2 p1 (by omega) ⟨.bl _, H1, I, rfl, q⟩
  · obtain ⟨bs, r2⟩ := he.reads I l (by simpa only [PyData.plain] using p2) ry
    exact SeqAt.in_tuple_data r2 r1 p2 p1 (by omega) ⟨.bl _, H1, I, rfl, q⟩
theorem op_notInP (hu : X.A.units + 64 < cLine) : OpR X (compareOp .NotIn) (rInP X.K true) := by
  intro pins s σ H1 x y v u Q I rx ry h
  obtain ⟨H, d, ds, l, hd, he, hk, q⟩ := h
  obtain ⟨p1, p2, p3⟩ := inOk_iff hk
  obtain ⟨as, r1⟩ := hd.reads I l p1 rx
  rcases he with he | he
  · obtain ⟨bs, r2⟩ := he.reads I l (by simpa only [PyData.plain] using p2) ry
    exact SeqAt.notIn_list_data r2 r1 p2 p1 (by omega) ⟨.bl _, H1, I, rfl, q⟩
  · obtain ⟨bs, r2⟩ := he.reads I l (by simpa only [PyData.plain] using p2) ry
    exact SeqAt.notIn_tuple_data r2 r1 p2 p1 (by omega) ⟨.bl _, H1, I, rfl, q⟩
end

/-! ### + : ints, texts, lists, tuples -/
def gAdd : PyData → PyData → Option PyData
  | .int i, .int j => some (.int (i + j))
  | .str x, .str y => if x.length + y.length ≤ sizeLine then some (.str (x ++ y)) else none
  | .list xs, .list ys => if xs.length + ys.length ≤ sizeLine then some (.list (xs ++ ys)) else none
  | .tuple xs, .tuple ys => if xs.length + ys.length ≤ sizeLine then some (.tuple (xs ++ ys)) else none
  | _, _ => none
theorem list_add_gen (l : Addr) (items : Array Value) (n : Nat) (b : Addr) (items2 : Array Value) (n2 : Nat) (sl sl2 : Array (Option Value)) (hc0 : items.size + items2.size ≤ sizeLine) :
    Meets (Builtin.«list.__add__» ⟨[.ref l, .ref b], []⟩) (fun _ R s => s.heap.get? l = some { cls := .type "list", dict := none, data := .seq items n, slots := sl } ∧ s.heap.get? b = some { cls := .type "list", dict := none, data := .seq items2 n2, slots := sl2 } ∧ R (.ok (.ret (Value.ref s.heap.objs.size))) { s with heap := s.heap.push { cls := Value.type "list", data := Data.seq (items ++ items2) }, toks := s.toks }) :=
  .of_wp fun prog w A R s h => by obtain ⟨hp, g, d, tk, os⟩ := s; obtain ⟨hl, hb, h⟩ := h; have f1 := AutoSeq1.idx_int; have f2 := AutoSeq1.sub_tuple_tuple; have f3 := AutoSeq1.sub_list_list; have f4 := AutoSeq1.sub_tuple_list; have f5 := AutoSeq1.sub_list_tuple; wp_walk using AutoSeq1.wpAny_loadPart' hl, AutoSeq1.wpAny_loadPart' hb; exact ⟨_, rfl, h⟩
def rCatS (K : PySem.W.Frag) : R2 := fun x y H Q => ∃ l b xs zs, x = .ref l ∧ y = .ref b ∧ SqL K H l xs ∧ SqL K H b zs ∧ xs.length + zs.length ≤ sizeLine ∧ ∀ p, H p = none → Q (.ref p) (upd H p (.lst (xs ++ zs)))
theorem op_catS {X : Cx} : OpR X (binaryOp .Add) (rCatS X.K) := by
  intro pins s σ H x y v u Q I rx ry h
  obtain ⟨l, b, xs, zs, rfl, rfl, hH, hB, hz, q⟩ := h
  cases rx
  cases ry
  obtain ⟨its, r, ⟨o, n, e, hc, hdn, hd⟩, z⟩ := I.list hH
  obtain ⟨its2, r2, ⟨o2, n2, e2, hc2, hdn2, hd2⟩, z2⟩ := I.list hB
  have hl := r.length
  have hl2 := r2.length
  obtain ⟨c1, d1, s1, t1⟩ := o
  obtain ⟨c2, d2, s2, t2⟩ := o2
  simp only at hc hd hc2 hd2 hdn hdn2
  subst hc hd hc2 hd2 hdn hdn2
  refine concat_meets ⟨_, e, rfl⟩ ⟨_, e2, rfl⟩ noFill_list_add seq_list_add F.slot_list_add F.entry_list_add (F.args_list_add_2 _ _) (list_add_gen l its.toArray n b its2.toArray n2 t1 t2 (by rw [List.size_toArray, List.size_toArray]; omega)) ⟨e, e2, ?_⟩
  have ea : its.toArray ++ its2.toArray = (its ++ its2).toArray := by simp
  rw [ea]
  exact ⟨.ref _, _, I.lnew (t' := s.toks) (r.append r2) (by rw [List.length_append]; omega), rfl, q _ I.fresh⟩
def rAddD (K : PySem.W.Frag) : R2 := fun x y H Q => (∃ i j, x = .int i ∧ y = .int j ∧ Q (.int (i + j)) H) ∨ (∃ i j, x = .str i ∧ y = .str j ∧ i.length + j.length ≤ sizeLine ∧ Q (.str (i ++ j)) H) ∨ rCatS K x y H Q ∨ rCatA K x y H Q
theorem op_addD {X : Cx} : OpR X (binaryOp .Add) (rAddD X.K) := OpR.or op_add (OpR.or op_add_str (OpR.or op_catS op_catA))
theorem rx_add {K : PySem.W.Frag} : RX2 K (rAddD K) gAdd := by
  intro H H1 v w d d' e l rv rw' h Q q
  unfold gAdd at h
  split at h
  · cases h
    exact .inl ⟨_, _, rv.int_inv, rw'.int_inv, q _ H H1 (Nw.refl l) (.int _)⟩
  · split at h
    · rename_i hk
      cases h
      exact .inr (.inl ⟨_, _, rv.str_inv, rw'.str_inv, hk, q _ H H1 (Nw.refl l) (.str _)⟩)
    · cases h
  · split at h
    · rename_i hk
      cases h
      obtain ⟨a, xs, rfl, s1, r1⟩ := rv.lst_inv
      obtain ⟨b, ys, rfl, s2, r2⟩ := rw'.lst_inv
      have h1 := r1.length
      have h2 := r2.length
      refine .inr (.inr (.inl ⟨a, b, xs, ys, rfl, rfl, l.l s1, l.l s2, by omega, fun p hp => ?_⟩))
      have nw := Nw.one (o := .lst (xs ++ ys)) l hp
      exact q _ _ _ nw (.lst (SqL.of upd_same) ((r1.append r2).mono (.of nw.ex)))
    · cases h
  · split at h
    · rename_i hk
      cases h
      obtain ⟨a, xs, rfl, s1, r1⟩ := rv.tup_inv
      obtain ⟨b, ys, rfl, s2, r2⟩ := rw'.tup_inv
      have h1 := r1.length
      have h2 := r2.length
      refine .inr (.inr (.inr ⟨a, b, xs, ys, rfl, rfl, l.t s1, l.t s2, by omega, fun ex => ?_, fun ex ey => ?_, fun ex ey p hp => ?_⟩))
      · subst ex
        cases r1
        exact q _ H H1 (Nw.refl l) (by rw [List.nil_append]; exact rw')
      · subst ey
        cases r2
        exact q _ H H1 (Nw.refl l) (by rw [List.append_nil]; exact rv)
      · have nw := Nw.one (o := .tup (xs ++ ys)) l hp
        exact q _ _ _ nw (.tup upd_same ((r1.append r2).mono (.of nw.ex)))
    · cases h
  · cases h
end Dm

/-! Dm: expressions, their mirrors. -/
namespace Dm
open PySem PySem.Spec PyProof.Rows L2

abbrev MX := En → Option (PyData × En)
abbrev MT := En → Option (Bool × En)
inductive Arg where
  | d (x : PyData) | s (i : Nat)
abbrev MG := En → Option (List Arg × En)
abbrev ML := En → Option (List PyData × En)
abbrev MO := En → Option (Own × En)

section
variable (K : PySem.W.Frag)
def EvX (te : TE) (f : MX) : Prop := ∀ E d E', f E = some (d, E') → ∀ σ H H1, EnvR K E σ H H1 → ∀ Q : VK, (∀ v H' H2, Stp (Owns E σ) H H1 (Owns E' σ) H' H2 → EnvR K E' σ H' H2 → Rp K H' v d → Q v H2) → te σ H1 Q
def EvT (tt : TT) (f : MT) : Prop := ∀ E b E', f E = some (b, E') → ∀ σ H H1, EnvR K E σ H H1 → ∀ Q : Bool → Hp → Prop, (∀ H' H2, Stp (Owns E σ) H H1 (Owns E' σ) H' H2 → EnvR K E' σ H' H2 → Q b H2) → tt σ H1 Q
def EvL (ta : TA) (f : ML) : Prop := ∀ E ds E', f E = some (ds, E') → ∀ σ H H1, EnvR K E σ H H1 → ∀ Q : List V → Hp → Prop, (∀ vs H' H2, Stp (Owns E σ) H H1 (Owns E' σ) H' H2 → EnvR K E' σ H' H2 → RpAll K H' vs ds → Q vs H2) → ta σ H1 Q
inductive ArgAt (H : Hp) (σ : L2.St) : V → Arg → Prop
  | d {v : V} {x : PyData} : Rp K H v x → ArgAt H σ v (.d x)
  | s {v : V} {i : Nat} : σ[i]? = some (some v) → ArgAt H σ v (.s i)
inductive ArgsAt (H : Hp) (σ : L2.St) : List V → List Arg → Prop
  | nil : ArgsAt H σ [] []
  | cons {v : V} {vs : List V} {a : Arg} {as : List Arg} : ArgAt K H σ v a → ArgsAt H σ vs as → ArgsAt H σ (v :: vs) (a :: as)
def EvG (ta : TA) (f : MG) : Prop := ∀ E as E', f E = some (as, E') → ∀ σ H H1, EnvR K E σ H H1 → ∀ Q : List V → Hp → Prop, (∀ vs H' H2, Stp (Owns E σ) H H1 (Owns E' σ) H' H2 → EnvR K E' σ H' H2 → ArgsAt K H' σ vs as → Q vs H2) → ta σ H1 Q
/-- a fresh own object -/
def EvO (te : TE) (f : MO) : Prop := ∀ E o E', f E = some (o, E') → ∀ σ H H1, EnvR K E σ H H1 → ∀ Q : VK, (∀ p H' H2, Stp (Owns E σ) H H1 (Owns E' σ) H' H2 → EnvR K E' σ H' H2 → (H1 p = none ∨ Owns E σ p) → H' p = none → ¬ Owns E' σ p → OwnAt K H' H2 p o → Q (.ref p) H2) → te σ H1 Q
end
structure RE (X : Cx) (e : Expr) (te : TE) (f : MX) : Prop where
  pe : PE X e te
  ev : EvX X.K te f
structure RT (X : Cx) (e : Expr) (te : TT) (f : MT) : Prop where
  pt : PT X e te
  ev : EvT X.K te f
structure RW (X : Cx) (e : Expr) (te : TT) (f : MT) : Prop where
  pw : PW X e te
  ev : EvT X.K te f
structure RL (X : Cx) (es : List Expr) (ta : TA) (f : ML) : Prop where
  pa : PA X es ta
  ev : EvL X.K ta f
structure RG (X : Cx) (es : List Expr) (ta : TA) (f : MG) : Prop where
  pa : PA X es ta
  ev : EvG X.K ta f
structure RO (X : Cx) (e : Expr) (te : TE) (f : MO) : Prop where
  pe : PE X e te
  ev : EvO X.K te f

/-! ### glue -/
theorem bnd {α β : Type} {x : Option α} {f : α → Option β} {b : β} (h : x.bind f = some b) : ∃ a, x = some a ∧ f a = some b := Option.bind_eq_some_iff.mp h
section
variable {K : PySem.W.Frag} {E E1 E2 : En} {σ : L2.St} {H H1 : Hp} {ta tb te : TE} {f h : MX} {d d' : PyData}
theorem ev2 (ha : EvX K ta f) (hb : EvX K tb h) (e1 : f E = some (d, E1)) (e2 : h E1 = some (d', E2)) (R : EnvR K E σ H H1) {k : V → V → Hp → Prop}
    (q : ∀ v w H' H2, Stp (Owns E σ) H H1 (Owns E2 σ) H' H2 → EnvR K E2 σ H' H2 → Rp K H' v d → Rp K H' w d' → k v w H2) : ta σ H1 fun x G1 => tb σ G1 fun y G2 => k x y G2 :=
  ha E d E1 e1 σ H H1 R _ fun v Ha Hb st R1 r1 => hb E1 d' E2 e2 σ Ha Hb R1 _ fun w Hc Hd st2 R2 r2 => q v w Hc Hd (st.trans st2) R2 (r1.mono (.of st2.ex)) r2
theorem Stp.nw' {E : En} {H' H2 H'' H3 : Hp} (s : Stp (Owns E σ) H H1 (Owns E2 σ) H' H2) (n : Nw H' H2 H'' H3) : Stp (Owns E σ) H H1 (Owns E2 σ) H'' H3 := s.trans (n.stp _)
end

/-! ### leaves -/
def mC (d : PyData) : MX := fun E => some (d, E)
def mVar (i : Nat) : MX := fun E => match E[i]? with
  | some (Sl.dat d) => some (d, E)
  | _ => none
/-- read; an own thing is from then on data -/
def mFrz (i : Nat) : MX := fun E => match E[i]? with
  | some (Sl.dat d) => some (d, E)
  | some (Sl.own o) => some (o.data, E.set i (.dat o.data))
  | _ => none
section
variable {K : PySem.W.Frag}
theorem ev_c {v : V} {d : PyData} (h : ∀ H, Rp K H v d) : EvX K (tC v) (mC d) := by
  intro E d' E' e σ H H1 R Q q
  cases e
  exact q v H H1 .refl R (h H)
theorem ev_var {i : Nat} : EvX K (tVar i) (mVar i) := by
  intro E d' E' e σ H H1 R Q q
  unfold mVar at e
  split at e
  · rename_i d hd
    cases e
    obtain ⟨v, e1, r⟩ := R.atS i _ hd
    exact ⟨v, e1, q v H H1 .refl R r⟩
  · cases e
theorem ev_frz {i : Nat} : EvX K (tVar i) (mFrz i) := by
  intro E d' E' e σ H H1 R Q q
  unfold mFrz at e
  split at e
  · rename_i d hd
    cases e
    obtain ⟨v, e1, r⟩ := R.atS i _ hd
    exact ⟨v, e1, q v H H1 .refl R r⟩
  · rename_i o hd
    cases e
    obtain ⟨p, e1, h0, ho⟩ := R.atS i _ hd
    obtain ⟨u, hu, r⟩ := ho.ho' h0
    exact ⟨.ref p, e1, q _ _ H1 (R.frzStp hd e1 h0) (R.frz hd e1 h0 hu r) r⟩
  · cases e
end
section
variable {X : Cx} {pos : Pos}
theorem re_int {i j} : RE X (.Constant (.int i) j pos) (tC (.int i)) (mC (.int i)) := ⟨pe_int, ev_c fun _ => .int _⟩
theorem re_bl {i j} : RE X (.Constant (.bool i) j pos) (tC (.bl i)) (mC (.bool i)) := ⟨pe_bl, ev_c fun _ => .bl _⟩
theorem re_str {i j} : RE X (.Constant (.str i) j pos) (tC (.str i)) (mC (.str i)) := ⟨pe_str, ev_c fun _ => .str _⟩
theorem re_non {j} : RE X (.Constant .none j pos) (tC .non) (mC .none) := ⟨pe_non, ev_c fun _ => .non⟩
theorem re_var (i : Nat) {x : Str} (hN : X.N[i]? = some x := by rfl) (hv : Vis X.env.scope x := by first | exact Or.inl rfl | exact Or.inr (Or.inl rfl) | exact Or.inr (Or.inr rfl)) (hd : (x == ("__debug__" : Str)) = false := by decide)
    (hcd : (x == ("__classdict__" : Str)) = false := by decide) : RE X (.Name x pos) (tVar i) (mVar i) := ⟨pe_var hN hv hd hcd, ev_var⟩
theorem re_frz (i : Nat) {x : Str} (hN : X.N[i]? = some x := by rfl) (hv : Vis X.env.scope x := by first | exact Or.inl rfl | exact Or.inr (Or.inl rfl) | exact Or.inr (Or.inr rfl)) (hd : (x == ("__debug__" : Str)) = false := by decide)
    (hcd : (x == ("__classdict__" : Str)) = false := by decide) : RE X (.Name x pos) (tVar i) (mFrz i) := ⟨pe_var hN hv hd hcd, ev_frz⟩
end

/-! ### operators -/
def mOp1 (g : PyData → Option PyData) (f : MX) : MX := fun E => (f E).bind fun p => (g p.1).bind fun z => some (z, p.2)
def mOp2 (g : PyData → PyData → Option PyData) (f h : MX) : MX := fun E => (f E).bind fun p => (h p.2).bind fun q => (g p.1 q.1).bind fun z => some (z, q.2)
section
variable {K : PySem.W.Frag} {ta tb : TE} {f h : MX}
theorem ev_op1 {r : V → Hp → VK → Prop} {g : PyData → Option PyData} (hr : RX1 K r g) (ha : EvX K ta f) : EvX K (tUn r ta) (mOp1 g f) := by
  intro E d E' e σ H H1 R Q q
  obtain ⟨⟨d1, E1⟩, e1, e⟩ := bnd e
  obtain ⟨z, e2, e⟩ := bnd e
  cases e
  refine ha E d1 E1 e1 σ H H1 R _ fun v Ha Hb st R1 r1 => ?_
  exact hr Ha Hb v d1 _ R1.le r1 e2 Q fun u Hc Hd n ru => q u Hc Hd (st.trans (n.stp _)) (R1.nw n) ru
theorem ev_op2 {r : R2} {g : PyData → PyData → Option PyData} (hr : RX2 K r g) (ha : EvX K ta f) (hb : EvX K tb h) : EvX K (tOp r ta tb) (mOp2 g f h) := by
  intro E d E' e σ H H1 R Q q
  obtain ⟨⟨d1, E1⟩, e1, e⟩ := bnd e
  obtain ⟨⟨d2, E2⟩, e2, e⟩ := bnd e
  obtain ⟨z, e3, e⟩ := bnd e
  cases e
  refine ev2 ha hb e1 e2 R fun v w Ha Hb st R1 r1 r2 => ?_
  exact hr Ha Hb v w d1 d2 _ R1.le r1 r2 e3 Q fun u Hc Hd n ru => q u Hc Hd (st.trans (n.stp _)) (R1.nw n) ru
end
section
variable {X : Cx} {a b e : Expr} {ta tb te : TE} {f h : MX} {pos : Pos}
theorem re_op {op : Operator} {r : R2} {g : PyData → PyData → Option PyData} (ho : OpR X (binaryOp op) r) (hr : RX2 X.K r g) (ha : RE X a ta f) (hb : RE X b tb h) : RE X (.BinOp a op b pos) (tOp r ta tb) (mOp2 g f h) := ⟨pe_op ho ha.pe hb.pe, ev_op2 hr ha.ev hb.ev⟩
theorem re_add (ha : RE X a ta f) (hb : RE X b tb h) : RE X (.BinOp a .Add b pos) (tOp (rAddD X.K) ta tb) (mOp2 gAdd f h) := re_op op_addD rx_add ha hb
theorem re_sub (ha : RE X a ta f) (hb : RE X b tb h) : RE X (.BinOp a .Sub b pos) (tOp (rI0 fun i j => V.int (i - j)) ta tb) (mOp2 gSub f h) := re_op op_sub rx_sub ha hb
theorem re_mul (ha : RE X a ta f) (hb : RE X b tb h) : RE X (.BinOp a .Mult b pos) (tOp (rI CMulD fun i j => V.int (i * j)) ta tb) (mOp2 gMul f h) := re_op op_mulD rx_mul ha hb
theorem re_mod (ha : RE X a ta f) (hb : RE X b tb h) : RE X (.BinOp a .Mod b pos) (tOp (rI (fun _ j => j ≠ 0) fun i j => V.int (i.fmod j)) ta tb) (mOp2 gMod f h) := re_op op_modN rx_mod ha hb
theorem re_fdiv (ha : RE X a ta f) (hb : RE X b tb h) : RE X (.BinOp a .FloorDiv b pos) (tOp (rI CDivN fun i j => V.int (i.fdiv j)) ta tb) (mOp2 gFdiv f h) := re_op op_fdivN rx_fdiv ha hb
theorem re_pow (ha : RE X a ta f) (hb : RE X b tb h) : RE X (.BinOp a .Pow b pos) (tOp (rI CPow fun i j => V.int (i ^ j.toNat)) ta tb) (mOp2 gPow f h) := re_op op_pow rx_pow ha hb
theorem re_neg (ha : RE X a ta f) : RE X (.UnaryOp .USub a pos) (tUn (rU fun i => V.int (-i)) ta) (mOp1 gNeg f) := ⟨pe_un un_neg ha.pe, ev_op1 rx_neg ha.ev⟩
theorem re_cmp {op : CmpOp} {r : R2} {g : PyData → PyData → Option PyData} (ho : OpR X (compareOp op) r) (hr : RX2 X.K r g) (hm : behindInMarks op b = false) (ha : RE X a ta f) (hb : RE X b tb h) : RE X (.Compare a [op] [b] pos) (tOp r ta tb) (mOp2 g f h) :=
  ⟨pe_cmpR ho ha.pe hb.pe hm, ev_op2 hr ha.ev hb.ev⟩
theorem re_lt (ha : RE X a ta f) (hb : RE X b tb h) : RE X (.Compare a [.Lt] [b] pos) (tOp (rCmp fLt sLt) ta tb) (mOp2 gLt f h) := re_cmp op_ltD rx_cmp (nomark _) ha hb
theorem re_le (ha : RE X a ta f) (hb : RE X b tb h) : RE X (.Compare a [.LtE] [b] pos) (tOp (rCmp fLe sLe) ta tb) (mOp2 gLe f h) := re_cmp op_leD rx_cmp (nomark _) ha hb
theorem re_gt (ha : RE X a ta f) (hb : RE X b tb h) : RE X (.Compare a [.Gt] [b] pos) (tOp (rCmp fGt sGt) ta tb) (mOp2 gGt f h) := re_cmp op_gtD rx_cmp (nomark _) ha hb
theorem re_ge (ha : RE X a ta f) (hb : RE X b tb h) : RE X (.Compare a [.GtE] [b] pos) (tOp (rCmp fGe sGe) ta tb) (mOp2 gGe f h) := re_cmp op_geD rx_cmp (nomark _) ha hb
theorem re_eq (hu : X.A.units + 64 < cLine) (ha : RE X a ta f) (hb : RE X b tb h) : RE X (.Compare a [.Eq] [b] pos) (tOp (rEqP X.K false) ta tb) (mOp2 gEq f h) := re_cmp (op_eqP hu) rx_eq (nomark _) ha hb
theorem re_ne (hu : X.A.units + 64 < cLine) (ha : RE X a ta f) (hb : RE X b tb h) : RE X (.Compare a [.NotEq] [b] pos) (tOp (rEqP X.K true) ta tb) (mOp2 gNe f h) := re_cmp (op_neP hu) rx_ne (nomark _) ha hb
theorem re_isN (ha : RE X a ta f) (hb : RE X b tb h) : RE X (.Compare a [.Is] [b] pos) (tOp (rIsNone false) ta tb) (mOp2 gIsN f h) := re_cmp op_isND rx_isN (nomark _) ha hb
theorem re_notN (ha : RE X a ta f) (hb : RE X b tb h) : RE X (.Compare a [.IsNot] [b] pos) (tOp (rIsNone true) ta tb) (mOp2 gNotN f h) := re_cmp op_notND rx_notN (nomark _) ha hb
end

/-! ### tests -/
def mTst (f : MX) : MT := fun E => (f E).bind fun p => match p.1 with
  | .bool b => some (b, p.2)
  | _ => none
/-- truth of any value -/
def truD : PyData → Option Bool
  | .none => some false
  | .bool b => some b
  | .int i => some (i != 0)
  | .str y => if y.length ≤ sizeLine then some ((y.length : Int) != 0) else none
  | .list xs => some (!xs.isEmpty)
  | .tuple xs => some (!xs.isEmpty)
  | .dict _ => none
def mTru (f : MX) : MT := fun E => (f E).bind fun p => (truD p.1).bind fun b => some (b, p.2)
def mNotT (f : MT) : MT := fun E => (f E).bind fun p => some (!p.1, p.2)
def mAndT (f h : MT) : MT := fun E => (f E).bind fun p => if p.1 then h p.2 else some (false, p.2)
def mOrT (f h : MT) : MT := fun E => (f E).bind fun p => if p.1 then some (true, p.2) else h p.2
def mNotV (f : MX) : MX := fun E => (mTst f E).bind fun p => some (.bool (!p.1), p.2)
def mAndV (f h : MX) : MX := fun E => (mTst f E).bind fun p => if p.1 then h p.2 else some (.bool false, p.2)
def mOrV (f h : MX) : MX := fun E => (mTst f E).bind fun p => if p.1 then some (.bool true, p.2) else h p.2
def mIf (c : MT) (f h : MX) : MX := fun E => (c E).bind fun p => if p.1 then f p.2 else h p.2
section
variable {K : PySem.W.Frag} {ta tb : TE} {t u : TT} {f h : MX} {c k : MT}
theorem mTst_inv {E : En} {b : Bool} {E' : En} (e : mTst f E = some (b, E')) : f E = some (.bool b, E') := by
  obtain ⟨⟨d1, E1⟩, e1, e⟩ := bnd e
  rw [e1]
  cases d1 <;> simp only at e <;> first | (cases e; rfl) | cases e
theorem ev_tstE (ha : EvX K ta f) {E : En} {b : Bool} {E' : En} (e : mTst f E = some (b, E')) {σ : L2.St} {H H1 : Hp} (R : EnvR K E σ H H1) {k : V → Hp → Prop} (q : ∀ H' H2, Stp (Owns E σ) H H1 (Owns E' σ) H' H2 → EnvR K E' σ H' H2 → k (.bl b) H2) : ta σ H1 k :=
  ha E _ E' (mTst_inv e) σ H H1 R _ fun v H' H2 st R1 r => by
    cases r
    exact q H' H2 st R1
theorem ev_tst (ha : EvX K ta f) : EvT K (tTest ta) (mTst f) := fun E b E' e σ H H1 R Q q => ev_tstE ha e R fun H' H2 st R1 => ⟨b, rfl, q H' H2 st R1⟩
theorem ev_tru (ha : EvX K ta f) : EvT K (fun σ H Q => ta σ H fun x H' => ∃ k, TruV K x H' k ∧ Q k H') (mTru f) := by
  intro E b E' e σ H H1 R Q q
  obtain ⟨⟨d1, E1⟩, e1, e⟩ := bnd e
  obtain ⟨z, e2, e⟩ := bnd e
  cases e
  refine ha E d1 E1 e1 σ H H1 R _ fun v H' H2 st R1 r => ⟨b, ?_, q H' H2 st R1⟩
  cases r with
  | non => cases e2; rfl
  | bl x => cases e2; rfl
  | int x => cases e2; rfl
  | str x =>
    simp only [truD] at e2
    split at e2
    · rename_i hl; cases e2; exact ⟨hl, rfl⟩
    · cases e2
  | lst s ra =>
    cases e2
    refine .inl ⟨_, R1.le.l s, ?_⟩
    cases ra <;> rfl
  | tup s ra =>
    cases e2
    refine .inr (.inl ⟨_, SqT.of (R1.le.tup s), ?_⟩)
    cases ra <;> rfl
  | tupK s k ra =>
    cases e2
    refine .inr (.inl ⟨_, R1.le.t s, ?_⟩)
    cases ra <;> rfl
  | dK => cases e2
  | dT => cases e2
theorem ev_notT (h : EvT K t c) : EvT K (tNot t) (mNotT c) := by
  intro E b E' e σ H H1 R Q q
  obtain ⟨⟨b1, E1⟩, e1, e⟩ := bnd e
  cases e
  exact h E b1 E1 e1 σ H H1 R _ fun H' H2 st R1 => q H' H2 st R1
theorem ev_andT (h1 : EvT K t c) (h2 : EvT K u k) : EvT K (tAnd t u) (mAndT c k) := by
  intro E b E' e σ H H1 R Q q
  obtain ⟨⟨b1, E1⟩, e1, e⟩ := bnd e
  refine h1 E b1 E1 e1 σ H H1 R _ fun H' H2 st R1 => ?_
  cases b1 with
  | true => exact h2 E1 b E' e σ H' H2 R1 _ fun Ha Hb st2 R2 => q Ha Hb (st.trans st2) R2
  | false => cases e; exact q H' H2 st R1
theorem ev_orT (h1 : EvT K t c) (h2 : EvT K u k) : EvT K (tOr t u) (mOrT c k) := by
  intro E b E' e σ H H1 R Q q
  obtain ⟨⟨b1, E1⟩, e1, e⟩ := bnd e
  refine h1 E b1 E1 e1 σ H H1 R _ fun H' H2 st R1 => ?_
  cases b1 with
  | false => exact h2 E1 b E' e σ H' H2 R1 _ fun Ha Hb st2 R2 => q Ha Hb (st.trans st2) R2
  | true => cases e; exact q H' H2 st R1
theorem ev_notV (ha : EvX K ta f) : EvX K (tNotV ta) (mNotV f) := by
  intro E d E' e σ H H1 R Q q
  obtain ⟨⟨b1, E1⟩, e1, e⟩ := bnd e
  cases e
  exact ev_tstE ha e1 R fun H' H2 st R1 => ⟨b1, rfl, q _ H' H2 st R1 (.bl _)⟩
theorem ev_andV (ha : EvX K ta f) (hb : EvX K tb h) : EvX K (tAndV ta tb) (mAndV f h) := by
  intro E d E' e σ H H1 R Q q
  obtain ⟨⟨b1, E1⟩, e1, e⟩ := bnd e
  refine ev_tstE ha e1 R fun H' H2 st R1 => ⟨b1, rfl, ?_⟩
  cases b1 with
  | true => exact hb E1 d E' e σ H' H2 R1 _ fun v Ha Hb st2 R2 r => q v Ha Hb (st.trans st2) R2 r
  | false => cases e; exact q _ H' H2 st R1 (.bl _)
theorem ev_orV (ha : EvX K ta f) (hb : EvX K tb h) : EvX K (tOrV ta tb) (mOrV f h) := by
  intro E d E' e σ H H1 R Q q
  obtain ⟨⟨b1, E1⟩, e1, e⟩ := bnd e
  refine ev_tstE ha e1 R fun H' H2 st R1 => ⟨b1, rfl, ?_⟩
  cases b1 with
  | false => exact hb E1 d E' e σ H' H2 R1 _ fun v Ha Hb st2 R2 r => q v Ha Hb (st.trans st2) R2 r
  | true => cases e; exact q _ H' H2 st R1 (.bl _)
theorem ev_if (hc : EvT K t c) (ha : EvX K ta f) (hb : EvX K tb h) : EvX K (tIf t ta tb) (mIf c f h) := by
  intro E d E' e σ H H1 R Q q
  obtain ⟨⟨b1, E1⟩, e1, e⟩ := bnd e
  refine hc E b1 E1 e1 σ H H1 R _ fun H' H2 st R1 => ?_
  cases b1 with
  | true => exact ha E1 d E' e σ H' H2 R1 _ fun v Ha Hb st2 R2 r => q v Ha Hb (st.trans st2) R2 r
  | false => exact hb E1 d E' e σ H' H2 R1 _ fun v Ha Hb st2 R2 r => q v Ha Hb (st.trans st2) R2 r
end
section
variable {X : Cx} {a b e c : Expr} {rest : List Expr} {ta tb te : TE} {t u : TT} {f h : MX} {m k : MT} {pos : Pos}
theorem rt_cmp {op : CmpOp} {r : R2} {g : PyData → PyData → Option PyData} (ho : OpR X (compareOp op) r) (hr : RX2 X.K r g) (hm : behindInMarks op b = false) (ha : RE X a ta f) (hb : RE X b tb h) : RT X (.Compare a [op] [b] pos) (tTest (tOp r ta tb)) (mTst (mOp2 g f h)) :=
  ⟨pt_cmpR ho ha.pe hb.pe hm, ev_tst (ev_op2 hr ha.ev hb.ev)⟩
theorem rt_lt (ha : RE X a ta f) (hb : RE X b tb h) : RT X (.Compare a [.Lt] [b] pos) (tTest (tOp (rCmp fLt sLt) ta tb)) (mTst (mOp2 gLt f h)) := rt_cmp op_ltD rx_cmp (nomark _) ha hb
theorem rt_le (ha : RE X a ta f) (hb : RE X b tb h) : RT X (.Compare a [.LtE] [b] pos) (tTest (tOp (rCmp fLe sLe) ta tb)) (mTst (mOp2 gLe f h)) := rt_cmp op_leD rx_cmp (nomark _) ha hb
theorem rt_gt (ha : RE X a ta f) (hb : RE X b tb h) : RT X (.Compare a [.Gt] [b] pos) (tTest (tOp (rCmp fGt sGt) ta tb)) (mTst (mOp2 gGt f h)) := rt_cmp op_gtD rx_cmp (nomark _) ha hb
theorem rt_ge (ha : RE X a ta f) (hb : RE X b tb h) : RT X (.Compare a [.GtE] [b] pos) (tTest (tOp (rCmp fGe sGe) ta tb)) (mTst (mOp2 gGe f h)) := rt_cmp op_geD rx_cmp (nomark _) ha hb
theorem rt_eq (hu : X.A.units + 64 < cLine) (ha : RE X a ta f) (hb : RE X b tb h) : RT X (.Compare a [.Eq] [b] pos) (tTest (tOp (rEqP X.K false) ta tb)) (mTst (mOp2 gEq f h)) := rt_cmp (op_eqP hu) rx_eq (nomark _) ha hb
theorem rt_ne (hu : X.A.units + 64 < cLine) (ha : RE X a ta f) (hb : RE X b tb h) : RT X (.Compare a [.NotEq] [b] pos) (tTest (tOp (rEqP X.K true) ta tb)) (mTst (mOp2 gNe f h)) := rt_cmp (op_neP hu) rx_ne (nomark _) ha hb
theorem rt_isN (ha : RE X a ta f) (hb : RE X b tb h) : RT X (.Compare a [.Is] [b] pos) (tTest (tOp (rIsNone false) ta tb)) (mTst (mOp2 gIsN f h)) := rt_cmp op_isND rx_isN (nomark _) ha hb
theorem rt_notN (ha : RE X a ta f) (hb : RE X b tb h) : RT X (.Compare a [.IsNot] [b] pos) (tTest (tOp (rIsNone true) ta tb)) (mTst (mOp2 gNotN f h)) := rt_cmp op_notND rx_notN (nomark _) ha hb
/-- any other expression as a test: by its value's truth -/
theorem rt_tru (ha : RE X a ta f) (he : ∀ whole, isTrue a X.env whole = (do let v ← whole; standAt a.pos; holding [v] (truthy v)) := by intro _; rfl) : RT X a (fun σ H Q => ta σ H fun x H' => ∃ k, TruV X.K x H' k ∧ Q k H') (mTru f) := ⟨pt_truth ha.pe he, ev_tru ha.ev⟩
theorem rt_not (h : RT X a t m) : RT X (.UnaryOp .Not a pos) (tNot t) (mNotT m) := ⟨pt_not h.pt, ev_notT h.ev⟩
theorem rw_and1 (h : RT X a t m) : RW X (.BoolOp .And [a] pos) t m := ⟨pw_and1 h.pt, h.ev⟩
theorem rw_or1 (h : RT X a t m) : RW X (.BoolOp .Or [a] pos) t m := ⟨pw_or1 h.pt, h.ev⟩
theorem rw_and (h1 : RT X a t m) (h2 : RW X (.BoolOp .And (b :: rest) pos) u k) : RW X (.BoolOp .And (a :: b :: rest) pos) (tAnd t u) (mAndT m k) := ⟨pw_and h1.pt h2.pw, ev_andT h1.ev h2.ev⟩
theorem rw_or (h1 : RT X a t m) (h2 : RW X (.BoolOp .Or (b :: rest) pos) u k) : RW X (.BoolOp .Or (a :: b :: rest) pos) (tOr t u) (mOrT m k) := ⟨pw_or h1.pt h2.pw, ev_orT h1.ev h2.ev⟩
theorem RW.rt (h : RW X e t m) : RT X e t m := ⟨h.pw.pt, h.ev⟩
theorem re_not (ha : RE X a ta f) : RE X (.UnaryOp .Not a pos) (tNotV ta) (mNotV f) := ⟨pe_not ha.pe, ev_notV ha.ev⟩
theorem re_one {op} (ha : RE X a ta f) : RE X (.BoolOp op [a] pos) ta f := ⟨pe_one ha.pe, ha.ev⟩
theorem re_and (ha : RE X a ta f) (hb : RE X (.BoolOp .And (b :: rest) pos) tb h) : RE X (.BoolOp .And (a :: b :: rest) pos) (tAndV ta tb) (mAndV f h) := ⟨pe_and ha.pe hb.pe, ev_andV ha.ev hb.ev⟩
theorem re_or (ha : RE X a ta f) (hb : RE X (.BoolOp .Or (b :: rest) pos) tb h) : RE X (.BoolOp .Or (a :: b :: rest) pos) (tOrV ta tb) (mOrV f h) := ⟨pe_or ha.pe hb.pe, ev_orV ha.ev hb.ev⟩
theorem re_if (hc : RT X c t m) (ha : RE X a ta f) (hb : RE X b tb h) : RE X (.IfExp c a b pos) (tIf t ta tb) (mIf m f h) := ⟨pe_ifExp hc.pt ha.pe hb.pe, ev_if hc.ev ha.ev hb.ev⟩
end

/-! ### argument lists, displays -/
def mNil : ML := fun E => some ([], E)
def mCons (f : MX) (g : ML) : ML := fun E => (f E).bind fun p => (g p.2).bind fun q => some (p.1 :: q.1, q.2)
def aNil : MG := fun E => some ([], E)
def aD (f : MX) (g : MG) : MG := fun E => (f E).bind fun p => (g p.2).bind fun q => some (.d p.1 :: q.1, q.2)
def aS (i : Nat) (g : MG) : MG := fun E => (g E).bind fun q => some (.s i :: q.1, q.2)
def aSl (i : Nat) (a : MG) : MG := fun E => match E[i]? with
  | some (Sl.own _) => aS i a E
  | some (Sl.dat _) => aS i a E
  | _ => none
section
variable {K : PySem.W.Frag} {te : TE} {ta : TA} {f : MX} {g : ML} {a : MG}
theorem ev_nil : EvL K tNil mNil := by
  intro E d E' e σ H H1 R Q q
  cases e
  exact q [] H H1 .refl R .nil
theorem ev_cons (h : EvX K te f) (hr : EvL K ta g) : EvL K (tCons te ta) (mCons f g) := by
  intro E d E' e σ H H1 R Q q
  obtain ⟨⟨d1, E1⟩, e1, e⟩ := bnd e
  obtain ⟨⟨d2, E2⟩, e2, e⟩ := bnd e
  cases e
  exact h E d1 E1 e1 σ H H1 R _ fun v Ha Hb st R1 r1 => hr E1 d2 E2 e2 σ Ha Hb R1 _ fun vs Hc Hd st2 R2 r2 => q _ Hc Hd (st.trans st2) R2 (.cons (r1.mono (.of st2.ex)) r2)
theorem ag_nil : EvG K tNil aNil := by
  intro E d E' e σ H H1 R Q q
  cases e
  exact q [] H H1 .refl R .nil
theorem ag_d (h : EvX K te f) (hr : EvG K ta a) : EvG K (tCons te ta) (aD f a) := by
  intro E d E' e σ H H1 R Q q
  obtain ⟨⟨d1, E1⟩, e1, e⟩ := bnd e
  obtain ⟨⟨d2, E2⟩, e2, e⟩ := bnd e
  cases e
  exact h E d1 E1 e1 σ H H1 R _ fun v Ha Hb st R1 r1 => hr E1 d2 E2 e2 σ Ha Hb R1 _ fun vs Hc Hd st2 R2 r2 => q _ Hc Hd (st.trans st2) R2 (.cons (.d (r1.mono (.of st2.ex))) r2)
theorem ag_s {i : Nat} (hr : EvG K ta a) : EvG K (tCons (tVar i) ta) (aSl i a) := by
  intro E d E' e σ H H1 R Q q
  have hv : ∃ v, σ[i]? = some (some v) := by
    unfold aSl at e
    split at e
    · rename_i o h
      obtain ⟨p, e1, _⟩ := R.atS i _ h
      exact ⟨_, e1⟩
    · rename_i o h
      obtain ⟨p, e1, _⟩ := R.atS i _ h
      exact ⟨_, e1⟩
    · cases e
  have e' : aS i a E = some (d, E') := by
    unfold aSl at e
    split at e
    · exact e
    · exact e
    · cases e
  obtain ⟨⟨d2, E2⟩, e2, e3⟩ := bnd e'
  cases e3
  obtain ⟨v, hv⟩ := hv
  exact ⟨v, hv, hr E d2 E2 e2 σ H H1 R _ fun vs Hc Hd st2 R2 r2 => q _ Hc Hd st2 R2 (.cons (.s hv) r2)⟩
end
section
variable {X : Cx} {e : Expr} {es : List Expr} {te : TE} {ta : TA} {f : MX} {g : ML} {a : MG} {pos : Pos}
theorem rl_nil : RL X [] tNil mNil := ⟨pa_nil, ev_nil⟩
theorem rl_cons (h : RE X e te f) (hr : RL X es ta g) (hs : starEach (e :: es) X.env = (false, eval e X.env) :: starEach es X.env := by rfl) : RL X (e :: es) (tCons te ta) (mCons f g) := ⟨pa_cons h.pe hr.pa hs, ev_cons h.ev hr.ev⟩
theorem rg_nil : RG X [] tNil aNil := ⟨pa_nil, ag_nil⟩
theorem rg_d (h : RE X e te f) (hr : RG X es ta a) (hs : starEach (e :: es) X.env = (false, eval e X.env) :: starEach es X.env := by rfl) : RG X (e :: es) (tCons te ta) (aD f a) := ⟨pa_cons h.pe hr.pa hs, ag_d h.ev hr.ev⟩
theorem rg_s (i : Nat) {x : Str} {p : Pos} (hr : RG X es ta a) (hN : X.N[i]? = some x := by rfl) (hv : Vis X.env.scope x := by first | exact Or.inl rfl | exact Or.inr (Or.inl rfl) | exact Or.inr (Or.inr rfl)) (hd : (x == ("__debug__" : Str)) = false := by decide)
    (hcd : (x == ("__classdict__" : Str)) = false := by decide) (hs : starEach (.Name x p :: es) X.env = (false, eval (.Name x p) X.env) :: starEach es X.env := by rfl) : RG X (.Name x p :: es) (tCons (tVar i) ta) (aSl i a) := ⟨pa_cons (pe_var hN hv hd hcd) hr.pa hs, ag_s hr.ev⟩
end
/-- a tuple is data, a list is an own object -/
def mTup (g : ML) : MX := fun E => (g E).bind fun p => if p.1.length ≤ sizeLine then some (.tuple p.1, p.2) else none
def oLst (g : ML) : MO := fun E => (g E).bind fun p => if p.1.length ≤ sizeLine then some (.lst p.1, p.2) else none
def mOf (o : MO) : MX := fun E => (o E).bind fun p => some (p.1.data, p.2)
section
variable {K : PySem.W.Frag} {te : TE} {ta : TA} {f : MX} {g : ML} {o : MO}
theorem ev_tup (h : EvL K ta g) : EvX K (tTup ta) (mTup g) := by
  intro E d E' e σ H H1 R Q q
  obtain ⟨⟨ds, E1⟩, e1, e⟩ := bnd e
  split at e
  · rename_i hl
    cases e
    refine h E ds E1 e1 σ H H1 R _ fun vs Ha Hb st R1 r1 => ⟨by rw [r1.length]; exact hl, fun p hp => ?_⟩
    have n := Nw.one (o := .tup vs) R1.le hp
    exact q _ _ _ (st.trans (n.stp _)) (R1.nw n) (.tup upd_same (r1.mono (.of n.ex)))
  · cases e
/-- a fresh own list over what stands -/
theorem EnvR.newOwn {E : En} {σ : L2.St} {H H1 : Hp} (R : EnvR K E σ H H1) {p : Addr} {u : HO} (hp : H1 p = none) : Stp (Owns E σ) H H1 (Owns E σ) H (upd H1 p u) ∧ EnvR K E σ H (upd H1 p u) ∧ H p = none ∧ ¬ Owns E σ p := by
  have nO : ¬ Owns E σ p := fun z => (R.there z).2 hp
  refine ⟨⟨Same.refl _, fun a w e _ => ?_, fun a h => .inl h, fun a h => ?_, fun a h => .inl h⟩, ⟨R.le.post (same_upd hp), R.len, fun i s e => ?_, R.sep⟩, R.le.none hp, nO⟩
  · rw [upd_ne (ne_of_none e hp)]; exact e
  · by_cases z : a = p
    · subst z; exact hp
    · rw [upd_ne z] at h; exact h
  · have z := R.atS i s e
    cases s with
    | no => trivial
    | dat d => exact z
    | own o =>
      obtain ⟨b, f1, f2, f3⟩ := z
      exact ⟨b, f1, f2, f3.move (Le.refl _) fun w q => by rw [upd_ne (ne_of_none q hp)]; exact q⟩
theorem ev_lst (h : EvL K ta g) : EvO K (tLst ta) (oLst g) := by
  intro E d E' e σ H H1 R Q q
  obtain ⟨⟨ds, E1⟩, e1, e⟩ := bnd e
  split at e
  · rename_i hl
    cases e
    refine h E ds E1 e1 σ H H1 R _ fun vs Ha Hb st R1 r1 => ⟨by rw [r1.length]; exact hl, fun p hp => ?_⟩
    obtain ⟨s2, R2, h0, nO⟩ := R1.newOwn (u := .lst vs) hp
    exact q p Ha _ (st.trans s2) R2 (.inl (st.dm p hp)) h0 nO ⟨vs, upd_same, r1⟩
  · cases e
theorem Own.rp {H H1 : Hp} {p : Addr} {o : Own} (h0 : H p = none) (ho : OwnAt K H H1 p o) : ∃ u, H1 p = some u ∧ Rp K (upd H p u) (.ref p) o.data := ho.ho' h0
/-- a fresh own object taken as data -/
theorem ev_of (h : EvO K te o) : EvX K te (mOf o) := by
  intro E d E' e σ H H1 R Q q
  obtain ⟨⟨ob, E1⟩, e1, e⟩ := bnd e
  cases e
  refine h E ob E1 e1 σ H H1 R _ fun p Ha Hb st R1 h1 h0 nO ho => ?_
  obtain ⟨u, hu, r⟩ := ho.ho' h0
  have ex : Same Ha (upd Ha p u) := same_upd h0
  refine q (.ref p) (upd Ha p u) Hb ⟨st.ex.trans ex, st.fr, fun a ha => ?_, st.dm, st.ow⟩ ⟨le_frz R1.le hu, R1.len, fun i s z => ?_, R1.sep⟩ r
  · by_cases z : a = p
    · subst z; exact h1.elim (fun y => .inr (.inl y)) fun y => .inr (.inr y)
    · exact st.nw a (upd_some ha z)
  · have w := R1.atS i s z
    cases s with
    | no => trivial
    | dat d => obtain ⟨v, f1, f2⟩ := w; exact ⟨v, f1, f2.mono (.of ex)⟩
    | own o2 =>
      obtain ⟨b, f1, f2, f3⟩ := w
      have nb : b ≠ p := fun y => nO (y ▸ ⟨i, o2, z, f1⟩)
      exact ⟨b, f1, by rw [upd_ne nb]; exact f2, f3.move (.of ex) fun w z => z⟩
end
section
variable {X : Cx} {e : Expr} {es : List Expr} {te : TE} {ta : TA} {f : MX} {g : ML} {o : MO} {pos : Pos}
theorem re_tup {x1} (h : RL X es ta g) : RE X (.Tuple es x1 pos) (tTup ta) (mTup g) := ⟨pe_tup h.pa, ev_tup h.ev⟩
theorem ro_lst (h : RL X es ta g) : RO X (.List es pos) (tLst ta) (oLst g) := ⟨pe_lst h.pa, ev_lst h.ev⟩
theorem RO.re (h : RO X e te o) : RE X e te (mOf o) := ⟨h.pe, ev_of h.ev⟩
end
end Dm

/-! Dm: calls, statements, loops, defs. -/
namespace Dm
open PySem PySem.Spec PyProof.Rows L2

/-! ### calls of the program's own defs -/
/-- a def by its mirror: the arguments' slots in, the answer and the arguments' slots behind it out -/
abbrev MF := List Sl → Option (PyData × List Sl)
def spD (K : PySem.W.Frag) (n : Nat) (f : MF) : Sp := fun vs H1 Q _ => vs.length = n ∧ ∃ H E d E', f E = some (d, E') ∧ EnvR K E (vs.map some) H H1 ∧
  ∀ v H' H2, Stp (Owns E (vs.map some)) H H1 (Owns E' (vs.map some)) H' H2 → EnvR K E' (vs.map some) H' H2 → Rp K H' v d → Q v H2
def argS (E : En) : Arg → Sl
  | .d x => .dat x
  | .s i => E.getD i .no
def argEn (E : En) (as : List Arg) : List Sl := as.map (argS E)
def putBack : List Arg → List Sl → En → En
  | .s i :: as, s :: ss, E => putBack as ss (E.set i s)
  | .d _ :: as, _ :: ss, E => putBack as ss E
  | _, _, E => E
def slotsOf : List Arg → List Nat
  | .s i :: as => i :: slotsOf as
  | .d _ :: as => slotsOf as
  | [] => []
def mCall (fh : MF) (a : MG) : MX := fun E => (a E).bind fun p => if (slotsOf p.1).Nodup then (fh (argEn p.2 p.1)).bind fun q => some (q.1, putBack p.1 q.2 p.2) else none

section
variable {K : PySem.W.Frag} {E : En} {σ : L2.St} {H H1 H' H2 : Hp}
theorem ArgsAt.length : ∀ {vs : List V} {as : List Arg}, ArgsAt K H σ vs as → vs.length = as.length
  | _, _, .nil => rfl
  | _, _, .cons _ t => by rw [List.length_cons, List.length_cons, ArgsAt.length t]
theorem ArgsAt.get : ∀ {vs : List V} {as : List Arg} {k : Nat} {a : Arg}, ArgsAt K H σ vs as → as[k]? = some a → ∃ v, vs[k]? = some v ∧ ArgAt K H σ v a
  | _, _, _, _, .nil, e => by simp at e
  | _, _, 0, _, .cons r _, e => by simp at e; subst e; exact ⟨_, rfl, r⟩
  | _, _, k + 1, _, .cons _ t, e => by
    obtain ⟨v, h1, h2⟩ := ArgsAt.get (k := k) t (by simpa using e)
    exact ⟨v, by simpa using h1, h2⟩
theorem slot_mem : ∀ {as : List Arg} {k i : Nat}, as[k]? = some (.s i) → i ∈ slotsOf as
  | [], _, _, e => by simp at e
  | a :: as, 0, i, e => by
    simp at e; subst e
    exact List.mem_cons_self
  | a :: as, k + 1, i, e => by
    have h := slot_mem (as := as) (k := k) (i := i) (by simpa using e)
    cases a with
    | d x => exact h
    | s j => exact List.mem_cons_of_mem _ h
theorem slot_at : ∀ {as : List Arg} {i : Nat}, i ∈ slotsOf as → ∃ k : Nat, as[k]? = some (.s i)
  | [], _, h => by cases h
  | .d x :: as, i, h => by
    obtain ⟨k, e⟩ := slot_at (as := as) h
    exact ⟨k + 1, by simpa using e⟩
  | .s j :: as, i, h => by
    rcases List.mem_cons.mp h with rfl | h
    · exact ⟨0, rfl⟩
    · obtain ⟨k, e⟩ := slot_at (as := as) h
      exact ⟨k + 1, by simpa using e⟩
theorem slot_inj : ∀ {as : List Arg} {k l i : Nat}, (slotsOf as).Nodup → as[k]? = some (.s i) → as[l]? = some (.s i) → k = l
  | [], _, _, _, _, e, _ => by simp at e
  | .d x :: as, k, l, i, n, e1, e2 => by
    cases k with
    | zero => simp at e1
    | succ k =>
      cases l with
      | zero => simp at e2
      | succ l => exact congrArg (· + 1) (slot_inj (as := as) (i := i) n (by simpa using e1) (by simpa using e2))
  | .s j :: as, k, l, i, n, e1, e2 => by
    obtain ⟨n1, n2⟩ := List.nodup_cons.mp n
    cases k with
    | zero =>
      cases l with
      | zero => rfl
      | succ l =>
        simp at e1; subst e1
        exact absurd (slot_mem (as := as) (k := l) (by simpa using e2)) n1
    | succ k =>
      cases l with
      | zero =>
        simp at e2; subst e2
        exact absurd (slot_mem (as := as) (k := k) (by simpa using e1)) n1
      | succ l => exact congrArg (· + 1) (slot_inj (as := as) (i := i) n2 (by simpa using e1) (by simpa using e2))
theorem putBack_length : ∀ (as : List Arg) (ss : List Sl) (E : En), (putBack as ss E).length = E.length
  | [], _, _ => by unfold putBack; rfl
  | .s i :: as, [], E => by unfold putBack; rfl
  | .d i :: as, [], E => by unfold putBack; rfl
  | .s i :: as, s :: ss, E => by unfold putBack; rw [putBack_length as ss, List.length_set]
  | .d i :: as, s :: ss, E => by unfold putBack; rw [putBack_length as ss]
theorem putBack_out : ∀ (as : List Arg) (ss : List Sl) (E : En) (j : Nat), j ∉ slotsOf as → (putBack as ss E)[j]? = E[j]?
  | [], _, _, _, _ => by unfold putBack; rfl
  | .s i :: as, [], E, _, _ => by unfold putBack; rfl
  | .d i :: as, [], E, _, _ => by unfold putBack; rfl
  | .s i :: as, s :: ss, E, j, h => by
    have h' : j ≠ i ∧ j ∉ slotsOf as := by
      constructor
      · rintro rfl; exact h List.mem_cons_self
      · exact fun z => h (List.mem_cons_of_mem _ z)
    unfold putBack
    rw [putBack_out as ss _ j h'.2, List.getElem?_set_ne (Ne.symm h'.1)]
  | .d i :: as, s :: ss, E, j, h => by unfold putBack; exact putBack_out as ss _ j h
theorem putBack_in : ∀ (as : List Arg) (ss : List Sl) (E : En) (j : Nat) (s : Sl), (slotsOf as).Nodup → ss.length = as.length → j ∈ slotsOf as → (putBack as ss E)[j]? = some s → ∃ k : Nat, as[k]? = some (.s j) ∧ ss[k]? = some s
  | [], _, _, _, _, _, _, h, _ => by cases h
  | a :: as, [], _, _, _, _, hl, _, _ => by simp at hl
  | .d i :: as, t :: ss, E, j, s, n, hl, h, e => by
    unfold putBack at e
    obtain ⟨k, e1, e2⟩ := putBack_in as ss E j s n (by simpa using hl) h e
    exact ⟨k + 1, by simpa using e1, by simpa using e2⟩
  | .s i :: as, t :: ss, E, j, s, n, hl, h, e => by
    obtain ⟨n1, n2⟩ := List.nodup_cons.mp n
    unfold putBack at e
    by_cases hj : j ∈ slotsOf as
    · obtain ⟨k, e1, e2⟩ := putBack_in as ss _ j s n2 (by simpa using hl) hj e
      exact ⟨k + 1, by simpa using e1, by simpa using e2⟩
    · rw [putBack_out as ss _ j hj] at e
      have ij : i = j := by
        rcases List.mem_cons.mp h with z | z
        · exact z.symm
        · exact absurd z hj
      subst ij
      rcases set_get e with ⟨_, z, _⟩ | ⟨z, _⟩
      · exact ⟨0, rfl, by simp [z]⟩
      · exact absurd rfl z
theorem getD_some {α : Type} {l : List α} {i : Nat} {d x : α} (h : l[i]? = some x) : l.getD i d = x := by
  rw [List.getD_eq_getElem?_getD, h]; rfl
/-- the arguments as the callee's slots -/
theorem EnvR.args (R : EnvR K E σ H H1) {vs : List V} {as : List Arg} (r : ArgsAt K H σ vs as) (nd : (slotsOf as).Nodup) : EnvR K (argEn E as) (vs.map some) H H1 := by
  have back : ∀ {k : Nat} {o : Own} {a : Addr}, (argEn E as)[k]? = some (Sl.own o) → (vs.map some)[k]? = some (some (V.ref a)) → ∃ i, as[k]? = some (.s i) ∧ E[i]? = some (.own o) ∧ σ[i]? = some (some (.ref a)) := by
    intro k o a h1 h2
    unfold argEn at h1
    rw [List.getElem?_map] at h1 h2
    obtain ⟨x, e1, e2⟩ := Option.map_eq_some_iff.mp h1
    obtain ⟨v, f1, f2⟩ := Option.map_eq_some_iff.mp h2
    cases f2
    obtain ⟨v', g1, g2⟩ := r.get e1
    rw [f1] at g1
    cases g1
    cases g2 with
    | d q => cases e2
    | s q =>
      rename_i i
      refine ⟨i, e1, ?_, q⟩
      have e3 : E.getD i .no = .own o := e2
      rw [List.getD_eq_getElem?_getD] at e3
      cases z : E[i]? with
      | none => rw [z] at e3; cases e3
      | some s => rw [z] at e3; exact congrArg some e3
  refine ⟨R.le, by rw [List.length_map, argEn, List.length_map, r.length], fun k s e => ?_, fun k l o o' a e1 e2 e3 e4 => ?_⟩
  · unfold argEn at e
    rw [List.getElem?_map] at e
    obtain ⟨x, e1, e2⟩ := Option.map_eq_some_iff.mp e
    obtain ⟨v, f1, f2⟩ := r.get e1
    rw [List.getElem?_map, f1]
    cases f2 with
    | d q => subst e2; exact ⟨v, rfl, q⟩
    | s q =>
      rename_i i
      have e3 : E.getD i .no = s := e2
      rw [List.getD_eq_getElem?_getD] at e3
      cases z : E[i]? with
      | none => rw [z] at e3; subst e3; trivial
      | some s' =>
        rw [z] at e3
        have e4 : s' = s := e3
        subst e4
        have w := R.atS i s' z
        rw [q] at w
        exact w
  · obtain ⟨i, g1, g2, g3⟩ := back e1 e3
    obtain ⟨j, h1, h2, h3⟩ := back e2 e4
    have ij := R.sep i j o o' a g2 h2 g3 h3
    subst ij
    exact slot_inj nd g1 h1
theorem owns_args {vs : List V} {as : List Arg} (r : ArgsAt K H σ vs as) {a : Addr} (h : Owns (argEn E as) (vs.map some) a) : ∃ (k i : Nat) (o : Own), as[k]? = some (.s i) ∧ E[i]? = some (.own o) ∧ σ[i]? = some (some (.ref a)) := by
  obtain ⟨k, o, h1, h2⟩ := h
  unfold argEn at h1
  rw [List.getElem?_map] at h1 h2
  obtain ⟨x, e1, e2⟩ := Option.map_eq_some_iff.mp h1
  obtain ⟨v, f1, f2⟩ := Option.map_eq_some_iff.mp h2
  cases f2
  obtain ⟨v', g1, g2⟩ := r.get e1
  rw [f1] at g1
  cases g1
  cases g2 with
  | d q => cases e2
  | s q =>
    rename_i i
    refine ⟨k, i, o, e1, ?_, q⟩
    have e3 : E.getD i .no = .own o := e2
    rw [List.getD_eq_getElem?_getD] at e3
    cases z : E[i]? with
    | none => rw [z] at e3; cases e3
    | some s => rw [z] at e3; exact congrArg some e3
/-- behind the call -/
theorem EnvR.back (R : EnvR K E σ H H1) {vs : List V} {as : List Arg} {Ec : List Sl} (r : ArgsAt K H σ vs as) (nd : (slotsOf as).Nodup)
    (st : Stp (Owns (argEn E as) (vs.map some)) H H1 (Owns Ec (vs.map some)) H' H2) (Rc : EnvR K Ec (vs.map some) H' H2) :
    EnvR K (putBack as Ec E) σ H' H2 ∧ Stp (Owns E σ) H H1 (Owns (putBack as Ec E) σ) H' H2 := by
  have lenc : Ec.length = as.length := by
    have h := Rc.len
    rw [List.length_map, r.length] at h
    exact h.symm
  -- an own slot that was not handed over
  have away : ∀ {j : Nat} {o : Own} {p : Addr}, j ∉ slotsOf as → E[j]? = some (.own o) → σ[j]? = some (some (.ref p)) → ¬ Owns (argEn E as) (vs.map some) p := by
    intro j o p hj e1 e2 z
    obtain ⟨k, i, o', f1, f2, f3⟩ := owns_args r z
    have ij := R.sep i j o' o p f2 e1 f3 e2
    subst ij
    exact hj (slot_mem f1)
  have inn : ∀ {j : Nat} {s : Sl}, j ∈ slotsOf as → (putBack as Ec E)[j]? = some s → ∃ (k : Nat) (v : V), as[k]? = some (.s j) ∧ Ec[k]? = some s ∧ vs[k]? = some v ∧ σ[j]? = some (some v) := by
    intro j s hj e
    obtain ⟨k, e1, e2⟩ := putBack_in as Ec E j s nd lenc hj e
    obtain ⟨v, f1, f2⟩ := r.get e1
    cases f2 with
    | s q => exact ⟨k, v, e1, e2, f1, q⟩
  have hO : ∀ a, Owns (argEn E as) (vs.map some) a → Owns E σ a := fun a h => by
    obtain ⟨k, i, o, f1, f2, f3⟩ := owns_args r h
    exact ⟨i, o, f2, f3⟩
  have hO' : ∀ a, Owns (putBack as Ec E) σ a → Owns E σ a ∨ H1 a = none := fun a ⟨j, o, e1, e2⟩ => by
    by_cases hj : j ∈ slotsOf as
    · obtain ⟨k, v, f1, f2, f3, f4⟩ := inn hj e1
      rw [e2] at f4
      cases f4
      have z : Owns Ec (vs.map some) a := ⟨k, o, f2, by rw [List.getElem?_map, f3]; rfl⟩
      exact (st.ow a z).imp (hO a) id
    · rw [putBack_out as Ec E j hj] at e1
      exact .inl ⟨j, o, e1, e2⟩
  refine ⟨⟨Rc.le, by rw [putBack_length]; exact R.len, fun j s e => ?_, fun i j o o' a e1 e2 e3 e4 => ?_⟩, ⟨st.ex, fun a o e n => st.fr a o e fun z => n (hO a z), fun a h => (st.nw a h).imp id (Or.imp id (hO a)), st.dm, hO'⟩⟩
  · by_cases hj : j ∈ slotsOf as
    · obtain ⟨k, v, f1, f2, f3, f4⟩ := inn hj e
      have w := Rc.atS k s f2
      rw [List.getElem?_map, f3] at w
      rw [f4]
      exact w
    · rw [putBack_out as Ec E j hj] at e
      have w := R.atS j s e
      cases s with
      | no => trivial
      | dat d => obtain ⟨v, g1, g2⟩ := w; exact ⟨v, g1, g2.mono (.of st.ex)⟩
      | own o =>
        obtain ⟨p, g1, g2, g3⟩ := w
        have np := away hj e g1
        refine ⟨p, g1, ?_, g3.move (.of st.ex) fun u z => st.fr p u z np⟩
        cases z : H' p with
        | none => rfl
        | some u =>
          rcases st.nw p (by rw [z]; exact fun q => nomatch q) with y | y | y
          · exact absurd g2 y
          · exact absurd y g3.there
          · exact absurd y np
  · -- two own slots at one address
    have key : ∀ {i j : Nat} {o o' : Own} {a : Addr}, i ∈ slotsOf as → j ∉ slotsOf as → (putBack as Ec E)[i]? = some (.own o) → (putBack as Ec E)[j]? = some (.own o') → σ[i]? = some (some (.ref a)) → σ[j]? = some (some (.ref a)) → False := by
      intro i j o o' a hi hj e1 e2 e3 e4
      obtain ⟨k, v, f1, f2, f3, f4⟩ := inn hi e1
      rw [e3] at f4
      cases f4
      rw [putBack_out as Ec E j hj] at e2
      rcases st.ow a ⟨k, o, f2, by rw [List.getElem?_map, f3]; rfl⟩ with z | z
      · exact away hj e2 e4 z
      · exact (R.there ⟨j, o', e2, e4⟩).2 z
    by_cases hi : i ∈ slotsOf as
    · by_cases hj : j ∈ slotsOf as
      · obtain ⟨k, v, f1, f2, f3, f4⟩ := inn hi e1
        obtain ⟨l, w, g1, g2, g3, g4⟩ := inn hj e2
        rw [e3] at f4
        rw [e4] at g4
        cases f4
        cases g4
        have kl := Rc.sep k l o o' a f2 g2 (by rw [List.getElem?_map, f3]; rfl) (by rw [List.getElem?_map, g3]; rfl)
        subst kl
        rw [f1] at g1
        cases g1
        rfl
      · exact (key hi hj e1 e2 e3 e4).elim
    · by_cases hj : j ∈ slotsOf as
      · exact (key hj hi e2 e1 e4 e3).elim
      · rw [putBack_out as Ec E i hi] at e1
        rw [putBack_out as Ec E j hj] at e2
        exact R.sep i j o o' a e1 e2 e3 e4
theorem ev_call {fh : MF} {a : MG} {ta : TA} {n : Nat} {Ex : XK} (ha : EvG K ta a) (hn : ∀ E as E', a E = some (as, E') → as.length = n) : EvX K (tCall (spD K n fh) [] Ex ta) (mCall fh a) := by
  intro E d E' e σ H H1 R Q q
  obtain ⟨⟨as, E1⟩, e1, e⟩ := bnd e
  split at e
  · rename_i nd
    obtain ⟨⟨d1, Ec⟩, e2, e⟩ := bnd e
    cases e
    refine ha E as E1 e1 σ H H1 R _ fun vs Ha Hb st R1 r1 => ?_
    refine ⟨by rw [List.append_nil, r1.length]; exact hn _ _ _ e1, Ha, argEn E1 as, d1, Ec, e2, by rw [List.append_nil]; exact R1.args r1 nd, fun v Hc Hd stc Rc rv => ?_⟩
    rw [List.append_nil] at stc Rc
    obtain ⟨R2, st2⟩ := R1.back r1 nd stc Rc
    exact q v Hc Hd (st.trans st2) R2 rv
  · cases e
end

/-! ### statements -/
inductive Out where
  | nx (E : En) | rt (d : PyData) (E : En) | bk (E : En) | ct (E : En) | ro (o : Own) (E : En)
abbrev MS := En → Option Out
def Keep (io : List Nat) (σ σ' : L2.St) : Prop := ∀ i ∈ io, σ'[i]? = σ[i]?
section
variable (K : PySem.W.Frag)
structure Goes (io : List Nat) (E : En) (σ : L2.St) (H H1 : Hp) (E' : En) (σ' : L2.St) (H' H2 : Hp) : Prop where
  st : Stp (Owns E σ) H H1 (Owns E' σ') H' H2
  env : EnvR K E' σ' H' H2
  keep : Keep io σ σ'
def OutR (io : List Nat) (E : En) (σ : L2.St) (H H1 : Hp) (Dn : Ends) : Out → Prop
  | .nx E' => ∀ σ' H' H2, Goes K io E σ H H1 E' σ' H' H2 → Dn.nx σ' H2
  | .bk E' => ∀ σ' H' H2, Goes K io E σ H H1 E' σ' H' H2 → Dn.bk σ' H2
  | .ct E' => ∀ σ' H' H2, Goes K io E σ H H1 E' σ' H' H2 → Dn.ct σ' H2
  | .rt d E' => ∀ σ' v H' H2, Goes K io E σ H H1 E' σ' H' H2 → Rp K H' v d → Dn.rt v H2
  | .ro o E' => ∀ σ' p H' H2, Goes K io E σ H H1 E' σ' H' H2 → (H1 p = none ∨ Owns E σ p) → H' p = none → ¬ Owns E' σ' p → OwnAt K H' H2 p o → Dn.rt (.ref p) H2
def StX (io : List Nat) (ts : TS) (f : MS) : Prop := ∀ E out, f E = some out → ∀ σ H H1, EnvR K E σ H H1 → ∀ Dn : Ends, OutR K io E σ H H1 Dn out → ts Dn σ H1
end
structure RS (X : Cx) (io : List Nat) (st : Stmt) (ts : TS) (f : MS) : Prop where
  ps : PS X st ts
  ev : StX X.K io ts f
structure RB (X : Cx) (io : List Nat) (st : List Stmt) (ts : TS) (f : MS) : Prop where
  ps : PSs X st ts
  ev : StX X.K io ts f
section
variable {K : PySem.W.Frag} {io : List Nat} {E E' E'' : En} {σ σ' σ'' : L2.St} {H H1 H' H2 H'' H3 : Hp}
theorem Keep.refl : Keep io σ σ := fun _ _ => rfl
theorem Keep.trans (a : Keep io σ σ') (b : Keep io σ' σ'') : Keep io σ σ'' := fun i h => (b i h).trans (a i h)
theorem Keep.set {i : Nat} {x : Option V} (h : i ∉ io) : Keep io σ (σ.set i x) := fun j hj => by
  have ne : i ≠ j := by rintro rfl; exact h hj
  rw [List.getElem?_set_ne ne]
theorem Goes.refl (R : EnvR K E σ H H1) : Goes K io E σ H H1 E σ H H1 := ⟨.refl, R, .refl⟩
theorem Goes.trans (a : Goes K io E σ H H1 E' σ' H' H2) (b : Goes K io E' σ' H' H2 E'' σ'' H'' H3) : Goes K io E σ H H1 E'' σ'' H'' H3 := ⟨a.st.trans b.st, b.env, a.keep.trans b.keep⟩
theorem OutR.pre {Dn : Ends} {out : Out} (g : Goes K io E σ H H1 E' σ' H' H2) (h : OutR K io E σ H H1 Dn out) : OutR K io E' σ' H' H2 Dn out := by
  cases out with
  | nx E2 => exact fun σ2 Ha Hb q => h σ2 Ha Hb (g.trans q)
  | bk E2 => exact fun σ2 Ha Hb q => h σ2 Ha Hb (g.trans q)
  | ct E2 => exact fun σ2 Ha Hb q => h σ2 Ha Hb (g.trans q)
  | rt d E2 => exact fun σ2 v Ha Hb q r => h σ2 v Ha Hb (g.trans q) r
  | ro o E2 => exact fun σ2 p Ha Hb q h1 h2 h3 h4 => h σ2 p Ha Hb (g.trans q) (h1.elim (fun z => .inl (g.st.dm p z)) fun z => (g.st.ow p z).symm) h2 h3 h4
end
def sSeq (f g : MS) : MS := fun E => (f E).bind fun o => match o with
  | .nx E1 => g E1
  | o => some o
def sNx : MS := fun E => some (.nx E)
def sAsg (i : Nat) (f : MX) : MS := fun E => (f E).bind fun p => some (.nx (p.2.set i (.dat p.1)))
def sAsgO (i : Nat) (f : MO) : MS := fun E => (f E).bind fun p => some (.nx (p.2.set i (.own p.1)))
def sDrop (f : MX) : MS := fun E => (f E).bind fun p => some (.nx p.2)
def sRet (f : MX) : MS := fun E => (f E).bind fun p => some (.rt p.1 p.2)
def sRetN : MS := fun E => some (.rt .none E)
/-- a fresh own object is handed back; a slot's own object is -/
def sRetO (f : MO) : MS := fun E => (f E).bind fun p => some (.ro p.1 p.2)
def sRetOwn (i : Nat) : MS := fun E => match E[i]? with
  | some (Sl.own o) => some (.ro o (E.set i .no))
  | _ => none
def sIf (c : MT) (f g : MS) : MS := fun E => (c E).bind fun p => if p.1 then f p.2 else g p.2
def sBk : MS := fun E => some (.bk E)
def sCt : MS := fun E => some (.ct E)
section
variable {K : PySem.W.Frag} {io : List Nat} {te : TE} {tt : TT} {t u : TS} {f g : MS} {x : MX} {o : MO} {c : MT}
theorem st_seq' (h1 : StX K io t f) (h2 : StX K io u g) : StX K io (tSeq t u) (sSeq f g) := by
  intro E out e σ H H1 R Dn q
  obtain ⟨o1, e1, e2⟩ := bnd e
  refine h1 E o1 e1 σ H H1 R _ ?_
  cases o1 with
  | nx E1 => exact fun σ' H' H2 gs => h2 E1 out e2 σ' H' H2 gs.env Dn (q.pre gs)
  | bk E1 => cases e2; exact q
  | ct E1 => cases e2; exact q
  | rt d E1 => cases e2; exact q
  | ro o E1 => cases e2; exact q
theorem st_nx : StX K io tNext sNx := by
  intro E out e σ H H1 R Dn q
  cases e
  exact q σ H H1 (.refl R)
theorem st_bk : StX K io tBreak sBk := by
  intro E out e σ H H1 R Dn q
  cases e
  exact q σ H H1 (.refl R)
theorem st_ct : StX K io tCont sCt := by
  intro E out e σ H H1 R Dn q
  cases e
  exact q σ H H1 (.refl R)
theorem st_asg {i : Nat} (hi : i ∉ io) (h : EvX K te x) : StX K io (tAsg te (gName i)) (sAsg i x) := by
  intro E out e σ H H1 R Dn q
  obtain ⟨⟨d, E1⟩, e1, e2⟩ := bnd e
  cases e2
  exact h E d E1 e1 σ H H1 R _ fun v Ha Hb st R1 r => q _ Ha Hb ⟨st.wk fun a z => owns_setDat z, R1.setDat i r, Keep.set hi⟩
theorem st_asgO {i : Nat} (hi : i ∉ io) (h : EvO K te o) : StX K io (tAsg te (gName i)) (sAsgO i o) := by
  intro E out e σ H H1 R Dn q
  obtain ⟨⟨d, E1⟩, e1, e2⟩ := bnd e
  cases e2
  refine h E d E1 e1 σ H H1 R _ fun p Ha Hb st R1 h1 h0 nO ho => q _ Ha Hb ⟨⟨st.ex, st.fr, st.nw, st.dm, fun a z => ?_⟩, R1.setOwn i h0 ho nO, Keep.set hi⟩
  rcases owns_setOwn R1.len z with z | z
  · exact st.ow a z
  · subst z; exact h1.symm
theorem st_drop (h : EvX K te x) : StX K io (tDrop te) (sDrop x) := by
  intro E out e σ H H1 R Dn q
  obtain ⟨⟨d, E1⟩, e1, e2⟩ := bnd e
  cases e2
  exact h E d E1 e1 σ H H1 R _ fun v Ha Hb st R1 r => q _ Ha Hb ⟨st, R1, .refl⟩
theorem st_ret (h : EvX K te x) : StX K io (tRet te) (sRet x) := by
  intro E out e σ H H1 R Dn q
  obtain ⟨⟨d, E1⟩, e1, e2⟩ := bnd e
  cases e2
  exact h E d E1 e1 σ H H1 R _ fun v Ha Hb st R1 r => q _ v Ha Hb ⟨st, R1, .refl⟩ r
theorem st_retO (h : EvO K te o) : StX K io (tRet te) (sRetO o) := by
  intro E out e σ H H1 R Dn q
  obtain ⟨⟨d, E1⟩, e1, e2⟩ := bnd e
  cases e2
  exact h E d E1 e1 σ H H1 R _ fun p Ha Hb st R1 h1 h0 nO ho => q _ p Ha Hb ⟨st, R1, .refl⟩ h1 h0 nO ho
theorem EnvR.drop {E : En} {σ : L2.St} {H H1 : Hp} (R : EnvR K E σ H H1) (i : Nat) : EnvR K (E.set i .no) σ H H1 := by
  refine ⟨R.le, by rw [List.length_set]; exact R.len, fun j s e => ?_, fun j k o o' a e1 e2 e3 e4 => ?_⟩
  · rcases set_get e with ⟨_, rfl, _⟩ | ⟨_, e⟩
    · trivial
    · exact R.atS j s e
  · rcases set_get e1 with ⟨_, z, _⟩ | ⟨_, f1⟩
    · cases z
    · rcases set_get e2 with ⟨_, z, _⟩ | ⟨_, f2⟩
      · cases z
      · exact R.sep j k o o' a f1 f2 e3 e4
theorem st_retOwn {i : Nat} : StX K io (tRet (tVar i)) (sRetOwn i) := by
  intro E out e σ H H1 R Dn q
  unfold sRetOwn at e
  split at e
  · rename_i o ho
    cases e
    obtain ⟨p, e1, h0, hp⟩ := R.atS i _ ho
    have ow : Owns E σ p := ⟨i, o, ho, e1⟩
    refine ⟨_, e1, q σ p H H1 ⟨⟨fun _ _ h => h, fun _ _ h _ => h, fun _ h => .inl h, fun _ h => h, fun a ⟨j, o', f1, f2⟩ => ?_⟩, R.drop i, .refl⟩ (.inr ow) h0 ?_ hp⟩
    · rcases set_get f1 with ⟨_, z, _⟩ | ⟨_, f1⟩
      · cases z
      · exact .inl ⟨j, o', f1, f2⟩
    · rintro ⟨j, o', f1, f2⟩
      rcases set_get f1 with ⟨_, z, _⟩ | ⟨ne, f1⟩
      · cases z
      · exact ne (R.sep i j o o' p ho f1 e1 f2)
  · cases e
theorem st_retN : StX K io tRetN sRetN := by
  intro E out e σ H H1 R Dn q
  cases e
  exact q _ .non H H1 (.refl R) .non
theorem st_if (hc : EvT K tt c) (h1 : StX K io t f) (h2 : StX K io u g) : StX K io (tIfS tt t u) (sIf c f g) := by
  intro E out e σ H H1 R Dn q
  obtain ⟨⟨b, E1⟩, e1, e2⟩ := bnd e
  refine hc E b E1 e1 σ H H1 R _ fun Ha Hb st R1 => ?_
  have gs : Goes K io E σ H H1 E1 σ Ha Hb := ⟨st, R1, .refl⟩
  cases b with
  | true => exact h1 E1 out e2 σ Ha Hb R1 Dn (q.pre gs)
  | false => exact h2 E1 out e2 σ Ha Hb R1 Dn (q.pre gs)
end
section
variable {X : Cx} {io : List Nat} {e c : Expr} {st : Stmt} {rest a b : List Stmt} {te : TE} {tt : TT} {t u : TS} {f g : MS} {x : MX} {o : MO} {m : MT} {pos : Pos}
theorem rb_nil : RB X io [] tNext sNx := ⟨pss_nil, st_nx⟩
theorem rb_one (h : RS X io st t f) : RB X io [st] t f := ⟨pss_one h.ps, h.ev⟩
theorem rb_cons (h : RS X io st t f) (hr : RB X io rest u g) : RB X io (st :: rest) (tSeq t u) (sSeq f g) := ⟨pss_cons h.ps hr.ps, st_seq' h.ev hr.ev⟩
theorem rs_pass : RS X io (.Pass pos) tNext sNx := ⟨ps_pass, st_nx⟩
theorem rs_break : RS X io (.Break pos) tBreak sBk := ⟨ps_break, st_bk⟩
theorem rs_continue : RS X io (.Continue pos) tCont sCt := ⟨ps_continue, st_ct⟩
theorem rs_set {i : Nat} {y : Str} {pos' : Pos} (hN : X.N.Nodup) (hi : X.N[i]? = some y) (hx : Loc X.env.scope y) (hio : i ∉ io) (h : RE X e te x) (hs : swapsWith e (some (.Name y pos')) pos.line X.env = pure false := by rfl)
    (hf : X.fn y = true ∨ X.env.scope.names.lookup y = some .local := by first | exact .inl rfl | exact .inr rfl | assumption) : RS X io (.Assign [.Name y pos'] e pos) (tAsg te (gName i)) (sAsg i x) := ⟨ps_set hN hi hx h.pe hs hf, Dm.st_asg hio h.ev⟩
theorem rs_setO {i : Nat} {y : Str} {pos' : Pos} (hN : X.N.Nodup) (hi : X.N[i]? = some y) (hx : Loc X.env.scope y) (hio : i ∉ io) (h : RO X e te o) (hs : swapsWith e (some (.Name y pos')) pos.line X.env = pure false := by rfl)
    (hf : X.fn y = true ∨ X.env.scope.names.lookup y = some .local := by first | exact .inl rfl | exact .inr rfl | assumption) : RS X io (.Assign [.Name y pos'] e pos) (tAsg te (gName i)) (sAsgO i o) := ⟨ps_set hN hi hx h.pe hs hf, st_asgO hio h.ev⟩
theorem rs_expr (h : RE X e te x) (hs : swapsWith e none pos.line X.env = pure false := by rfl) : RS X io (.Expr e pos) (tDrop te) (sDrop x) := ⟨ps_expr h.pe hs, Dm.st_drop h.ev⟩
theorem rs_ret (h : RE X e te x) : RS X io (.Return (some e) pos) (tRet te) (sRet x) := ⟨ps_ret h.pe, Dm.st_ret h.ev⟩
theorem rs_retO (h : RO X e te o) : RS X io (.Return (some e) pos) (tRet te) (sRetO o) := ⟨ps_ret h.pe, st_retO h.ev⟩
theorem rs_retOwn (i : Nat) {y : Str} {p : Pos} (hN : X.N[i]? = some y := by rfl) (hv : Vis X.env.scope y := by first | exact Or.inl rfl | exact Or.inr (Or.inl rfl) | exact Or.inr (Or.inr rfl)) (hd : (y == ("__debug__" : Str)) = false := by decide)
    (hcd : (y == ("__classdict__" : Str)) = false := by decide) : RS X io (.Return (some (.Name y p)) pos) (tRet (tVar i)) (sRetOwn i) := ⟨ps_ret (pe_var hN hv hd hcd), st_retOwn⟩
theorem rs_retN : RS X io (.Return none pos) tRetN sRetN := ⟨ps_retN, st_retN⟩
theorem rs_if (hc : RT X c tt m) (ha : RB X io a t f) (hb : RB X io b u g) : RS X io (.If c a b pos) (tIfS tt t u) (sIf m f g) := ⟨ps_if hc.pt ha.ps hb.ps, Dm.st_if hc.ev ha.ev hb.ev⟩
end
end Dm

/-! Dm: targets, walks, loops, comprehensions. -/
namespace Dm
open PySem PySem.Spec PyProof.Rows L2

/-! ### targets -/
abbrev MTg := PyData → En → Option En
abbrev MTs := List PyData → En → Option En
section
variable (K : PySem.W.Frag)
structure Stores (vs : List Nat) (E : En) (σ : L2.St) (H H1 : Hp) (E' : En) (σ' : L2.St) : Prop where
  env : EnvR K E' σ' H H1
  own : ∀ a, Owns E' σ' a → Owns E σ a
  out : ∀ j, j ∉ vs → σ'[j]? = σ[j]?
  len : σ'.length = σ.length
def TgX (vs : List Nat) (g : TG) (t : MTg) : Prop := ∀ d E E', t d E = some E' → ∀ v σ H H1, EnvR K E σ H H1 → Rp K H v d → ∀ Q : L2.St → Hp → Prop, (∀ σ', Stores K vs E σ H H1 E' σ' → Q σ' H1) → g v σ H1 Q
def TsX (vs : List Nat) (g : TGs) (t : MTs) : Prop := ∀ ds E E', t ds E = some E' → ∀ ws σ H H1, EnvR K E σ H H1 → RpAll K H ws ds → ∀ Q : L2.St → Hp → Prop, (∀ σ', Stores K vs E σ H H1 E' σ' → Q σ' H1) → g ws σ H1 Q
end
structure RTg (X : Cx) (vs : List Nat) (tg : Expr) (g : TG) (t : MTg) : Prop where
  pg : PG X tg g
  ev : TgX X.K vs g t
structure RTs (X : Cx) (vs : List Nat) (es : List Expr) (g : TGs) (t : MTs) : Prop where
  pg : PGs X es g
  ev : TsX X.K vs g t
def gN (i : Nat) : MTg := fun d E => some (E.set i (.dat d))
def gTp (n : Nat) (t : MTs) : MTg := fun d E => match d with
  | .tuple ds => if ds.length = n then t ds E else none
  | _ => none
def gsNil : MTs := fun ds E => match ds with
  | [] => some E
  | _ => none
def gsCons (t : MTg) (u : MTs) : MTs := fun ds E => match ds with
  | d :: r => (t d E).bind fun E1 => u r E1
  | [] => none
section
variable {K : PySem.W.Frag}
theorem tg_name {i : Nat} : TgX K [i] (gName i) (gN i) := by
  intro d E E' e v σ H H1 R r Q q
  cases e
  refine q _ ⟨R.setDat i r, fun a h => owns_setDat h, fun j hj => ?_, List.length_set ..⟩
  have ne : i ≠ j := fun z => hj (by simp [z])
  rw [List.getElem?_set_ne ne]
theorem ts_nil : TsX K [] gNil gsNil := by
  intro d E E' e v σ H H1 R r Q q
  cases r with
  | nil =>
    cases e
    exact ⟨rfl, q _ ⟨R, fun _ h => h, fun _ _ => rfl, rfl⟩⟩
  | cons => cases e
theorem ts_cons {vs ws : List Nat} {g : TG} {t : MTg} {u : TGs} {s : MTs} (h1 : TgX K vs g t) (h2 : TsX K ws u s) : TsX K (vs ++ ws) (gCons g u) (gsCons t s) := by
  intro ds E E' e v σ H H1 R r Q q
  cases r with
  | nil => cases e
  | cons r rr =>
    obtain ⟨E1, e1, e2⟩ := bnd e
    refine ⟨_, _, rfl, h1 _ E E1 e1 _ σ H H1 R r _ fun σ1 s1 => ?_⟩
    refine h2 _ E1 E' e2 _ σ1 H H1 s1.env rr _ fun σ2 s2 => q σ2 ⟨s2.env, fun a h => s1.own a (s2.own a h), fun j hj => ?_, s2.len.trans s1.len⟩
    have hj' : j ∉ vs ∧ j ∉ ws := by rw [List.mem_append] at hj; exact ⟨fun z => hj (.inl z), fun z => hj (.inr z)⟩
    rw [s2.out j hj'.2, s1.out j hj'.1]
theorem tg_tup {vs : List Nat} {n : Nat} {u : TGs} {s : MTs} (h : TsX K vs u s) : TgX K vs (gTup K n u) (gTp n s) := by
  intro d E E' e v σ H H1 R r Q q
  unfold gTp at e
  split at e
  · split at e
    · rename_i hl
      obtain ⟨a, xs, rfl, sq, ra⟩ := r.tup_inv
      exact ⟨a, xs, rfl, R.le.t sq, by rw [ra.length]; exact hl, h _ E E' e xs σ H H1 R ra Q q⟩
    · cases e
  · cases e
end
section
variable {X : Cx} {pos : Pos}
theorem rtg_name {i : Nat} {x : Str} (hN : X.N.Nodup) (hi : X.N[i]? = some x) (hx : Loc X.env.scope x) (hf : X.fn x = true ∨ X.env.scope.names.lookup x = some .local := by first | exact .inl rfl | exact .inr rfl | assumption) : RTg X [i] (.Name x pos) (gName i) (gN i) := ⟨pg_name hN hi hx hf, tg_name⟩
theorem rts_nil : RTs X [] [] gNil gsNil := ⟨pgs_nil, ts_nil⟩
theorem rts_cons {vs ws : List Nat} {e : Expr} {es : List Expr} {g : TG} {t : MTg} {u : TGs} {s : MTs} (h1 : RTg X vs e g t) (h2 : RTs X ws es u s)
    (hs : (assignEach (e :: es) X.env).map (·.2) = assign e X.env :: (assignEach es X.env).map (·.2) := by rfl) : RTs X (vs ++ ws) (e :: es) (gCons g u) (gsCons t s) := ⟨pgs_cons h1.pg h2.pg hs, ts_cons h1.ev h2.ev⟩
theorem rtg_tup {vs : List Nat} {es : List Expr} {k : Nat} {u : TGs} {s : MTs} {n : Nat} (hc : X.calm = true) (h : RTs X vs es u s)
    (hn : (assignEach es X.env).length = n := by rfl) (hst : (assignEach es X.env).findIdx? (·.1) = none := by rfl) : RTg X vs (.Tuple es k pos) (gTup X.K n u) (gTp n s) := ⟨pg_tup hc h.pg hn hst, tg_tup h.ev⟩
end
/-- target = e -/
def sAsgT (t : MTg) (f : MX) : MS := fun E => (f E).bind fun p => (t p.1 p.2).bind fun E1 => some (.nx E1)
def dj (io vs : List Nat) : Bool := io.all fun i => !vs.contains i
theorem dj_out {io vs : List Nat} (h : dj io vs = true) : ∀ i ∈ io, i ∉ vs := fun i hi => by
  have := List.all_eq_true.mp h i hi
  simpa using this
section
variable {K : PySem.W.Frag} {io vs : List Nat} {te : TE} {x : MX} {g : TG} {t : MTg}
theorem Stores.goes {E E' : En} {σ σ' : L2.St} {H H1 : Hp} (hd : dj io vs = true) (s : Stores K vs E σ H H1 E' σ') : Goes K io E σ H H1 E' σ' H H1 :=
  ⟨⟨fun _ _ h => h, fun _ _ h _ => h, fun _ h => .inl h, fun _ h => h, fun a h => .inl (s.own a h)⟩, s.env, fun i hi => s.out i (dj_out hd i hi)⟩
theorem st_asgT (hd : dj io vs = true) (h : EvX K te x) (hg : TgX K vs g t) : StX K io (tAsg te g) (sAsgT t x) := by
  intro E out e σ H H1 R Dn q
  obtain ⟨⟨d, E1⟩, e1, e2⟩ := bnd e
  obtain ⟨E2, e3, e4⟩ := bnd e2
  cases e4
  refine h E d E1 e1 σ H H1 R _ fun v Ha Hb st R1 r => ?_
  refine hg d E1 E2 e3 v σ Ha Hb R1 r _ fun σ' s => ?_
  have g1 : Goes K io E σ H H1 E1 σ Ha Hb := ⟨st, R1, .refl⟩
  exact q σ' Ha Hb (g1.trans (s.goes hd))
end
section
variable {X : Cx} {io vs : List Nat} {tg e : Expr} {te : TE} {x : MX} {g : TG} {t : MTg} {pos : Pos}
theorem rs_asgT (hd : dj io vs = true) (h : RE X e te x) (hg : RTg X vs tg g t) (hs : swapsWithSole [tg] e pos.line X.env = pure false := by rfl) (hw : swappedStores [tg] e X.env = pure none := by rfl)
    (h1 : (assignEach [tg] X.env).map (·.2) = [assign tg X.env] := by rfl) : RS X io (.Assign [tg] e pos) (tAsg te g) (sAsgT t x) := ⟨ps_asg h.pe hg.pg hs hw h1, st_asgT hd h.ev hg.ev⟩
end

/-! ### walks -/
section
variable (K : PySem.W.Frag)
def ItX (J : It) (H : Hp) (Dk : List (Addr × HO)) (xs : List PyData) : Prop := ∀ i H' H2, Same H H' → Le H' H2 → (∀ p ∈ Dk, H2 p.1 = some p.2) →
  (∀ d, xs[i]? = some d → J.go i H2 ∧ ∀ x H3, J.yld i H2 x H3 → ∃ H'', Nw H' H2 H'' H3 ∧ Rp K H'' x d) ∧ (xs.length ≤ i → J.stop i H2)
def EvI (wi : TI) (f : ML) : Prop := ∀ E xs E', f E = some (xs, E') → ∀ σ H H1, EnvR K E σ H H1 → ∀ R : It → Hp → Prop, (∀ J H' H2, Stp (Owns E σ) H H1 (Owns E' σ) H' H2 → EnvR K E' σ H' H2 → ItX K J H' [] xs → R J H2) → wi σ H1 R
end
section
variable {K : PySem.W.Frag} {H : Hp}
theorem itx_l {a : Addr} {ws : List V} {xs : List PyData} (h : SqL K H a ws) (r : RpAll K H ws xs) : ItX K (Itl K a) H [] xs := fun i H' H2 s l _ => by
  have sq : SqL K H2 a ws := l.l ((Le.of s).l h)
  refine ⟨fun d hd => ?_, fun hi => ⟨ws, sq, by rw [r.length]; exact hi⟩⟩
  obtain ⟨v, hv, rv⟩ := r.get hd
  refine ⟨⟨ws, v, sq, hv⟩, fun x H3 y => ?_⟩
  obtain ⟨e, y⟩ := y
  subst e
  have hx := y ws sq
  rw [hv] at hx
  cases hx
  exact ⟨H', Nw.refl l, rv.mono (.of s)⟩
theorem itx_t {a : Addr} {ws : List V} {xs : List PyData} (h : SqT K H a ws) (r : RpAll K H ws xs) : ItX K (Itt K a) H [] xs := fun i H' H2 s l _ => by
  have sq : SqT K H2 a ws := l.t ((Le.of s).t h)
  refine ⟨fun d hd => ?_, fun hi => ⟨ws, sq, by rw [r.length]; exact hi⟩⟩
  obtain ⟨v, hv, rv⟩ := r.get hd
  refine ⟨⟨ws, v, sq, hv⟩, fun x H3 y => ?_⟩
  obtain ⟨e, y⟩ := y
  subst e
  have hx := y ws sq
  rw [hv] at hx
  cases hx
  exact ⟨H', Nw.refl l, rv.mono (.of s)⟩
def rangeD (lo : Int) (n : Nat) : List PyData := (List.range n).map fun (k : Nat) => PyData.int (lo + (k : Int))
theorem itx_r {lo : Int} {n : Nat} : ItX K (Itr lo n) H [] (rangeD lo n) := fun i H' H2 s l _ => by
  refine ⟨fun d hd => ?_, fun hi => by unfold rangeD at hi; rw [List.length_map, List.length_range] at hi; exact hi⟩
  unfold rangeD at hd
  rw [List.getElem?_map] at hd
  obtain ⟨k, e1, e2⟩ := Option.map_eq_some_iff.mp hd
  have hk := List.getElem?_eq_some_iff.mp e1
  obtain ⟨h1, h2⟩ := hk
  rw [List.getElem_range] at h2
  subst h2
  rw [List.length_range] at h1
  refine ⟨h1, fun x H3 y => ?_⟩
  obtain ⟨e, y⟩ := y
  subst e y e2
  exact ⟨H', Nw.refl l, .int _⟩
end
/-- lists, tuples -/
def iSeqT (K : PySem.W.Frag) (te : TE) : TI := fun σ H R => iList K te σ H R ∨ iTup K te σ H R
def seqD : PyData → Option (List PyData)
  | .list ds => some ds
  | .tuple ds => some ds
  | _ => none
def iSq (f : MX) : ML := fun E => (f E).bind fun p => (seqD p.1).bind fun xs => some (xs, p.2)
theorem PI.or {X : Cx} {tg it : Expr} {w1 w2 : TI} (h1 : PI X tg it w1) (h2 : PI X tg it w2) : PI X tg it (fun σ H R => w1 σ H R ∨ w2 σ H R) := ⟨fun pins s σ H R I h => by
  rcases h with h | h
  · exact h1.run pins s σ H R I h
  · exact h2.run pins s σ H R I h⟩
theorem PE.or {X : Cx} {e : Expr} {w1 w2 : TE} (h1 : PE X e w1) (h2 : PE X e w2) : PE X e (fun σ H R => w1 σ H R ∨ w2 σ H R) := ⟨fun pins s σ H R I h => by
  rcases h with h | h
  · exact h1.run pins s σ H R I h
  · exact h2.run pins s σ H R I h⟩
theorem PS.or {X : Cx} {e : Stmt} {w1 w2 : TS} (h1 : PS X e w1) (h2 : PS X e w2) : PS X e (fun D σ H => w1 D σ H ∨ w2 D σ H) := ⟨fun pins s σ H R I h => by
  rcases h with h | h
  · exact h1.run pins s σ H R I h
  · exact h2.run pins s σ H R I h⟩
structure RI (X : Cx) (tg it : Expr) (wi : TI) (f : ML) : Prop where
  pi : PI X tg it wi
  ev : EvI X.K wi f
section
variable {K : PySem.W.Frag} {te : TE} {f : MX} {ta : TA} {g : ML}
theorem ei_seq (h : EvX K te f) : EvI K (iSeqT K te) (iSq f) := by
  intro E xs E' e σ H H1 R Rj q
  obtain ⟨⟨d, E1⟩, e1, e2⟩ := bnd e
  obtain ⟨ys, e3, e4⟩ := bnd e2
  cases e4
  cases d with
  | list ds =>
    cases e3
    refine .inl (h E _ E1 e1 σ H H1 R _ fun v Ha Hb st R1 r => ?_)
    obtain ⟨a, ws, rfl, sq, ra⟩ := r.lst_inv
    exact ⟨a, rfl, ⟨ws, R1.le.l sq⟩, q _ Ha Hb st R1 (itx_l sq ra)⟩
  | tuple ds =>
    cases e3
    refine .inr (h E _ E1 e1 σ H H1 R _ fun v Ha Hb st R1 r => ?_)
    obtain ⟨a, ws, rfl, sq, ra⟩ := r.tup_inv
    exact ⟨a, rfl, ⟨ws, R1.le.t sq⟩, q _ Ha Hb st R1 (itx_t sq ra)⟩
  | _ => cases e3
def iR1 (g : ML) : ML := fun E => (g E).bind fun p => match p.1 with
  | [.int j] => if -(2 ^ 62) ≤ j ∧ j < 2 ^ 62 then some (rangeD 0 j.toNat, p.2) else none
  | _ => none
def iR2 (g : ML) : ML := fun E => (g E).bind fun p => match p.1 with
  | [.int i, .int j] => if -(2 ^ 62) ≤ i ∧ i < 2 ^ 62 ∧ -(2 ^ 62) ≤ j ∧ j < 2 ^ 62 then some (rangeD i (j - i).toNat, p.2) else none
  | _ => none
theorem ei_r1 (h : EvL K ta g) : EvI K (iRng1 ta) (iR1 g) := by
  intro E xs E' e σ H H1 R Rj q
  obtain ⟨⟨ds, E1⟩, e1, e2⟩ := bnd e
  simp only at e2
  split at e2
  · split at e2
    · rename_i hk
      cases e2
      refine h E _ _ e1 σ H H1 R _ fun vs Ha Hb st R1 r => ?_
      cases r with
      | cons r rr =>
        cases rr
        exact ⟨_, by rw [r.int_inv], hk.1, hk.2, q _ Ha Hb st R1 itx_r⟩
    · cases e2
  · cases e2
theorem ei_r2 (h : EvL K ta g) : EvI K (iRng2 ta) (iR2 g) := by
  intro E xs E' e σ H H1 R Rj q
  obtain ⟨⟨ds, E1⟩, e1, e2⟩ := bnd e
  simp only at e2
  split at e2
  · split at e2
    · rename_i hk
      cases e2
      refine h E _ _ e1 σ H H1 R _ fun vs Ha Hb st R1 r => ?_
      cases r with
      | cons r rr =>
        cases rr with
        | cons r2 rr =>
          cases rr
          exact ⟨_, _, by rw [r.int_inv, r2.int_inv], hk, q _ Ha Hb st R1 itx_r⟩
    · cases e2
  · cases e2
end
section
variable {X : Cx} {tg it a b : Expr} {te : TE} {f : MX} {ta : TA} {g : ML} {p pos : Pos}
theorem ri_seq (h : RE X it te f) : RI X tg it (iSeqT X.K te) (iSq f) := ⟨PI.or (pi_list h.pe) (pi_tup h.pe), ei_seq h.ev⟩
theorem ri_r1 (hg : Gl X "range") (hm : X.mg "range" = none) (h : RL X [a] ta g) (hs : starEach [a] X.env = [(false, eval a X.env)] := by rfl) : RI X tg (.Call (.Name "range" p) [a] [] pos) (iRng1 ta) (iR1 g) := ⟨pi_range1 hg hm h.pa hs, ei_r1 h.ev⟩
theorem ri_r2 (hg : Gl X "range") (hm : X.mg "range" = none) (h : RL X [a, b] ta g) (hs : starEach [a, b] X.env = [(false, eval a X.env), (false, eval b X.env)] := by rfl) (hs2 : starEach [b] X.env = [(false, eval b X.env)] := by rfl) :
    RI X tg (.Call (.Name "range" p) [a, b] [] pos) (iRng2 ta) (iR2 g) := ⟨pi_range2 hg hm h.pa hs hs2, ei_r2 h.ev⟩
end

/-! ### for -/
def loopF (t : MTg) (f : MS) : List PyData → En → Option Out
  | [], E => some (.nx E)
  | x :: xs, E => (t x E).bind fun E1 => (f E1).bind fun o => match o with
    | .nx E2 => loopF t f xs E2
    | .ct E2 => loopF t f xs E2
    | .bk E2 => some (.nx E2)
    | .rt d E2 => some (.rt d E2)
    | .ro o E2 => some (.ro o E2)
def sFor (i : ML) (t : MTg) (f : MS) : MS := fun E => (i E).bind fun p => loopF t f p.1 p.2
section
variable {K : PySem.W.Frag} {io vs : List Nat} {g : TG} {t : MTg} {tb : TS} {f : MS}
theorem for_core (hd : dj io vs = true) (hg : TgX K vs g t) (hb : StX K io tb f) {J : It} {Dk : List (Addr × HO)} {xs : List PyData} {E : En} {σ : L2.St} {H H1 : Hp} {out : Out} (it : ItX K J H Dk xs) (R : EnvR K E σ H H1)
    (hk : ∀ p ∈ Dk, H p.1 ≠ none ∧ H1 p.1 = some p.2) (e : loopF t f xs E = some out) {Dn : Ends} (q : OutR K io E σ H H1 Dn out) :
    ∃ W : Nat → Nat → L2.St → Hp → Prop, (∃ m, W 0 m σ H1) ∧ ∀ i m σ H, W i m σ H →
      (J.stop i H ∧ Dn.nx σ H) ∨ (J.go i H ∧ ∃ N : L2.St → Hp → Prop, (∀ σ' H', N σ' H' → ∃ m', m' < m ∧ W (i + 1) m' σ' H') ∧ ∀ x H', J.yld i H x H' → g x σ H' fun σ2 H2 => tb { Dn with nx := N, ct := N, bk := Dn.nx } σ2 H2) := by
  refine ⟨fun i m σ' H2 => m = xs.length - i ∧ i ≤ xs.length ∧ ∃ Ei Hi, loopF t f (xs.drop i) Ei = some out ∧ Goes K io E σ H H1 Ei σ' Hi H2, ⟨xs.length, by simp, Nat.zero_le _, E, H, by simpa using e, .refl R⟩, ?_⟩
  rintro i m σ' H2 ⟨rfl, hi, Ei, Hi, ei, gs⟩
  have hk2 : ∀ p ∈ Dk, H2 p.1 = some p.2 := fun p hp => by
    obtain ⟨h1, h2⟩ := hk p hp
    exact gs.st.fr p.1 p.2 h2 fun z => h1 (R.there z).1
  obtain ⟨i1, i2⟩ := it i Hi H2 gs.st.ex gs.env.le hk2
  by_cases hlt : i < xs.length
  · have hx : xs[i]? = some xs[i] := by simp [hlt]
    obtain ⟨go, yl⟩ := i1 _ hx
    rw [List.drop_eq_getElem_cons hlt] at ei
    obtain ⟨E1, e1, e2⟩ := bnd ei
    obtain ⟨o, e3, e4⟩ := bnd e2
    refine .inr ⟨go, fun σ2 H3 => ∃ Ej Hj, loopF t f (xs.drop (i + 1)) Ej = some out ∧ Goes K io E σ H H1 Ej σ2 Hj H3, fun σ2 H3 ⟨Ej, Hj, f1, f2⟩ => ⟨xs.length - (i + 1), by omega, rfl, hlt, Ej, Hj, f1, f2⟩, fun x H3 y => ?_⟩
    obtain ⟨Hj, nw, rx⟩ := yl x H3 y
    have R2 := gs.env.nw nw
    have g2 : Goes K io E σ H H1 Ei σ' Hj H3 := gs.trans ⟨nw.stp _, R2, .refl⟩
    refine hg _ Ei E1 e1 x σ' Hj H3 R2 rx _ fun σ2 s => ?_
    have g3 := g2.trans (s.goes hd)
    refine hb E1 o e3 σ2 Hj H3 s.env _ ?_
    cases o with
    | nx E2 => exact fun σ3 Ha Hb gg => ⟨E2, Ha, e4, g3.trans gg⟩
    | ct E2 => exact fun σ3 Ha Hb gg => ⟨E2, Ha, e4, g3.trans gg⟩
    | bk E2 => cases e4; exact fun σ3 Ha Hb gg => q σ3 Ha Hb (g3.trans gg)
    | rt d E2 => cases e4; exact fun σ3 v Ha Hb gg r => q σ3 v Ha Hb (g3.trans gg) r
    | ro o E2 => cases e4; exact fun σ3 p Ha Hb gg h1 h2 h3 h4 => q σ3 p Ha Hb (g3.trans gg) (h1.elim (fun z => .inl (g3.st.dm p z)) fun z => (g3.st.ow p z).symm) h2 h3 h4
  · have hi2 : i = xs.length := by omega
    subst hi2
    rw [List.drop_length] at ei
    cases ei
    exact .inl ⟨i2 (Nat.le_refl _), q σ' Hi H2 gs⟩
theorem st_for {wi : TI} {il : ML} (hd : dj io vs = true) (hi : EvI K wi il) (hg : TgX K vs g t) (hb : StX K io tb f) : StX K io (tFor wi g tb) (sFor il t f) := by
  intro E out e σ H H1 R Dn q
  obtain ⟨⟨xs, E1⟩, e1, e2⟩ := bnd e
  refine hi E xs E1 e1 σ H H1 R _ fun J Ha Hb st R1 it => ?_
  exact for_core hd hg hb it R1 (fun p hp => by cases hp) e2 (q.pre ⟨st, R1, .refl⟩)
end
section
variable {X : Cx} {io vs : List Nat} {tg it : Expr} {body : List Stmt} {wi : TI} {il : ML} {g : TG} {t : MTg} {tb : TS} {f : MS} {pos : Pos}
theorem rs_for (hp : PassesOwn (model X.prog X.w) X.A X.env X.xe) (hc : X.calm = true) (hd : dj io vs = true) (hi : RI X tg it wi il) (hg : RTg X vs tg g t) (hb : RB X io body tb f)
    (hs : ∀ x, foldedSetIterable it X.env x = pure x := by intro _; rfl) : RS X io (.For tg it body [] pos) (tFor wi g tb) (sFor il t f) := ⟨ps_for hp hc hi.pi hg.pg hb.ps hs, st_for hd hi.ev hg.ev hb.ev⟩
end

/-! ### comprehensions -/
def wipeE (E : En) : List Nat → En
  | [] => E
  | v :: vs => (wipeE E vs).set v .no
def restE (E1 E2 : En) : List Nat → En
  | [] => E2
  | v :: vs => (restE E1 E2 vs).set v (match E1[v]? with | some (Sl.dat d) => .dat d | _ => .no)
def compF (t : MTg) (c : MT) (el : MX) (vs : List Nat) : List PyData → En → Option (List PyData × En)
  | [], E => some ([], E)
  | x :: xs, E => (t x E).bind fun E1 => (c E1).bind fun p => if p.1 then (el p.2).bind fun y => (compF t c el vs xs (wipeE y.2 vs)).bind fun r => some (y.1 :: r.1, r.2) else compF t c el vs xs (wipeE p.2 vs)
def oLc (i : ML) (t : MTg) (c : MT) (el : MX) (vs : List Nat) : MO := fun E => (i E).bind fun p => (compF t c el vs p.1 (wipeE p.2 vs)).bind fun r => if r.1.length ≤ sizeLine then some (.lst r.1, restE p.2 r.2 vs) else none
theorem wipeE_length (E : En) : ∀ vs : List Nat, (wipeE E vs).length = E.length
  | [] => rfl
  | v :: vs => by unfold wipeE; rw [List.length_set, wipeE_length E vs]
theorem wipeE_get {E : En} {j : Nat} {s : Sl} : ∀ {vs : List Nat}, (wipeE E vs)[j]? = some s → s = .no ∨ (j ∉ vs ∧ E[j]? = some s)
  | [], h => .inr ⟨by simp, h⟩
  | v :: vs, h => by
    unfold wipeE at h
    rcases set_get h with ⟨_, z, _⟩ | ⟨ne, h⟩
    · exact .inl z
    · rcases wipeE_get h with z | ⟨z1, z2⟩
      · exact .inl z
      · exact .inr ⟨by simp only [List.mem_cons, not_or]; exact ⟨fun e => ne e.symm, z1⟩, z2⟩
theorem wipe_get {σ : L2.St} {j : Nat} : ∀ {vs : List Nat}, j ∉ vs → (wipe σ vs)[j]? = σ[j]?
  | [], _ => rfl
  | v :: vs, h => by
    have h' : j ≠ v ∧ j ∉ vs := by simpa only [List.mem_cons, not_or] using h
    unfold wipe
    rw [List.getElem?_set_ne (Ne.symm h'.1), wipe_get h'.2]
theorem wipe_in {σ : L2.St} {j : Nat} : ∀ {vs : List Nat}, j ∈ vs → j < σ.length → (wipe σ vs)[j]? = some none
  | [], h, _ => by cases h
  | v :: vs, h, hl => by
    unfold wipe
    by_cases e : v = j
    · subst e
      rw [List.getElem?_set_self (by rw [wipe_length]; exact hl)]
    · rw [List.getElem?_set_ne e]
      rcases List.mem_cons.mp h with z | z
      · exact absurd z.symm e
      · exact wipe_in z hl
theorem wipe_eq {σ σ' : L2.St} {vs ws : List Nat} (hl : σ'.length = σ.length) (h : ∀ j, j ∉ vs → σ'[j]? = σ[j]?) (hs : ∀ j ∈ vs, j ∈ ws) : wipe σ' ws = wipe σ ws := by
  apply List.ext_getElem?
  intro j
  by_cases hj : j ∈ ws
  · by_cases hl2 : j < σ.length
    · rw [wipe_in hj hl2, wipe_in hj (by omega)]
    · rw [List.getElem?_eq_none (by rw [wipe_length]; omega), List.getElem?_eq_none (by rw [wipe_length]; omega)]
  · rw [wipe_get hj, wipe_get hj]
    exact h j fun z => hj (hs j z)
section
variable {K : PySem.W.Frag} {E E' : En} {σ σ' : L2.St} {H H1 H' H2 : Hp}
theorem EnvR.wipe (R : EnvR K E σ H H1) (vs : List Nat) : EnvR K (wipeE E vs) (L2.wipe σ vs) H H1 := by
  refine ⟨R.le, by rw [wipe_length, wipeE_length]; exact R.len, fun j s e => ?_, fun i j o o' a e1 e2 e3 e4 => ?_⟩
  · rcases wipeE_get e with rfl | ⟨h1, h2⟩
    · trivial
    · rw [wipe_get h1]
      exact R.atS j s h2
  · rcases wipeE_get e1 with z | ⟨h1, h2⟩
    · cases z
    · rcases wipeE_get e2 with z | ⟨g1, g2⟩
      · cases z
      · rw [wipe_get h1] at e3
        rw [wipe_get g1] at e4
        exact R.sep i j o o' a h2 g2 e3 e4
theorem owns_wipe {vs : List Nat} {a : Addr} (h : Owns (wipeE E vs) (L2.wipe σ vs) a) : Owns E σ a := by
  obtain ⟨j, o, e1, e2⟩ := h
  rcases wipeE_get e1 with z | ⟨h1, h2⟩
  · cases z
  · rw [wipe_get h1] at e2
    exact ⟨j, o, h2, e2⟩
theorem restE_length (E1 E2 : En) : ∀ vs : List Nat, (restE E1 E2 vs).length = E2.length
  | [] => rfl
  | v :: vs => by unfold restE; rw [List.length_set, restE_length E1 E2 vs]
theorem restE_get {E1 E2 : En} {j : Nat} {s : Sl} : ∀ {vs : List Nat}, (restE E1 E2 vs)[j]? = some s → s = .no ∨ (∃ d, s = .dat d ∧ E1[j]? = some (.dat d)) ∨ (j ∉ vs ∧ E2[j]? = some s)
  | [], h => .inr (.inr ⟨by simp, h⟩)
  | v :: vs, h => by
    unfold restE at h
    rcases set_get h with ⟨e, z, _⟩ | ⟨ne, h⟩
    · subst e
      split at z
      · rename_i d hd
        exact .inr (.inl ⟨d, z, hd⟩)
      · exact .inl z
    · rcases restE_get h with z | z | ⟨z1, z2⟩
      · exact .inl z
      · exact .inr (.inl z)
      · exact .inr (.inr ⟨by simp only [List.mem_cons, not_or]; exact ⟨fun e => ne e.symm, z1⟩, z2⟩)
theorem EnvR.rest (R : EnvR K E σ H H1) {vs : List Nat} (R2 : EnvR K E' (L2.wipe σ vs) H' H2) (ex : Same H H') : EnvR K (restE E E' vs) σ H' H2 := by
  refine ⟨R2.le, by rw [restE_length, ← R2.len, wipe_length], fun j s e => ?_, fun i j o o' a e1 e2 e3 e4 => ?_⟩
  · rcases restE_get e with rfl | ⟨d, rfl, h⟩ | ⟨h1, h2⟩
    · trivial
    · obtain ⟨v, f1, f2⟩ := R.atS j _ h
      exact ⟨v, f1, f2.mono (.of ex)⟩
    · have w := R2.atS j s h2
      rw [wipe_get h1] at w
      exact w
  · rcases restE_get e1 with z | ⟨d, z, _⟩ | ⟨h1, h2⟩
    · cases z
    · cases z
    · rcases restE_get e2 with z | ⟨d, z, _⟩ | ⟨g1, g2⟩
      · cases z
      · cases z
      · refine R2.sep i j o o' a h2 g2 ?_ ?_
        · rw [wipe_get h1]; exact e3
        · rw [wipe_get g1]; exact e4
theorem owns_rest {vs : List Nat} {a : Addr} (h : Owns (restE E E' vs) σ a) : Owns E' (L2.wipe σ vs) a := by
  obtain ⟨j, o, e1, e2⟩ := h
  rcases restE_get e1 with z | ⟨d, z, _⟩ | ⟨h1, h2⟩
  · cases z
  · cases z
  · exact ⟨j, o, h2, by rw [wipe_get h1]; exact e2⟩
theorem Stp.aside {P P' : Addr → Prop} {D : Addr} {u : HO} (s : Stp P H H1 P' H' H2) (h1 : H1 D = some u) (h0 : H D = none) (n : ¬ P D) : H2 D = some u ∧ H' D = none ∧ ¬ P' D := by
  refine ⟨s.fr D u h1 n, ?_, fun z => ?_⟩
  · cases z : H' D with
    | none => rfl
    | some w =>
      rcases s.nw D (by rw [z]; exact fun q => nomatch q) with y | y | y
      · exact absurd h0 y
      · rw [h1] at y; cases y
      · exact absurd y n
  · rcases s.ow D z with y | y
    · exact n y
    · rw [h1] at y; cases y
/-- an object that was not there at the start is changed -/
theorem Stp.foreign {P P' : Addr → Prop} {p : Addr} {u : HO} (s : Stp P H H1 P' H' H2) (h : H1 p = none) : Stp P H H1 P' H' (upd H2 p u) :=
  ⟨s.ex, fun a o e n => by rw [upd_ne (ne_of_none e h)]; exact s.fr a o e n, s.nw, fun a e => by
    by_cases z : a = p
    · subst z; exact h
    · rw [upd_ne z] at e; exact s.dm a e, s.ow⟩
theorem EnvR.foreign (R : EnvR K E σ H H1) {p : Addr} {u : HO} (h0 : H p = none) (hn : ¬ Owns E σ p) : EnvR K E σ H (upd H1 p u) := by
  refine ⟨fun a o e => ?_, R.len, fun j s e => ?_, R.sep⟩
  · rw [upd_ne (ne_of_none e h0)]
    exact R.le a o e
  · have w := R.atS j s e
    cases s with
    | no => trivial
    | dat d => exact w
    | own o =>
      obtain ⟨b, f1, f2, f3⟩ := w
      have nb : b ≠ p := fun z => hn (z ▸ ⟨j, o, e, f1⟩)
      exact ⟨b, f1, f2, f3.move (Le.refl _) fun w z => by rw [upd_ne nb]; exact z⟩
end
section
variable {K : PySem.W.Frag} {ws vs : List Nat} {g : TG} {t : MTg} {tt : TT} {c : MT} {te : TE} {el : MX}
theorem lc_core' (hs : ∀ j ∈ ws, j ∈ vs) (hg : TgX K ws g t) (hc : EvT K tt c) (he : EvX K te el) {J : It} {Dk : List (Addr × HO)} {xs : List PyData} {E : En} {σ : L2.St} {H H1 : Hp} {r : List PyData} {Eo : En} (it : ItX K J H Dk xs) (R : EnvR K E σ H H1)
    (hk : ∀ p ∈ Dk, H p.1 ≠ none ∧ H1 p.1 = some p.2) (e : compF t c el vs xs (wipeE E vs) = some (r, Eo)) (hr : r.length ≤ sizeLine) {Q : VK} {D : Addr} (hD : H1 D = none)
    (q : ∀ H' H2, Stp (Owns E σ) H H1 (Owns (restE E Eo vs) σ) H' H2 → EnvR K (restE E Eo vs) σ H' H2 → H' D = none → ¬ Owns (restE E Eo vs) σ D → OwnAt K H' H2 D (.lst r) → Q (.ref D) H2) :
    ∃ W : Nat → Nat → Hp → Prop, (∃ m, W 0 m (upd H1 D (.lst []))) ∧ ∀ i m H, W i m H →
      (J.stop i H ∧ Q (.ref D) H) ∨ (J.go i H ∧ ∃ Nx : Hp → Prop, (∀ H', Nx H' → ∃ m', m' < m ∧ W (i + 1) m' H') ∧ ∀ x H', J.yld i H x H' → g x (wipe σ vs) H' fun σ2 H2 => wipe σ2 vs = wipe σ vs ∧ tt σ2 H2 fun b H3 =>
        if b = true then te σ2 H3 fun y H4 => ∃ acc, H4 D = some (.lst acc) ∧ acc.length < sizeLine ∧ Nx (upd H4 D (.lst (acc ++ [y]))) else Nx H3) := by
  obtain ⟨s0, R0, h0, nO⟩ := R.newOwn (u := .lst []) hD
  let Inv2 : Nat → Hp → Prop := fun i H2 => i ≤ xs.length ∧ ∃ (Ei : En) (Hi : Hp) (acc : List V) (done rest : List PyData), compF t c el vs (xs.drop i) Ei = some (rest, Eo) ∧ done ++ rest = r ∧
    Stp (Owns E σ) H H1 (Owns Ei (wipe σ vs)) Hi H2 ∧ EnvR K Ei (wipe σ vs) Hi H2 ∧ H2 D = some (.lst acc) ∧ Hi D = none ∧ ¬ Owns Ei (wipe σ vs) D ∧ RpAll K Hi acc done
  refine ⟨fun i m H2 => m = xs.length - i ∧ Inv2 i H2, ⟨xs.length, by simp, Nat.zero_le _, wipeE E vs, H, [], [], r, by simpa using e, rfl, s0.wk fun a z => owns_wipe z, R0.wipe vs, upd_same, h0, fun z => nO (owns_wipe z), .nil⟩, ?_⟩
  rintro i m H2 ⟨rfl, hi, Ei, Hi, acc, done, rest, ei, er, st, Ri, hacc, hDi, nOi, ra⟩
  have hk2 : ∀ p ∈ Dk, H2 p.1 = some p.2 := fun p hp => by
    obtain ⟨h1, h2⟩ := hk p hp
    exact st.fr p.1 p.2 h2 fun z => h1 (R.there z).1
  obtain ⟨i1, i2⟩ := it i Hi H2 st.ex Ri.le hk2
  by_cases hlt : i < xs.length
  · have hx : xs[i]? = some xs[i] := by simp [hlt]
    obtain ⟨go, yl⟩ := i1 _ hx
    rw [List.drop_eq_getElem_cons hlt] at ei
    obtain ⟨E1, e1, e2⟩ := bnd ei
    obtain ⟨⟨b, E2⟩, e3, e4⟩ := bnd e2
    refine .inr ⟨go, Inv2 (i + 1), fun H3 h3 => ⟨xs.length - (i + 1), by omega, rfl, h3⟩, fun x H3 y => ?_⟩
    obtain ⟨Hj, nw, rx⟩ := yl x H3 y
    have R2 := Ri.nw nw
    have st2 := st.trans (nw.stp _)
    obtain ⟨hD3, hDj, nOj⟩ := (nw.stp (Owns Ei (wipe σ vs))).aside hacc hDi nOi
    refine hg _ Ei E1 e1 x _ Hj H3 R2 rx _ fun σ2 s => ?_
    have hw : wipe σ2 vs = wipe σ vs := by
      have h1 : wipe σ2 vs = wipe (wipe σ vs) vs := wipe_eq s.len s.out hs
      have h2 : wipe (wipe σ vs) vs = wipe σ vs := wipe_eq (vs := vs) (wipe_length σ vs) (fun j hj => wipe_get hj) fun j hj => hj
      exact h1.trans h2
    refine ⟨hw, ?_⟩
    have st3 : Stp (Owns E σ) H H1 (Owns E1 σ2) Hj H3 := st2.wk s.own
    have nO3 : ¬ Owns E1 σ2 D := fun z => nOj (s.own D z)
    refine hc E1 b E2 e3 σ2 Hj H3 s.env _ fun Ha Hb st4 R4 => ?_
    obtain ⟨hD4, hDa, nO4⟩ := st4.aside hD3 hDj nO3
    have st5 := st3.trans st4
    cases b with
    | false =>
      show Inv2 (i + 1) Hb
      refine ⟨hlt, wipeE E2 vs, Ha, acc, done, rest, e4, er, ?_, ?_, hD4, hDa, ?_, ra.mono (.of ?_)⟩
      · rw [← hw]; exact st5.wk fun a z => owns_wipe z
      · rw [← hw]; exact R4.wipe vs
      · rw [← hw]; exact fun z => nO4 (owns_wipe z)
      · exact nw.ex.trans st4.ex
    | true =>
      obtain ⟨⟨yd, E3⟩, e5, e6⟩ := bnd e4
      obtain ⟨⟨rest2, Eo2⟩, e7, e8⟩ := bnd e6
      cases e8
      show te σ2 Hb fun y H4 => ∃ acc, H4 D = some (.lst acc) ∧ acc.length < sizeLine ∧ Inv2 (i + 1) (upd H4 D (.lst (acc ++ [y])))
      refine he E2 yd E3 e5 σ2 Ha Hb R4 _ fun v Hc Hd st6 R6 rv => ?_
      obtain ⟨hD6, hDc, nO6⟩ := st6.aside hD4 hDa nO4
      have hlen : acc.length < sizeLine := by
        have h1 := ra.length
        have h2 := congrArg List.length er
        rw [List.length_append, List.length_cons] at h2
        omega
      refine ⟨acc, hD6, hlen, hlt, wipeE E3 vs, Hc, acc ++ [v], done ++ [yd], rest2, e7, by rw [List.append_assoc]; exact er, ?_, ?_, upd_same, hDc, ?_, ?_⟩
      · rw [← hw]; exact ((st5.trans st6).foreign hD).wk fun a z => owns_wipe z
      · rw [← hw]; exact (R6.foreign hDc nO6).wipe vs
      · rw [← hw]; exact fun z => nO6 (owns_wipe z)
      · exact (ra.mono (.of ((nw.ex.trans st4.ex).trans st6.ex))).snoc rv
  · have hi2 : i = xs.length := by omega
    subst hi2
    rw [List.drop_length] at ei
    cases ei
    rw [List.append_nil] at er
    subst er
    have Rf := R.rest Ri st.ex
    exact .inl ⟨i2 (Nat.le_refl _), q Hi H2 (st.wk fun a z => owns_rest z) Rf hDi (fun z => nOi (owns_rest z)) ⟨acc, hacc, ra⟩⟩
end
end Dm

/-! Dm: comprehensions as rules; a def by its mirror. -/
namespace Dm
open PySem PySem.Spec PyProof.Rows L2

def mYes : MT := fun E => some (true, E)
structure RIf (X : Cx) (ifs : List Expr) (tt : TT) (c : MT) : Prop where
  pt : PTs X ifs tt
  ev : EvT X.K tt c
theorem rif_nil {X : Cx} : RIf X [] tYes mYes := ⟨pts_nil, by
  intro E b E' e σ H H1 R Q q
  cases e
  exact q H H1 .refl R⟩
theorem rif_one {X : Cx} {c : Expr} {t : TT} {m : MT} (h : RT X c t m) : RIf X [c] t m := ⟨pts_one h.pt, h.ev⟩
def subL (ws vs : List Nat) : Bool := ws.all fun j => vs.contains j
theorem subL_mem {ws vs : List Nat} (h : subL ws vs = true) : ∀ j ∈ ws, j ∈ vs := fun j hj => by
  have := List.all_eq_true.mp h j hj
  simpa using this
section
variable {K : PySem.W.Frag} {ws vs : List Nat} {wi : TI} {il : ML} {g : TG} {t : MTg} {tt : TT} {c : MT} {te : TE} {el : MX}
theorem ev_lc (hs : ∀ j ∈ ws, j ∈ vs) (hi : EvI K wi il) (hg : TgX K ws g t) (hc : EvT K tt c) (he : EvX K te el) : EvO K (tLc wi g tt te vs) (oLc il t c el vs) := by
  intro E o E' e σ H H1 R Q q
  obtain ⟨⟨xs, E1⟩, e1, e2⟩ := bnd e
  obtain ⟨⟨r, Eo⟩, e3, e4⟩ := bnd e2
  split at e4
  · rename_i hr
    cases e4
    refine hi E xs E1 e1 σ H H1 R _ fun J Ha Hb st R1 it D hD => ?_
    exact lc_core' hs hg hc he it R1 (fun p hp => by cases hp) e3 hr hD fun H' H2 st2 R2 h0 nO ho => q D H' H2 (st.trans st2) R2 (.inl (st.dm D hD)) h0 nO ho
  · cases e4
end
section
variable {X : Cx} {ws : List Nat} {elt tg it : Expr} {ifs : List Expr} {scope : Scope} {own : List (Str × Nat)} {pos spos : Pos} {wi : TI} {il : ML} {g : TG} {t : MTg} {tt : TT} {c : MT} {te : TE} {el : MX}
theorem ro_lc (hc : X.calm = true) (hN : X.N.Nodup) (hi : RI X tg it wi il) (ok : BlkOk X.N X.env.scope scope own) (hs : subL ws (own.map (·.2)) = true)
    (hg : ∀ (s : Shared) (H : Hp) (C : Addr) (cl : List (Str × Addr)) (fp : List Addr), RTg (X.blk s H scope (compEnvC scope cl C X.env) fp) ws tg g t)
    (ht : ∀ (s : Shared) (H : Hp) (C : Addr) (cl : List (Str × Addr)) (fp : List Addr), RIf (X.blk s H scope (compEnvC scope cl C X.env) fp) ifs tt c)
    (he : ∀ (s : Shared) (H : Hp) (C : Addr) (cl : List (Str × Addr)) (fp : List Addr), RE (X.blk s H scope (compEnvC scope cl C X.env) fp) elt te el) (hf : ∀ x, foldedSetIterable it X.env x = pure x := by intro _; rfl) :
    RO X (.ListComp elt [⟨tg, it, ifs, 0⟩] scope pos) (tLc wi g tt te (own.map (·.2))) (oLc il t c el (own.map (·.2))) := by
  refine ⟨pe_lc hc hN hi.pi ok (fun s H C cl fp => (hg s H C cl fp).pg) (fun s H C cl fp => (ht s H C cl fp).pt) (fun s H C cl fp => (he s H C cl fp).pe) hf, ?_⟩
  -- the mirrors' statements do not hang on the block's state: any one serves
  have I0 : ∀ (s : Shared) (H : Hp) (C : Addr) (cl : List (Str × Addr)) (fp : List Addr), EvO X.K (tLc wi g tt te (own.map (·.2))) (oLc il t c el (own.map (·.2))) := fun s H C cl fp =>
    ev_lc (subL_mem hs) hi.ev (hg s H C cl fp).ev (ht s H C cl fp).ev (he s H C cl fp).ev
  exact I0 X.s_0 X.H_0 0 [] []
theorem rs_setLcO {io : List Nat} {i : Nat} {y : Str} {py : Pos} (hc : X.calm = true) (hN : X.N.Nodup) (hy : X.N[i]? = some y) (hyl : X.env.scope.names.lookup y = some .local)
    (hsw : swapsWith (.ListComp elt [⟨tg, it, ifs, 0⟩] scope pos) (some (.Name y py)) spos.line X.env = pure true) (hio : i ∉ io) (hi : RI X tg it wi il) (ok : BlkOk X.N X.env.scope scope own) (hs : subL ws (own.map (·.2)) = true)
    (hg : ∀ (s : Shared) (H : Hp) (C : Addr) (cl : List (Str × Addr)) (fp : List Addr), RTg (X.blk s H scope (compEnvC scope cl C X.env) fp) ws tg g t)
    (ht : ∀ (s : Shared) (H : Hp) (C : Addr) (cl : List (Str × Addr)) (fp : List Addr), RIf (X.blk s H scope (compEnvC scope cl C X.env) fp) ifs tt c)
    (he : ∀ (s : Shared) (H : Hp) (C : Addr) (cl : List (Str × Addr)) (fp : List Addr), RE (X.blk s H scope (compEnvC scope cl C X.env) fp) elt te el) (hf : ∀ x, foldedSetIterable it X.env x = pure x := by intro _; rfl) :
    RS X io (.Assign [.Name y py] (.ListComp elt [⟨tg, it, ifs, 0⟩] scope pos) spos) (tAsg (tLc wi g tt te (own.map (·.2))) (gName i)) (sAsgO i (oLc il t c el (own.map (·.2)))) :=
  ⟨ps_setLc hc hN hy hyl hsw hi.pi ok (fun s H C cl fp => (hg s H C cl fp).pg) (fun s H C cl fp => (ht s H C cl fp).pt) (fun s H C cl fp => (he s H C cl fp).pe) hf,
    st_asgO hio (ev_lc (subL_mem hs) hi.ev (hg X.s_0 X.H_0 0 [] []).ev (ht X.s_0 X.H_0 0 [] []).ev (he X.s_0 X.H_0 0 [] []).ev)⟩
theorem rs_setLc {io : List Nat} {i : Nat} {y : Str} {py : Pos} (hc : X.calm = true) (hN : X.N.Nodup) (hy : X.N[i]? = some y) (hyl : X.env.scope.names.lookup y = some .local)
    (hsw : swapsWith (.ListComp elt [⟨tg, it, ifs, 0⟩] scope pos) (some (.Name y py)) spos.line X.env = pure true) (hio : i ∉ io) (hi : RI X tg it wi il) (ok : BlkOk X.N X.env.scope scope own) (hs : subL ws (own.map (·.2)) = true)
    (hg : ∀ (s : Shared) (H : Hp) (C : Addr) (cl : List (Str × Addr)) (fp : List Addr), RTg (X.blk s H scope (compEnvC scope cl C X.env) fp) ws tg g t)
    (ht : ∀ (s : Shared) (H : Hp) (C : Addr) (cl : List (Str × Addr)) (fp : List Addr), RIf (X.blk s H scope (compEnvC scope cl C X.env) fp) ifs tt c)
    (he : ∀ (s : Shared) (H : Hp) (C : Addr) (cl : List (Str × Addr)) (fp : List Addr), RE (X.blk s H scope (compEnvC scope cl C X.env) fp) elt te el) (hf : ∀ x, foldedSetIterable it X.env x = pure x := by intro _; rfl) :
    RS X io (.Assign [.Name y py] (.ListComp elt [⟨tg, it, ifs, 0⟩] scope pos) spos) (tAsg (tLc wi g tt te (own.map (·.2))) (gName i)) (sAsg i (mOf (oLc il t c el (own.map (·.2))))) :=
  ⟨ps_setLc hc hN hy hyl hsw hi.pi ok (fun s H C cl fp => (hg s H C cl fp).pg) (fun s H C cl fp => (ht s H C cl fp).pt) (fun s H C cl fp => (he s H C cl fp).pe) hf,
    Dm.st_asg hio (ev_of (ev_lc (subL_mem hs) hi.ev (hg X.s_0 X.H_0 0 [] []).ev (ht X.s_0 X.H_0 0 [] []).ev (he X.s_0 X.H_0 0 [] []).ev))⟩
end

/-! ### a def -/
abbrev MFO := List Sl → Option (Own × List Sl)
def spO (K : PySem.W.Frag) (n : Nat) (f : MFO) : Sp := fun vs H1 Q _ => vs.length = n ∧ ∃ H E o E', f E = some (o, E') ∧ EnvR K E (vs.map some) H H1 ∧
  ∀ p H' H2, Stp (Owns E (vs.map some)) H H1 (Owns E' (vs.map some)) H' H2 → EnvR K E' (vs.map some) H' H2 → (H1 p = none ∨ Owns E (vs.map some) p) → H' p = none → ¬ Owns E' (vs.map some) p → OwnAt K H' H2 p o → Q (.ref p) H2
def mCallO (fh : MFO) (a : MG) : MO := fun E => (a E).bind fun p => if (slotsOf p.1).Nodup then (fh (argEn p.2 p.1)).bind fun q => some (q.1, putBack p.1 q.2 p.2) else none
/-- the arguments' slots behind the call: data is data still, an own thing that is no inout place is gone -/
def outS (io : List Nat) (E'' : En) : Nat → List Sl → List Sl
  | _, [] => []
  | i, .dat d :: r => .dat d :: outS io E'' (i + 1) r
  | i, _ :: r => (if io.contains i then E''.getD i .no else .no) :: outS io E'' (i + 1) r
def mFn (n N : Nat) (io : List Nat) (f : MS) : MF := fun E => if E.length = n then (f (E ++ List.replicate (N - n) .no)).bind fun o => match o with
  | .rt d E' => some (d, outS io E' 0 E)
  | .nx E' => some (.none, outS io E' 0 E)
  | _ => none else none
def mFnO (n N : Nat) (io : List Nat) (f : MS) : MFO := fun E => if E.length = n then (f (E ++ List.replicate (N - n) .no)).bind fun o => match o with
  | .ro o E' => some (o, outS io E' 0 E)
  | _ => none else none
section
variable {K : PySem.W.Frag} {io : List Nat} {σ σ' : L2.St} {H H1 H' H2 : Hp}
theorem outS_length (io : List Nat) (E'' : En) : ∀ (i : Nat) (E : List Sl), (outS io E'' i E).length = E.length
  | _, [] => rfl
  | i, s :: r => by
    cases s <;> (unfold outS; rw [List.length_cons, List.length_cons, outS_length io E'' (i + 1) r])
theorem outS_get (io : List Nat) (E'' : En) : ∀ (i : Nat) (E : List Sl) (j : Nat) (s : Sl), (outS io E'' i E)[j]? = some s → (∃ d, s = .dat d ∧ E[j]? = some (.dat d)) ∨ s = .no ∨ (i + j ∈ io ∧ E''[i + j]? = some s)
  | _, [], j, s, h => by simp [outS] at h
  | i, a :: r, 0, s, h => by
    cases a with
    | dat d => simp [outS] at h; exact .inl ⟨d, h.symm, by simp⟩
    | no =>
      simp only [outS, List.getElem?_cons_zero, Option.some.injEq] at h
      split at h
      · rename_i hc
        rw [List.getD_eq_getElem?_getD] at h
        cases z : E''[i]? with
        | none => rw [z] at h; exact .inr (.inl h.symm)
        | some t => rw [z] at h; exact .inr (.inr ⟨by simpa using hc, congrArg some h⟩)
      · exact .inr (.inl h.symm)
    | own o =>
      simp only [outS, List.getElem?_cons_zero, Option.some.injEq] at h
      split at h
      · rename_i hc
        rw [List.getD_eq_getElem?_getD] at h
        cases z : E''[i]? with
        | none => rw [z] at h; exact .inr (.inl h.symm)
        | some t => rw [z] at h; exact .inr (.inr ⟨by simpa using hc, congrArg some h⟩)
      · exact .inr (.inl h.symm)
  | i, a :: r, j + 1, s, h => by
    have h' : (outS io E'' (i + 1) r)[j]? = some s := by cases a <;> simpa [outS] using h
    rcases outS_get io E'' (i + 1) r j s h' with ⟨d, z, w⟩ | z | ⟨z, w⟩
    · exact .inl ⟨d, z, by simpa using w⟩
    · exact .inr (.inl z)
    · exact .inr (.inr ⟨by rw [show i + (j + 1) = i + 1 + j by omega]; exact z, by rw [show i + (j + 1) = i + 1 + j by omega]; exact w⟩)
theorem EnvR.start {E : List Sl} {vs : List V} (R : EnvR K E (vs.map some) H H1) (N : List Str) : EnvR K (E ++ List.replicate (N.length - E.length) .no) (L2.start N vs) H H1 := by
  have hl : vs.length = E.length := by have := R.len; rwa [List.length_map] at this
  have old : ∀ {j : Nat} {s : Sl}, (E ++ List.replicate (N.length - E.length) Sl.no)[j]? = some s → s = .no ∨ (j < E.length ∧ E[j]? = some s ∧ (L2.start N vs)[j]? = (vs.map some)[j]?) := by
    intro j s e
    by_cases hj : j < E.length
    · rw [List.getElem?_append_left hj] at e
      refine .inr ⟨hj, e, ?_⟩
      unfold L2.start
      rw [List.getElem?_append_left (by rw [List.length_map, hl]; exact hj)]
    · rw [List.getElem?_append_right (by omega), List.getElem?_replicate] at e
      split at e
      · exact .inl (Option.some.inj e).symm
      · cases e
  refine ⟨R.le, ?_, fun j s e => ?_, fun i j o o' a e1 e2 e3 e4 => ?_⟩
  · unfold L2.start
    rw [List.length_append, List.length_append, List.length_map, List.length_replicate, List.length_replicate, hl]
  · rcases old e with rfl | ⟨h1, h2, h3⟩
    · trivial
    · rw [h3]; exact R.atS j s h2
  · rcases old e1 with z | ⟨h1, h2, h3⟩
    · cases z
    · rcases old e2 with z | ⟨g1, g2, g3⟩
      · cases z
      · exact R.sep i j o o' a h2 g2 (by rw [← h3]; exact e3) (by rw [← g3]; exact e4)
theorem owns_start {E : List Sl} {vs : List V} (hl : vs.length = E.length) (N : List Str) {a : Addr} : Owns (E ++ List.replicate (N.length - E.length) .no) (L2.start N vs) a → Owns E (vs.map some) a := fun ⟨j, o, e1, e2⟩ => by
  by_cases hj : j < E.length
  · rw [List.getElem?_append_left hj] at e1
    unfold L2.start at e2
    rw [List.getElem?_append_left (by rw [List.length_map, hl]; exact hj)] at e2
    exact ⟨j, o, e1, e2⟩
  · rw [List.getElem?_append_right (by omega), List.getElem?_replicate] at e1
    split at e1 <;> cases e1
/-- at a def's end -/
theorem EnvR.finish {E : List Sl} {E'' : En} {vs : List V} {N : List Str} (R : EnvR K E (vs.map some) H H1) (hio : ∀ i ∈ io, i < E.length)
    (g : Goes K io (E ++ List.replicate (N.length - E.length) .no) (L2.start N vs) H H1 E'' σ' H' H2) :
    EnvR K (outS io E'' 0 E) (vs.map some) H' H2 ∧ Stp (Owns E (vs.map some)) H H1 (Owns (outS io E'' 0 E) (vs.map some)) H' H2 := by
  have hl : vs.length = E.length := by have := R.len; rwa [List.length_map] at this
  have same : ∀ j, j ∈ io → σ'[j]? = (vs.map some)[j]? := fun j hj => by
    have h1 := g.keep j hj
    have h2 := hio j hj
    rw [h1]
    unfold L2.start
    rw [List.getElem?_append_left (by rw [List.length_map, hl]; exact h2)]
  have st : Stp (Owns E (vs.map some)) H H1 (Owns E'' σ') H' H2 :=
    ⟨g.st.ex, fun a o e n => g.st.fr a o e fun z => n (owns_start hl N z), fun a h => (g.st.nw a h).imp id (Or.imp id (owns_start hl N)), g.st.dm, fun a h => (g.st.ow a h).imp (owns_start hl N) id⟩
  have ownE : ∀ {j : Nat} {o : Own}, (outS io E'' 0 E)[j]? = some (.own o) → j ∈ io ∧ E''[j]? = some (.own o) := fun {j o} e => by
    rcases outS_get io E'' 0 E j _ e with ⟨d, z, _⟩ | z | ⟨z, w⟩
    · cases z
    · cases z
    · rw [Nat.zero_add] at z w
      exact ⟨z, w⟩
  refine ⟨⟨g.env.le, by rw [outS_length]; exact R.len, fun j s e => ?_, fun i j o o' a e1 e2 e3 e4 => ?_⟩, st.wk fun a ⟨j, o, e1, e2⟩ => ?_⟩
  · rcases outS_get io E'' 0 E j s e with ⟨d, rfl, w⟩ | rfl | ⟨z, w⟩
    · obtain ⟨v, f1, f2⟩ := R.atS j _ w
      exact ⟨v, f1, f2.mono (.of g.st.ex)⟩
    · trivial
    · rw [Nat.zero_add] at z w
      rw [← same j z]
      exact g.env.atS j s w
  · obtain ⟨h1, h2⟩ := ownE e1
    obtain ⟨g1, g2⟩ := ownE e2
    exact g.env.sep i j o o' a h2 g2 (by rw [same i h1]; exact e3) (by rw [same j g1]; exact e4)
  · obtain ⟨h1, h2⟩ := ownE e1
    exact ⟨j, o, h2, by rw [same j h1]; exact e2⟩
end
section
variable {P : Program} {w : World} {K : PySem.W.Frag} {mg : Str → Option Value} {base : Heap}
/-- THE RULE: a def of the text keeps the promise of its mirror -/
theorem fn_ok {x qual : Str} {st : Stmt} {f : Addr} {fd : FuncData} {N ps : List Str} {k : Nat} (io : List Nat) {ms : MS} (F : Fun K x qual st f fd) (S : FnScope N ps (defScope st)) (hio : io.all (fun i => decide (i < ps.length)) = true)
    (hbody : ∀ (cdv : Value) (A : Around) (outer : List Env) (s : Shared) (H : Hp) (E : XK), Room k (A.deeper (envOfC qual (defScope st) s.heap.objs.size f cdv)) →
      ∃ ts, RB (cxOf CX0 P w K mg base N qual (defScope st) f cdv A outer s H E).nox io (defBody st) ts ms) : FnOk P w K mg base CX0 (k + 1) f fd ps (spD K ps.length (mFn ps.length N.length io ms)) := by
  refine F.ok S (fun vs H Q E h => h.1) (fun cdv A outer s H1 vs Q Ex hr h => ?_)
  obtain ⟨hl, H, E, d, E', e, R, q⟩ := h
  obtain ⟨ts, hb⟩ := hbody cdv A outer s H1 Ex hr
  refine ⟨ts, hb.ps, ?_⟩
  have hE : vs.length = E.length := by have := R.len; rwa [List.length_map] at this
  unfold mFn at e
  split at e
  · rename_i hEl
    obtain ⟨out, e1, e2⟩ := bnd e
    rw [← hEl] at e1
    have fin : ∀ {σ' : L2.St} {v : V} {d' : PyData} {H' H2 : Hp} {E'' : En}, Goes K io (E ++ List.replicate (N.length - E.length) .no) (L2.start N vs) H H1 E'' σ' H' H2 → Rp K H' v d' → d = d' → E' = outS io E'' 0 E → Q v H2 := by
      intro σ' v d' H' H2 E'' g r ed eE
      subst ed eE
      obtain ⟨R2, st2⟩ := R.finish (N := N) (fun i hi => by
        have := of_decide_eq_true (List.all_eq_true.mp hio i hi)
        omega) g
      exact q v H' H2 st2 R2 r
    refine hb.ev _ out e1 (L2.start N vs) H H1 (R.start N) _ ?_
    cases out with
    | nx E2 =>
      cases e2
      exact fun σ' H' H2 g => fin g .non rfl rfl
    | rt d2 E2 =>
      cases e2
      exact fun σ' v H' H2 g r => fin g r rfl rfl
    | bk E2 => cases e2
    | ct E2 => cases e2
    | ro o E2 => cases e2
  · cases e
/-- .. that hands back a fresh own object -/
theorem fn_okO {x qual : Str} {st : Stmt} {f : Addr} {fd : FuncData} {N ps : List Str} {k : Nat} (io : List Nat) {ms : MS} (F : Fun K x qual st f fd) (S : FnScope N ps (defScope st)) (hio : io.all (fun i => decide (i < ps.length)) = true)
    (hbody : ∀ (cdv : Value) (A : Around) (outer : List Env) (s : Shared) (H : Hp) (E : XK), Room k (A.deeper (envOfC qual (defScope st) s.heap.objs.size f cdv)) →
      ∃ ts, RB (cxOf CX0 P w K mg base N qual (defScope st) f cdv A outer s H E).nox io (defBody st) ts ms) : FnOk P w K mg base CX0 (k + 1) f fd ps (spO K ps.length (mFnO ps.length N.length io ms)) := by
  refine F.ok S (fun vs H Q E h => h.1) (fun cdv A outer s H1 vs Q Ex hr h => ?_)
  obtain ⟨hl, H, E, d, E', e, R, q⟩ := h
  obtain ⟨ts, hb⟩ := hbody cdv A outer s H1 Ex hr
  refine ⟨ts, hb.ps, ?_⟩
  have hE : vs.length = E.length := by have := R.len; rwa [List.length_map] at this
  unfold mFnO at e
  split at e
  · rename_i hEl
    obtain ⟨out, e1, e2⟩ := bnd e
    rw [← hEl] at e1
    refine hb.ev _ out e1 (L2.start N vs) H H1 (R.start N) _ ?_
    cases out with
    | ro o E2 =>
      cases e2
      intro σ' p H' H2 g h1 h0 nO ho
      obtain ⟨R2, st2⟩ := R.finish (N := N) (fun i hi => by
        have := of_decide_eq_true (List.all_eq_true.mp hio i hi)
        omega) g
      refine q p H' H2 st2 R2 (h1.imp id (owns_start hE N)) h0 (fun z => ?_) ho
      obtain ⟨j, o', f1, f2⟩ := z
      rcases outS_get io E2 0 E j _ f1 with ⟨d, z, _⟩ | z | ⟨z, w⟩
      · cases z
      · cases z
      · rw [Nat.zero_add] at z w
        have h2 := g.keep j z
        have hj : j < E.length := by
          have := of_decide_eq_true (List.all_eq_true.mp hio j z)
          omega
        have h3 : (L2.start N vs)[j]? = (vs.map some)[j]? := by
          unfold L2.start
          rw [List.getElem?_append_left (by rw [List.length_map, hE]; exact hj)]
        exact nO ⟨j, o', w, by rw [h2, h3]; exact f2⟩
    | nx E2 => cases e2
    | rt d2 E2 => cases e2
    | bk E2 => cases e2
    | ct E2 => cases e2
  · cases e
end
section
variable {K : PySem.W.Frag}
theorem ev_callO {fh : MFO} {a : MG} {ta : TA} {n : Nat} {Ex : XK} (ha : EvG K ta a) (hn : ∀ E as E', a E = some (as, E') → as.length = n) : EvO K (tCall (spO K n fh) [] Ex ta) (mCallO fh a) := by
  intro E d E' e σ H H1 R Q q
  obtain ⟨⟨as, E1⟩, e1, e⟩ := bnd e
  split at e
  · rename_i nd
    obtain ⟨⟨d1, Ec⟩, e2, e⟩ := bnd e
    cases e
    refine ha E as E1 e1 σ H H1 R _ fun vs Ha Hb st R1 r1 => ?_
    refine ⟨by rw [List.append_nil, r1.length]; exact hn _ _ _ e1, Ha, argEn E1 as, d1, Ec, e2, by rw [List.append_nil]; exact R1.args r1 nd, fun p Hc Hd stc Rc h1 h0 nO ho => ?_⟩
    rw [List.append_nil] at stc Rc nO h1
    obtain ⟨R2, st2⟩ := R1.back r1 nd stc Rc
    have toE1 : Owns (argEn E1 as) (vs.map some) p → Owns E1 σ p := fun z => by
      obtain ⟨k, i, o, f1, f2, f3⟩ := owns_args r1 z
      exact ⟨i, o, f2, f3⟩
    refine q p Hc Hd (st.trans st2) R2 ?_ h0 (fun z => ?_) ho
    · rcases h1 with y | y
      · exact .inl (st.dm p y)
      · exact (st.ow p (toE1 y)).symm
    · -- no slot of the caller's holds it
      obtain ⟨j, o', f1, f2⟩ := z
      by_cases hj : j ∈ slotsOf as
      · have lenc : Ec.length = as.length := by
          have h := Rc.len
          rw [List.length_map, r1.length] at h
          exact h.symm
        obtain ⟨k, g1, g2⟩ := putBack_in as Ec E1 j _ nd lenc hj f1
        obtain ⟨v, g3, g4⟩ := r1.get g1
        cases g4 with
        | s g5 =>
          rw [f2] at g5
          cases g5
          exact nO ⟨k, o', g2, by rw [List.getElem?_map, g3]; rfl⟩
      · rw [putBack_out as Ec E1 j hj] at f1
        rcases h1 with y | y
        · exact (R1.there ⟨j, o', f1, f2⟩).2 y
        · obtain ⟨k, i, o2, g1, g2, g3⟩ := owns_args r1 y
          have := R1.sep i j o2 o' p g2 f1 g3 f2
          subst this
          exact hj (slot_mem g1)
  · cases e
end
section
variable {X : Cx} {CX : CXT} {k n : Nat} {f : Addr} {fd : FuncData} {ps : List Str} {fh : MFO} {Ex : XK} {x : Str} {p pos : Pos} {e : Expr} {es : List Expr} {ta : TA} {a : MG}
theorem ro_call (F : FnOk X.prog X.w X.K X.mg X.base CX k f fd ps (spO X.K n fh)) (hr : Room k X.A) (hg : Gl X x) (hm : X.mg x = some (.ref f)) (hk : PySem.W.keepIn X.K (.ref f) = true) (hb : Binds X.K fd ps []) (hx : Passes CX X Ex)
    (ha : RG X (e :: es) ta a) (hn : ∀ E as E', a E = some (as, E') → as.length = n) (hdb : (x == ("__debug__" : Str)) = false := by decide) (he : starEach (e :: es) X.env = (false, eval e X.env) :: starEach es X.env := by rfl) (hpl : (backTo pos (starEach es X.env)).any (·.1) = false := by rfl) :
    RO X (.Call (.Name x p) (e :: es) [] pos) (tCall (spO X.K n fh) [] Ex ta) (mCallO fh a) := ⟨pe_call F hr hg hm hk hb .nil hx ha.pa hdb he hpl, ev_callO ha.ev hn⟩
end
section
variable {X : Cx} {CX : CXT} {k n : Nat} {f : Addr} {fd : FuncData} {ps : List Str} {fh : MF} {Ex : XK} {x : Str} {p pos : Pos} {e : Expr} {es : List Expr} {ta : TA} {a : MG}
theorem re_call (F : FnOk X.prog X.w X.K X.mg X.base CX k f fd ps (spD X.K n fh)) (hr : Room k X.A) (hg : Gl X x) (hm : X.mg x = some (.ref f)) (hk : PySem.W.keepIn X.K (.ref f) = true) (hb : Binds X.K fd ps []) (hx : Passes CX X Ex)
    (ha : RG X (e :: es) ta a) (hn : ∀ E as E', a E = some (as, E') → as.length = n) (hdb : (x == ("__debug__" : Str)) = false := by decide) (he : starEach (e :: es) X.env = (false, eval e X.env) :: starEach es X.env := by rfl) (hpl : (backTo pos (starEach es X.env)).any (·.1) = false := by rfl) :
    RE X (.Call (.Name x p) (e :: es) [] pos) (tCall (spD X.K n fh) [] Ex ta) (mCall fh a) := ⟨pe_call F hr hg hm hk hb .nil hx ha.pa hdb he hpl, ev_call ha.ev hn⟩
end
theorem an_nil : ∀ E as E', aNil E = some (as, E') → as.length = 0 := fun E as E' h => by cases h; rfl
theorem an_d {f : MX} {a : MG} {n : Nat} (h : ∀ E as E', a E = some (as, E') → as.length = n) : ∀ E as E', aD f a E = some (as, E') → as.length = n + 1 := fun E as E' e => by
  obtain ⟨⟨d1, E1⟩, e1, e⟩ := bnd e
  obtain ⟨⟨d2, E2⟩, e2, e⟩ := bnd e
  cases e
  rw [List.length_cons, h _ _ _ e2]
theorem an_s {i : Nat} {a : MG} {n : Nat} (h : ∀ E as E', a E = some (as, E') → as.length = n) : ∀ E as E', aSl i a E = some (as, E') → as.length = n + 1 := fun E as E' e => by
  have e' : aS i a E = some (as, E') := by
    unfold aSl at e
    split at e
    · exact e
    · exact e
    · cases e
  obtain ⟨⟨d2, E2⟩, e2, e3⟩ := bnd e'
  cases e3
  rw [List.length_cons, h _ _ _ e2]
end Dm

/-! Dm: subscripts, slices, built-ins, dicts read. -/
namespace Dm
open PySem PySem.Spec PyProof.Rows L2

/-! ### keys -/
def isKD : PyData → Bool
  | .int _ => true
  | .str _ => true
  | _ => false
/-- a key: flat, or a tuple of flat ones that no module's constant is -/
def look (kvs : List (PyData × PyData)) (k : PyData) : Option PyData := (kvs.find? fun p => PyData.eqv p.1 k).map (·.2)
def isTag : List (PyData × PyData) → Bool
  | (.none, _) :: _ => true
  | _ => false
/-- the dict's answer at a key, where it can be asked -/
def dAsk (kvs : List (PyData × PyData)) (k : PyData) : Option (Option PyData) :=
  match k with
  | .tuple ks => if isTag kvs && ks.all isKD && !kOk ks then some (look kvs.tail k) else none
  | _ => if isKD k && !isTag kvs then some (look kvs k) else none
theorem kD_key : ∀ {k : Key}, isKD (kD k) = true
  | .inl _ => rfl
  | .inr _ => rfl
theorem eqv_kD (k j : Key) : PyData.eqv (kD k) (kD j) = decide (k = j) := by
  rcases k with i | x <;> rcases j with i' | x'
  · show (i == i') = _
    by_cases h : i = i'
    · subst h; simp
    · rw [beq_eq_false_iff_ne.mpr h, decide_eq_false]; exact fun z => h (Sum.inl.inj z)
  · show false = _
    rw [decide_eq_false]; exact fun z => nomatch z
  · show false = _
    rw [decide_eq_false]; exact fun z => nomatch z
  · show (x == x') = _
    by_cases h : x = x'
    · subst h; simp
    · rw [beq_eq_false_iff_ne.mpr h, decide_eq_false]; exact fun z => h (Sum.inr.inj z)
theorem eqv_kDs : ∀ (k j : List Key), PyData.eqvAll (k.map kD) (j.map kD) = decide (k = j)
  | [], [] => rfl
  | [], _ :: _ => by simp [PyData.eqvAll]
  | _ :: _, [] => by simp [PyData.eqvAll]
  | a :: k, b :: j => by
    rw [List.map_cons, List.map_cons, PyData.eqvAll, eqv_kD, eqv_kDs k j]
    by_cases h1 : a = b <;> by_cases h2 : k = j <;> simp [h1, h2]
section
variable {K : PySem.W.Frag} {H H1 : Hp}
theorem Rp.key {v : V} {d : PyData} (r : Rp K H v d) (h : isKD d = true) : ∃ k : Key, d = kD k ∧ v = kV k := by
  cases r with
  | int i => exact ⟨.inl i, rfl, rfl⟩
  | str x => exact ⟨.inr x, rfl, rfl⟩
  | _ => cases h
theorem RpAll.keys : ∀ {vs : List V} {ds : List PyData}, RpAll K H vs ds → ds.all isKD = true → ∃ ks : List Key, ds = ks.map kD ∧ vs = ks.map kV
  | _, _, .nil, _ => ⟨[], rfl, rfl⟩
  | _, _, .cons r t, h => by
    rw [List.all_cons, Bool.and_eq_true] at h
    obtain ⟨k, e1, e2⟩ := r.key h.1
    obtain ⟨ks, f1, f2⟩ := RpAll.keys t h.2
    exact ⟨k :: ks, by rw [e1, f1]; rfl, by rw [e2, f2]; rfl⟩
/-- what stands at a key, on both sides -/
inductive RpO (K : PySem.W.Frag) (H : Hp) : Option V → Option PyData → Prop
  | none : RpO K H none none
  | some {v : V} {d : PyData} : Rp K H v d → RpO K H (some v) (some d)
theorem RpO.isSome {a : Option V} {b : Option PyData} (h : RpO K H a b) : a.isSome = b.isSome := by cases h <;> rfl
theorem RpKV.look : ∀ {ks : List (Key × V)} {ds : List (PyData × PyData)} (k : Key), RpKV K H ks ds → RpO K H (valV ks k) (look ds (kD k))
  | _, _, _, .nil => .none
  | _, _, k, .cons (k := k') (v := v) (vs := vs) (d := d) (ds := ds) r t => by
    unfold Dm.look
    rw [List.find?_cons]
    by_cases h : k' = k
    · rw [valV_pos (p := (k', v)) h]
      have e : PyData.eqv (kD k', d).1 (kD k) = true := by rw [eqv_kD]; exact decide_eq_true h
      simp only [e]
      exact .some r
    · rw [valV_neg (p := (k', v)) h]
      have e : PyData.eqv (kD k', d).1 (kD k) = false := by rw [eqv_kD]; exact decide_eq_false h
      simp only [e]
      exact RpKV.look k t
theorem RpKT.look : ∀ {ks : List (List Key × V)} {ds : List (PyData × PyData)} (k : List Key), RpKT K H ks ds → RpO K H (valV ks k) (look ds (.tuple (k.map kD)))
  | _, _, _, .nil => .none
  | _, _, k, .cons (k := k') (v := v) (vs := vs) (d := d) (ds := ds) r t => by
    unfold Dm.look
    rw [List.find?_cons]
    by_cases h : k' = k
    · rw [valV_pos (p := (k', v)) h]
      have e : PyData.eqv (PyData.tuple (k'.map kD), d).1 (.tuple (k.map kD)) = true := by show PyData.eqvAll _ _ = true; rw [eqv_kDs]; exact decide_eq_true h
      simp only [e]
      exact .some r
    · rw [valV_neg (p := (k', v)) h]
      have e : PyData.eqv (PyData.tuple (k'.map kD), d).1 (.tuple (k.map kD)) = false := by show PyData.eqvAll _ _ = false; rw [eqv_kDs]; exact decide_eq_false h
      simp only [e]
      exact RpKT.look k t
theorem RpKV.noTag {ks : List (Key × V)} {ds : List (PyData × PyData)} (r : RpKV K H ks ds) : isTag ds = false := by
  cases r with
  | nil => rfl
  | cons => rename_i k _ _ _ _ _ _; cases k <;> rfl
/-- a dict asked, over the heap -/
theorem dAsk_get {v y : V} {ds : List (PyData × PyData)} {k : PyData} {o : Option PyData} (l : Le H H1) (rv : Rp K H v (.dict ds)) (ry : Rp K H y k) (h : dAsk ds k = some o) : ∃ a ov, v = .ref a ∧ DGet H1 a y ov ∧ RpO K H ov o := by
  cases rv with
  | dK rd r =>
    have nt := r.noTag
    unfold dAsk at h
    split at h
    · rw [nt] at h
      simp only [Bool.false_and, Bool.false_eq_true, if_false] at h
      cases h
    · split at h
      · rename_i hk
        rw [Bool.and_eq_true] at hk
        cases h
        obtain ⟨k', rfl, rfl⟩ := ry.key hk.1
        exact ⟨_, _, rfl, .inl ⟨_, k', l.rd rd, rfl, rfl⟩, r.look k'⟩
      · cases h
  | dT rd r =>
    unfold dAsk at h
    split at h
    · split at h
      · rename_i ks hk
        rw [Bool.and_eq_true, Bool.and_eq_true] at hk
        cases h
        obtain ⟨b, ws, rfl, sq, ra⟩ := ry.tup_inv' (by simpa using hk.2)
        obtain ⟨k', rfl, rfl⟩ := ra.keys hk.1.2
        exact ⟨_, _, rfl, .inr ⟨_, k', b, l.rd rd, rfl, l.tup sq, rfl⟩, r.look k'⟩
      · cases h
    · split at h
      · rename_i hk
        rw [Bool.and_eq_true] at hk
        simp [isTag] at hk
      · cases h
end

/-! ### subscripts -/
def gIx : PyData → PyData → Option PyData
  | .list ds, .int i => atI ds i
  | .tuple ds, .int i => atI ds i
  | .str z, .int i => if z.length ≤ sizeLine then (atI z.cps.toList i).map fun c => .str ⟨#[c]⟩ else none
  | .dict kvs, k => (dAsk kvs k).bind id
  | _, _ => none
def isDictD : PyData → Bool
  | .dict _ => true
  | _ => false
section
variable {K : PySem.W.Frag} {H H1 : Hp}
theorem RpAll.atI {vs : List V} {ds : List PyData} {i : Int} {d : PyData} (r : RpAll K H vs ds) (h : L2.atI ds i = some d) : ∃ v, L2.atI vs i = some v ∧ Rp K H v d := by
  unfold L2.atI at h ⊢
  rw [r.length]
  obtain ⟨j, e1, e2⟩ := bnd h
  obtain ⟨v, f1, f2⟩ := r.get e2
  exact ⟨v, by rw [e1]; exact f1, f2⟩
theorem ix_seq' {v w : V} {d d' e : PyData} (l : Le H H1) (rv : Rp K H v d) (rw' : Rp K H w d') (nd : isDictD d = false) (h : gIx d d' = some e) {Q : VK} (q : ∀ u, Rp K H u e → Q u H1) : rIx K v w H1 Q := by
  unfold gIx at h
  split at h
  · obtain ⟨a, xs, rfl, sq, ra⟩ := rv.lst_inv
    obtain ⟨u, hu, ru⟩ := ra.atI h
    exact .inl ⟨a, xs, _, u, rfl, rw'.int_inv, l.l sq, hu, q u ru⟩
  · obtain ⟨a, xs, rfl, sq, ra⟩ := rv.tup_inv
    obtain ⟨u, hu, ru⟩ := ra.atI h
    exact .inr (.inl ⟨a, xs, _, u, rfl, rw'.int_inv, l.t sq, hu, q u ru⟩)
  · split at h
    · rename_i hz
      obtain ⟨c, hc, e2⟩ := Option.map_eq_some_iff.mp h
      subst e2
      exact .inr (.inr ⟨_, _, c, rv.str_inv, rw'.int_inv, hz, hc, q _ (.str _)⟩)
    · cases h
  · cases nd
  · cases h
end
section
variable {K : PySem.W.Frag} {ta tb : TE} {f h : MX}
theorem ev_sub : ∀ (_ : EvX K ta f) (_ : EvX K tb h), EvX K (fun σ H Q => tOp (rIx K) ta tb σ H Q ∨ tDGet ta tb σ H Q) (mOp2 gIx f h) := by
  intro ha hb E d E' e σ H H1 R Q q
  obtain ⟨⟨d1, E1⟩, e1, e⟩ := bnd e
  obtain ⟨⟨d2, E2⟩, e2, e⟩ := bnd e
  obtain ⟨z, e3, e⟩ := bnd e
  cases e
  cases hd : isDictD d1 with
  | false => exact .inl (ev2 ha hb e1 e2 R fun v w Ha Hb st R1 r1 r2 => ix_seq' R1.le r1 r2 hd e3 fun u ru => q u Ha Hb st R1 ru)
  | true =>
    refine .inr (ev2 ha hb e1 e2 R fun v w Ha Hb st R1 r1 r2 => ?_)
    cases d1 with
    | dict kvs =>
      have e4 : (dAsk kvs d2).bind id = some d := by
        unfold gIx at e3
        exact e3
      obtain ⟨o, e5, e6⟩ := bnd e4
      have e6' : o = some d := e6
      subst e6'
      obtain ⟨a, ov, rfl, g, ro⟩ := dAsk_get R1.le r1 r2 e5
      cases ro with
      | some ru => exact ⟨a, _, rfl, g, q _ Ha Hb st R1 ru⟩
    | _ => cases hd
end
section
variable {X : Cx} {a b : Expr} {ta tb : TE} {f h : MX} {pos : Pos}
theorem re_ix (hu : X.A.units + 1 < cLine) (ha : RE X a ta f) (hb : RE X b tb h) (hs : PlainIx b) : RE X (.Subscript a b pos) (fun σ H Q => tOp (rIx X.K) ta tb σ H Q ∨ tDGet ta tb σ H Q) (mOp2 gIx f h) :=
  ⟨PE.or (pe_ix ix_seq ha.pe hb.pe hs) (pe_dget hu ha.pe hb.pe hs), ev_sub ha.ev hb.ev⟩
end

/-! ### in, not in: anything -/
def gInA (d c : PyData) : Option PyData := match c with
  | .dict kvs => (dAsk kvs d).bind fun o => some (.bool o.isSome)
  | c => gIn d c
def gNotInA (d c : PyData) : Option PyData := match c with
  | .dict kvs => (dAsk kvs d).bind fun o => some (.bool (!o.isSome))
  | c => gNotIn d c
section
variable {K : PySem.W.Frag} {ta tb : TE} {f h : MX}
theorem ev_inA (ha : EvX K ta f) (hb : EvX K tb h) : EvX K (fun σ H Q => tOp (rInP K false) ta tb σ H Q ∨ tDIn ta tb σ H Q) (mOp2 gInA f h) := by
  intro E d E' e σ H H1 R Q q
  obtain ⟨⟨d1, E1⟩, e1, e⟩ := bnd e
  obtain ⟨⟨d2, E2⟩, e2, e⟩ := bnd e
  obtain ⟨z, e3, e⟩ := bnd e
  cases e
  have seq : ∀ (_ : gIn d1 d2 = some d), tOp (rInP K false) ta tb σ H1 Q := fun e4 => ev2 ha hb e1 e2 R fun v w Ha Hb st R1 r1 r2 => rx_in Ha Hb v w d1 d2 _ R1.le r1 r2 e4 Q fun u Hc Hd n ru => q u Hc Hd (st.trans (n.stp _)) (R1.nw n) ru
  cases d2 with
  | dict kvs =>
    refine .inr (ev2 ha hb e1 e2 R fun v w Ha Hb st R1 r1 r2 => ?_)
    obtain ⟨o, e5, e6⟩ := bnd (show (dAsk kvs d1).bind _ = some d from e3)
    cases e6
    obtain ⟨a, ov, rfl, g, ro⟩ := dAsk_get R1.le r2 r1 e5
    exact ⟨a, ov, rfl, g, q _ Ha Hb st R1 (by rw [ro.isSome]; exact .bl _)⟩
  | _ => exact .inl (seq e3)
theorem ev_notInA (ha : EvX K ta f) (hb : EvX K tb h) : EvX K (fun σ H Q => tOp (rInP K true) ta tb σ H Q ∨ tDNotIn ta tb σ H Q) (mOp2 gNotInA f h) := by
  intro E d E' e σ H H1 R Q q
  obtain ⟨⟨d1, E1⟩, e1, e⟩ := bnd e
  obtain ⟨⟨d2, E2⟩, e2, e⟩ := bnd e
  obtain ⟨z, e3, e⟩ := bnd e
  cases e
  have seq : ∀ (_ : gNotIn d1 d2 = some d), tOp (rInP K true) ta tb σ H1 Q := fun e4 => ev2 ha hb e1 e2 R fun v w Ha Hb st R1 r1 r2 => rx_notIn Ha Hb v w d1 d2 _ R1.le r1 r2 e4 Q fun u Hc Hd n ru => q u Hc Hd (st.trans (n.stp _)) (R1.nw n) ru
  cases d2 with
  | dict kvs =>
    refine .inr (ev2 ha hb e1 e2 R fun v w Ha Hb st R1 r1 r2 => ?_)
    obtain ⟨o, e5, e6⟩ := bnd (show (dAsk kvs d1).bind _ = some d from e3)
    cases e6
    obtain ⟨a, ov, rfl, g, ro⟩ := dAsk_get R1.le r2 r1 e5
    exact ⟨a, ov, rfl, g, q _ Ha Hb st R1 (by rw [ro.isSome]; exact .bl _)⟩
  | _ => exact .inl (seq e3)
end
section
variable {X : Cx} {a b : Expr} {ta tb : TE} {f h : MX} {pos : Pos}
theorem re_in (hu : X.A.units + 64 < cLine) (ha : RE X a ta f) (hb : RE X b tb h) (hm : behindInMarks .In b = false := by rfl) : RE X (.Compare a [.In] [b] pos) (fun σ H Q => tOp (rInP X.K false) ta tb σ H Q ∨ tDIn ta tb σ H Q) (mOp2 gInA f h) :=
  ⟨PE.or (pe_cmpR (op_inP hu) ha.pe hb.pe hm) (pe_cmp (pc_din (by omega) ha.pe hb.pe) hm), ev_inA ha.ev hb.ev⟩
theorem re_notIn (hu : X.A.units + 64 < cLine) (ha : RE X a ta f) (hb : RE X b tb h) (hm : behindInMarks .NotIn b = false := by rfl) : RE X (.Compare a [.NotIn] [b] pos) (fun σ H Q => tOp (rInP X.K true) ta tb σ H Q ∨ tDNotIn ta tb σ H Q) (mOp2 gNotInA f h) :=
  ⟨PE.or (pe_cmpR (op_notInP hu) ha.pe hb.pe hm) (pe_cmp (pc_dnotin (by omega) ha.pe hb.pe) hm), ev_notInA ha.ev hb.ev⟩
/-- a comparison whose value is a bool, as a test -/
theorem pt_cmpV {op : CmpOp} {te : TE} (h : PE X (.Compare a [op] [b] pos) te) (h1 : ∀ t, PE X (.Compare a [op] [b] pos) t → PT X (.Compare a [op] [b] pos) (tTest t)) : PT X (.Compare a [op] [b] pos) (tTest te) := h1 te h
end

/-! ### slices -/
def cutD (xs : List PyData) (lo hi : Option Int) : List PyData := (xs.drop (HT.sIx xs.length 0 lo)).take (HT.sIx xs.length xs.length hi - HT.sIx xs.length 0 lo)
def gSl (d : PyData) (lo hi : Option Int) : Option PyData := match d with
  | .list ds => some (.list (cutD ds lo hi))
  | .tuple ds => some (.tuple (cutD ds lo hi))
  | .str z => if z.length ≤ sizeLine then some (.str (cutS z lo hi)) else none
  | _ => none
abbrev MP := En → Option (Option Int × En)
def pNo : MP := fun E => some (none, E)
def pSo (f : MX) : MP := fun E => (f E).bind fun p => match p.1 with
  | .int i => some (some i, p.2)
  | _ => none
def mSl (f : MX) (a b : MP) : MX := fun E => (f E).bind fun p => (a p.2).bind fun q => (b q.2).bind fun r => (gSl p.1 q.1 r.1).bind fun z => some (z, r.2)
def EvP (K : PySem.W.Frag) (to : TO) (f : MP) : Prop := ∀ E o E', f E = some (o, E') → ∀ σ H H1, EnvR K E σ H H1 → ∀ Q : Option Int → Hp → Prop, (∀ H' H2, Stp (Owns E σ) H H1 (Owns E' σ) H' H2 → EnvR K E' σ H' H2 → Q o H2) → to σ H1 Q
structure RP (X : Cx) (e : Option Expr) (to : TO) (f : MP) : Prop where
  po : PO X e to
  ev : EvP X.K to f
def rSlD (K : PySem.W.Frag) : V → Option Int → Option Int → Hp → VK → Prop := fun x lo hi H Q => rSlL K x lo hi H Q ∨ rSlA K x lo hi H Q ∨ rSlS x lo hi H Q
theorem sl_D {X : Cx} : SlR X (rSlD X.K) := SlR.or sl_list (SlR.or sl_tupA sl_str)
section
variable {K : PySem.W.Frag} {te : TE} {tl th : TO} {f : MX} {a b : MP}
theorem ev_pno : EvP K tNoPart pNo := by
  intro E o E' e σ H H1 R Q q
  cases e
  exact q H H1 .refl R
theorem ev_pso (h : EvX K te f) : EvP K (tPart te) (pSo f) := by
  intro E o E' e σ H H1 R Q q
  obtain ⟨⟨d1, E1⟩, e1, e⟩ := bnd e
  simp only at e
  split at e
  · cases e
    exact h E _ _ e1 σ H H1 R _ fun v Ha Hb st R1 r => ⟨_, r.int_inv, q Ha Hb st R1⟩
  · cases e
theorem cut_rp {H : Hp} {vs : List V} {ds : List PyData} (r : RpAll K H vs ds) (lo hi : Option Int) : RpAll K H (cutV vs lo hi) (cutD ds lo hi) := by
  unfold cutV cutD
  rw [r.length]
  exact (r.drop _).take _
theorem cut_whole {xs : List V} {ds : List PyData} {lo hi : Option Int} (hl : xs.length = ds.length) (h1 : HT.sIx xs.length 0 lo = 0) (h2 : HT.sIx xs.length xs.length hi = xs.length) : cutD ds lo hi = ds := by
  unfold cutD
  rw [← hl, h1, h2, List.drop_zero, Nat.sub_zero, hl, List.take_length]
theorem ev_sl (hf : EvX K te f) (ha : EvP K tl a) (hb : EvP K th b) : EvX K (tSl (rSlD K) te tl th) (mSl f a b) := by
  intro E d E' e σ H H1 R Q q
  obtain ⟨⟨d1, E1⟩, e1, e⟩ := bnd e
  obtain ⟨⟨lo, E2⟩, e2, e⟩ := bnd e
  obtain ⟨⟨hi, E3⟩, e3, e⟩ := bnd e
  obtain ⟨z, e4, e⟩ := bnd e
  cases e
  refine hf E d1 E1 e1 σ H H1 R _ fun v Ha Hb st1 R1 r1 => ha E1 lo E2 e2 σ Ha Hb R1 _ fun Hc Hd st2 R2 => hb E2 hi E3 e3 σ Hc Hd R2 _ fun He Hf st3 R3 => ?_
  have st := (st1.trans st2).trans st3
  have r := (r1.mono (.of st2.ex)).mono (.of st3.ex)
  have e4 : gSl d1 lo hi = some d := e4
  unfold gSl at e4
  split at e4
  · cases e4
    obtain ⟨p, xs, rfl, sq, ra⟩ := r.lst_inv
    refine .inl ⟨p, xs, rfl, R3.le.l sq, fun l hl => ?_⟩
    have n := Nw.one (o := .lst (cutV xs lo hi)) R3.le hl
    exact q _ _ _ (st.trans (n.stp _)) (R3.nw n) (.lst (SqL.of upd_same) ((cut_rp ra lo hi).mono (.of n.ex)))
  · cases e4
    obtain ⟨p, xs, rfl, sq, ra⟩ := r.tup_inv
    refine .inr (.inl ⟨p, xs, rfl, R3.le.t sq, fun hw => ?_, fun _ l hl => ?_⟩)
    · exact q _ _ _ st R3 (by rw [cut_whole ra.length hw.1 hw.2]; exact r)
    · have n := Nw.one (o := .tup (cutV xs lo hi)) R3.le hl
      exact q _ _ _ (st.trans (n.stp _)) (R3.nw n) (.tup upd_same ((cut_rp ra lo hi).mono (.of n.ex)))
  · split at e4
    · rename_i hz
      cases e4
      exact .inr (.inr ⟨_, r.str_inv, hz, q _ _ _ st R3 (.str _)⟩)
    · cases e4
  · cases e4
end
section
variable {X : Cx} {e : Expr} {lo hi : Option Expr} {te : TE} {tl th : TO} {f : MX} {a b : MP} {pos p2 : Pos}
theorem rp_no : RP X none tNoPart pNo := ⟨po_none, ev_pno⟩
theorem rp_so (h : RE X e te f) : RP X (some e) (tPart te) (pSo f) := ⟨po_some h.pe, ev_pso h.ev⟩
theorem re_sl (hf : RE X e te f) (ha : RP X lo tl a) (hb : RP X hi th b) : RE X (.Subscript e (.Slice lo hi none p2) pos) (tSl (rSlD X.K) te tl th) (mSl f a b) := ⟨pe_slice sl_D hf.pe ha.po hb.po, ev_sl hf.ev ha.ev hb.ev⟩
end

/-! ### built-ins by values -/
def mCb (g : List PyData → Option PyData) (a : ML) : MX := fun E => (a E).bind fun p => (g p.1).bind fun z => some (z, p.2)
section
variable {K : PySem.W.Frag} {ta : TA} {a : ML} {r : List V → Hp → VK → Prop} {g : List PyData → Option PyData}
theorem ev_cb (hr : RXL K r g) (ha : EvL K ta a) : EvX K (tCB r ta) (mCb g a) := by
  intro E d E' e σ H H1 R Q q
  obtain ⟨⟨ds, E1⟩, e1, e⟩ := bnd e
  obtain ⟨z, e2, e⟩ := bnd e
  cases e
  exact ha E ds E1 e1 σ H H1 R _ fun vs Ha Hb st R1 r1 => hr Ha Hb vs ds _ R1.le r1 e2 Q fun u Hc Hd n ru => q u Hc Hd (st.trans (n.stp _)) (R1.nw n) ru
end
section
variable {X : Cx} {x : Str} {p pos : Pos} {e : Expr} {es : List Expr} {ta : TA} {a : ML} {id T : String} {r : List V → Hp → VK → Prop} {g : List PyData → Option PyData}
theorem re_cb (hc : CallR X (.builtin id) r) (hr : RXL X.K r g) (hg : Gl X x) (hm : X.mg x = none) (hv : bootBuiltins x = some (.builtin id)) (ha : RL X (e :: es) ta a) (hn : x ≠ "__name__" := by decide) (hdb : (x == ("__debug__" : Str)) = false := by decide)
    (he : starEach (e :: es) X.env = (false, eval e X.env) :: starEach es X.env := by rfl) (hpl : (backTo pos (starEach es X.env)).any (·.1) = false := by rfl) : RE X (.Call (.Name x p) (e :: es) [] pos) (tCB r ta) (mCb g a) := ⟨pe_callB hc hg hm hv ha.pa hn hdb he hpl, ev_cb hr ha.ev⟩
theorem re_ct (hc : CallR X (.type T) r) (hr : RXL X.K r g) (hg : Gl X x) (hm : X.mg x = none) (hv : bootBuiltins x = some (.type T)) (ha : RL X (e :: es) ta a) (hn : x ≠ "__name__" := by decide) (hdb : (x == ("__debug__" : Str)) = false := by decide)
    (he : starEach (e :: es) X.env = (false, eval e X.env) :: starEach es X.env := by rfl) (hpl : (backTo pos (starEach es X.env)).any (·.1) = false := by rfl) : RE X (.Call (.Name x p) (e :: es) [] pos) (tCB r ta) (mCb g a) := ⟨pe_callTy hc hg hm hv ha.pa hn hdb he hpl, ev_cb hr ha.ev⟩
end
/-- len of a text, a list, a tuple -/
def gLen : List PyData → Option PyData
  | [.str z] => if z.length ≤ sizeLine then some (.int z.length) else none
  | [.list ds] => some (.int ds.length)
  | [.tuple ds] => some (.int ds.length)
  | _ => none
def rLenD (K : PySem.W.Frag) : List V → Hp → VK → Prop := fun xs H Q => ∃ x n, xs = [x] ∧ LenV K x H n ∧ Q (.int n) H
theorem cr_lenD {X : Cx} : CallR X (.builtin "len") (rLenD X.K) := call_len
theorem rx_len {K : PySem.W.Frag} : RXL K (rLenD K) gLen := by
  intro H H1 vs ds e l r h Q q
  unfold gLen at h
  split at h
  · split at h
    · rename_i hz
      cases h
      cases r with
      | cons r rr =>
        cases rr
        cases r
        exact ⟨_, _, rfl, ⟨hz, rfl⟩, q _ H H1 (Nw.refl l) (.int _)⟩
    · cases h
  · cases h
    cases r with
    | cons r rr =>
      cases rr
      obtain ⟨p, xs, rfl, sq, ra⟩ := r.lst_inv
      exact ⟨_, _, rfl, .inl ⟨xs, l.l sq, ra.length.symm⟩, q _ H H1 (Nw.refl l) (.int _)⟩
  · cases h
    cases r with
    | cons r rr =>
      cases rr
      obtain ⟨p, xs, rfl, sq, ra⟩ := r.tup_inv
      exact ⟨_, _, rfl, .inr ⟨xs, l.t sq, ra.length.symm⟩, q _ H H1 (Nw.refl l) (.int _)⟩
  · cases h
/-- int of an int, a bool -/
def gInt : List PyData → Option PyData
  | [.int i] => some (.int i)
  | [.bool b] => some (.int (if b then 1 else 0))
  | _ => none
def rInt1 : List V → Hp → VK → Prop := fun xs H Q => (∃ i, xs = [.int i] ∧ Q (.int i) H) ∨ ∃ k, xs = [.bl k] ∧ Q (.int (if k then 1 else 0)) H
theorem cr_int1 {X : Cx} : CallR X (.type "int") rInt1 := call_int1
theorem rx_int {K : PySem.W.Frag} : RXL K rInt1 gInt := by
  intro H H1 vs ds e l r h Q q
  unfold gInt at h
  split at h
  · cases h
    cases r with
    | cons r rr =>
      cases rr
      cases r
      exact .inl ⟨_, rfl, q _ H H1 (Nw.refl l) (.int _)⟩
  · cases h
    cases r with
    | cons r rr =>
      cases rr
      cases r
      exact .inr ⟨_, rfl, q _ H H1 (Nw.refl l) (.int _)⟩
  · cases h
/-- tuple(x), list(x) of lists and tuples -/
def gTupOf : List PyData → Option PyData
  | [.list ds] => some (.tuple ds)
  | [.tuple ds] => some (.tuple ds)
  | _ => none
def gListOf : List PyData → Option PyData
  | [.list ds] => some (.list ds)
  | [.tuple ds] => some (.list ds)
  | _ => none
def rTupOf (K : PySem.W.Frag) : List V → Hp → VK → Prop := fun xs H Q => ∃ p ys, xs = [.ref p] ∧ ((SqL K H p ys ∧ ∀ l, H l = none → Q (.ref l) (upd H l (.tup ys))) ∨ (SqT K H p ys ∧ Q (.ref p) H))
def rListOf (K : PySem.W.Frag) : List V → Hp → VK → Prop := fun xs H Q => ∃ p ys, xs = [.ref p] ∧ (SqL K H p ys ∨ SqT K H p ys) ∧ ∀ l, H l = none → Q (.ref l) (upd H l (.lst ys))
theorem cr_tupOf {X : Cx} : CallR X (.type "tuple") (rTupOf X.K) := call_tuple_of
theorem cr_listOf {X : Cx} : CallR X (.type "list") (rListOf X.K) := call_list_of
theorem rx_tupOf {K : PySem.W.Frag} : RXL K (rTupOf K) gTupOf := by
  intro H H1 vs ds e l r h Q q
  unfold gTupOf at h
  split at h
  · cases h
    cases r with
    | cons r rr =>
      cases rr
      obtain ⟨p, xs, rfl, sq, ra⟩ := r.lst_inv
      refine ⟨p, xs, rfl, .inl ⟨l.l sq, fun t ht => ?_⟩⟩
      have n := Nw.one (o := .tup xs) l ht
      exact q _ _ _ n (.tup upd_same (ra.mono (.of n.ex)))
  · cases h
    cases r with
    | cons r rr =>
      cases rr
      obtain ⟨p, xs, rfl, sq, ra⟩ := r.tup_inv
      exact ⟨p, xs, rfl, .inr ⟨l.t sq, q _ H H1 (Nw.refl l) r⟩⟩
  · cases h
theorem rx_listOf {K : PySem.W.Frag} : RXL K (rListOf K) gListOf := by
  intro H H1 vs ds e l r h Q q
  unfold gListOf at h
  split at h
  · cases h
    cases r with
    | cons r rr =>
      cases rr
      obtain ⟨p, xs, rfl, sq, ra⟩ := r.lst_inv
      refine ⟨p, xs, rfl, .inl (l.l sq), fun t ht => ?_⟩
      have n := Nw.one (o := .lst xs) l ht
      exact q _ _ _ n (.lst (SqL.of upd_same) (ra.mono (.of n.ex)))
  · cases h
    cases r with
    | cons r rr =>
      cases rr
      obtain ⟨p, xs, rfl, sq, ra⟩ := r.tup_inv
      refine ⟨p, xs, rfl, .inr (l.t sq), fun t ht => ?_⟩
      have n := Nw.one (o := .lst xs) l ht
      exact q _ _ _ n (.lst (SqL.of upd_same) (ra.mono (.of n.ex)))
  · cases h
/-- lists of bools, of ints -/
def asB : List PyData → Option (List Bool)
  | [] => some []
  | .bool b :: r => (asB r).bind fun bs => some (b :: bs)
  | _ => none
def asI : List PyData → Option (List Int)
  | [] => some []
  | .int b :: r => (asI r).bind fun bs => some (b :: bs)
  | _ => none
theorem asB_vals {K : PySem.W.Frag} {H : Hp} : ∀ {vs : List V} {ds : List PyData} {bs : List Bool}, RpAll K H vs ds → asB ds = some bs → vs = bs.map V.bl
  | _, _, _, .nil, h => by cases h; rfl
  | _, _, _, .cons r t, h => by
    unfold asB at h
    split at h
    · rename_i e
      cases e
    · rename_i e
      obtain ⟨bs, e1, e2⟩ := bnd h
      cases e2
      cases e
      cases r
      rw [asB_vals t e1]; rfl
    · cases h
theorem asI_vals {K : PySem.W.Frag} {H : Hp} : ∀ {vs : List V} {ds : List PyData} {bs : List Int}, RpAll K H vs ds → asI ds = some bs → vs = bs.map V.int
  | _, _, _, .nil, h => by cases h; rfl
  | _, _, _, .cons r t, h => by
    unfold asI at h
    split at h
    · rename_i e
      cases e
    · rename_i e
      obtain ⟨bs, e1, e2⟩ := bnd h
      cases e2
      cases e
      cases r
      rw [asI_vals t e1]; rfl
    · cases h
def gAny : List PyData → Option PyData
  | [.list ds] => (asB ds).bind fun bs => some (.bool (bs.any id))
  | _ => none
def gAll : List PyData → Option PyData
  | [.list ds] => (asB ds).bind fun bs => some (.bool (bs.all id))
  | _ => none
def gSum : List PyData → Option PyData
  | [.list ds] => (asI ds).bind fun bs => some (.int bs.sum)
  | _ => none
theorem rx_any {K : PySem.W.Frag} : RXL K (rAny K) gAny := by
  intro H H1 vs ds e l r h Q q
  unfold gAny at h
  split at h
  · obtain ⟨bs, e1, e2⟩ := bnd h
    cases e2
    cases r with
    | cons r rr =>
      cases rr
      obtain ⟨p, xs, rfl, sq, ra⟩ := r.lst_inv
      exact ⟨p, bs, rfl, by rw [← asB_vals ra e1]; exact l.l sq, q _ H H1 (Nw.refl l) (.bl _)⟩
  · cases h
theorem rx_all {K : PySem.W.Frag} : RXL K (rAll K) gAll := by
  intro H H1 vs ds e l r h Q q
  unfold gAll at h
  split at h
  · obtain ⟨bs, e1, e2⟩ := bnd h
    cases e2
    cases r with
    | cons r rr =>
      cases rr
      obtain ⟨p, xs, rfl, sq, ra⟩ := r.lst_inv
      exact ⟨p, bs, rfl, by rw [← asB_vals ra e1]; exact l.l sq, q _ H H1 (Nw.refl l) (.bl _)⟩
  · cases h
theorem rx_sum {K : PySem.W.Frag} : RXL K (rSum K) gSum := by
  intro H H1 vs ds e l r h Q q
  unfold gSum at h
  split at h
  · obtain ⟨bs, e1, e2⟩ := bnd h
    cases e2
    cases r with
    | cons r rr =>
      cases rr
      obtain ⟨p, xs, rfl, sq, ra⟩ := r.lst_inv
      exact ⟨p, bs, rfl, by rw [← asI_vals ra e1]; exact l.l sq, q _ H H1 (Nw.refl l) (.int _)⟩
  · cases h
/-- sorted of data -/
def alikes (ds : List PyData) : Bool := ds.all fun d => ds.all fun e => PySem.W.alike d e
def sortable (ds : List PyData) : Bool := (ds.all fun d => match d with | .tuple (_ :: _) => true | _ => false) || (ds.all fun d => match d with | .none => false | .tuple _ => false | _ => true)
def sortD (ds : List PyData) : List PyData := ds.mergeSort (PySem.W.dataLe false id)
def sortOk (ds : List PyData) : Bool := alikes ds && sortable ds && (ds.all fun d => decide (d.depth ≤ 50)) && PyData.plainAll ds
def gSorted : List PyData → Option PyData
  | [.list ds] => if sortOk ds then some (.list (sortD ds)) else none
  | [.tuple ds] => none
  | _ => none
def rSortD (K : PySem.W.Frag) : List V → Hp → VK → Prop := fun vs H1 Q => ∃ (H : Hp) (a : Addr) (xs : List V) (ds : List PyData), vs = [.ref a] ∧ Le H H1 ∧ SqL K H a xs ∧ RpAll K H xs ds ∧ sortOk ds = true ∧
  ∀ (ys : List V) (p : Addr), H1 p = none → RpAll K H ys (sortD ds) → Q (.ref p) (upd H1 p (.lst ys))
theorem each_of {X : Cx} {pins : List (Addr × Obj)} {σ : L2.St} {H H1 : Hp} {s : Shared} (I : Inv X pins σ H1 s) (l : Le H H1) : ∀ {vs : List V} {ds : List PyData} {us : List Value}, RpAll X.K H vs ds → Vals vs us → PyData.plainAll ds = true →
    PySem.W.EachIs (fun (u : Value) (b : V × PyData) => RelV b.1 u ∧ Rp X.K H b.1 b.2) us (vs.zip ds) ∧ PySem.W.EachIs (fun (u : Value) (b : V × PyData) => ∃ as, Reads s.heap u b.2 as) us (vs.zip ds)
  | _, _, _, .nil, .nil, _ => ⟨.nil, .nil⟩
  | _, _, _, .cons r t, .cons q w, h => by
    simp only [PyData.plainAll, Bool.and_eq_true] at h
    have h' := h
    obtain ⟨a, b⟩ := each_of I l t w h'.2
    exact ⟨.cons ⟨q, r⟩ a, .cons (r.reads I l h'.1 q) b⟩
theorem each_back {K : PySem.W.Frag} {H : Hp} : ∀ {us : List Value} {bs : List (V × PyData)}, PySem.W.EachIs (fun (u : Value) (b : V × PyData) => RelV b.1 u ∧ Rp K H b.1 b.2) us bs → Vals (bs.map (·.1)) us ∧ RpAll K H (bs.map (·.1)) (bs.map (·.2))
  | _, _, .nil => ⟨.nil, .nil⟩
  | _, _, .cons h t => by
    obtain ⟨a, b⟩ := each_back t
    exact ⟨.cons h.1 a, .cons h.2 b⟩
theorem zip_snd : ∀ {vs : List V} {ds : List PyData}, vs.length = ds.length → (vs.zip ds).map (·.2) = ds
  | [], [], _ => rfl
  | _ :: _, _ :: _, h => by rw [List.zip_cons_cons, List.map_cons, zip_snd (by simpa using h)]
theorem alikes_all {ds : List PyData} (h : alikes ds = true) : PySem.W.AllAlike ds := fun d hd e he => by
  have h1 := List.all_eq_true.mp h d hd
  exact List.all_eq_true.mp h1 e he
theorem sortable_all {ds : List PyData} (h : sortable ds = true) : PySem.W.Sortable ds := by
  unfold sortable at h
  rw [Bool.or_eq_true] at h
  rcases h with h | h
  · refine .inl fun d hd => ?_
    have h1 := List.all_eq_true.mp h d hd
    split at h1
    · exact ⟨_, _, rfl⟩
    · cases h1
  · refine .inr fun d hd => ?_
    have h1 := List.all_eq_true.mp h d hd
    split at h1
    · cases h1
    · cases h1
    · rename_i n1 n2
      exact ⟨n1, n2⟩
theorem plainAll_mem : ∀ {ds : List PyData}, PyData.plainAll ds = true → ∀ d ∈ ds, d.plain = true
  | [], _, _, h => by cases h
  | e :: ds, h, d, hd => by
    simp only [PyData.plainAll, Bool.and_eq_true] at h
    rcases List.mem_cons.mp hd with rfl | hd
    · exact h.1
    · exact plainAll_mem h.2 d hd
theorem sortZip {vs : List V} {ds : List PyData} (hl : vs.length = ds.length) : ((vs.zip ds).mergeSort (PySem.W.dataLe false (·.2))).map (·.2) = sortD ds := by
  have h := List.map_mergeSort (f := fun (b : V × PyData) => b.2) (r := PySem.W.dataLe false (fun b : V × PyData => b.2)) (s := PySem.W.dataLe false (id : PyData → PyData)) (l := vs.zip ds) (fun _ _ _ _ => rfl)
  rw [h, zip_snd hl]
  rfl
theorem cr_sortD {X : Cx} (hu : X.A.units + 64 < cLine) : CallR X (.builtin "sorted") (rSortD X.K) := by
  intro pins s σ H1 vs us Q I r h
  obtain ⟨H, a, xs, ds, rfl, l, sq, ra, ok, q⟩ := h
  unfold sortOk at ok
  rw [Bool.and_eq_true, Bool.and_eq_true, Bool.and_eq_true] at ok
  obtain ⟨⟨⟨o1, o2⟩, o3⟩, o4⟩ := ok
  obtain ⟨its, rv, pl, hz⟩ := I.list (l.l sq)
  rw [Vals.ref1 r]
  obtain ⟨e1, e2⟩ := each_of I l ra rv o4
  have hlen := ra.length
  have hmap := zip_snd hlen
  refine PySem.W.sorted_data (enc := fun b : V × PyData => b.2) pl.isList e1 e2 (by rw [hmap]; exact alikes_all o1) (by rw [hmap]; exact sortable_all o2) (by rw [List.length_zip]; omega) (fun b hb => ?_) fun out ho eo => ?_
  · have hd : b.2 ∈ ds := by rw [← hmap]; exact List.mem_map.mpr ⟨b, hb, rfl⟩
    have := of_decide_eq_true (List.all_eq_true.mp o3 _ hd)
    omega
  · obtain ⟨v1, v2⟩ := each_back eo
    rw [sortZip hlen] at v2
    obtain ⟨ep, he'⟩ := PyProof.Rows.sortedAll_at s.heap its out.toArray
    have hl2 : (((xs.zip ds).mergeSort (PySem.W.dataLe false (·.2))).map (·.1)).length ≤ sizeLine := by
      rw [List.length_map, List.length_mergeSort, List.length_zip]; omega
    exact ⟨.ref _, upd H1 (s.heap.objs.size + 1) (.lst (((xs.zip ds).mergeSort (PySem.W.dataLe false (·.2))).map (·.1))), I.laid (t' := s.toks) (fun _ _ => PyProof.Rows.sortedAll_old) (Nat.le_succ _) ⟨hl2, out, ep, v1, he'⟩, rfl, q _ _ (I.hok.fresh (Nat.le_succ _)) v2⟩
theorem rx_sorted {K : PySem.W.Frag} : RXL K (rSortD K) gSorted := by
  intro H H1 vs ds e l r h Q q
  unfold gSorted at h
  split at h
  · split at h
    · rename_i ok
      cases h
      cases r with
      | cons r rr =>
        cases rr
        obtain ⟨p, xs, rfl, sq, ra⟩ := r.lst_inv
        refine ⟨H, p, xs, _, rfl, l, sq, ra, ok, fun ys t ht ry => ?_⟩
        have n := Nw.one (o := .lst ys) l ht
        exact q _ _ _ n (.lst (SqL.of upd_same) (ry.mono (.of n.ex)))
    · cases h
  · cases h
  · cases h

/-! ### isinstance -/
def gIsi (T : String) : List PyData → Option PyData
  | [d, _] => match T, d with
    | "list", .list _ => some (.bool true)
    | "bool", .bool _ => some (.bool true)
    | _, _ => none
  | _ => none
end Dm

/-! Dm: own things written; dicts walked, made, compared, sorted. -/
namespace Dm
open PySem PySem.Spec PyProof.Rows L2

/-! ### own things written -/
def sApp (i : Nat) (f : MX) : MS := fun E => match E[i]? with
  | some (Sl.own (.lst _)) => (f E).bind fun p => match p.2[i]? with
    | some (Sl.own (.lst xs)) => if xs.length < sizeLine then some (.nx (p.2.set i (.own (.lst (xs ++ [p.1]))))) else none
    | _ => none
  | _ => none
section
variable {K : PySem.W.Frag} {io : List Nat} {te : TE} {f : MX}
theorem st_app {i : Nat} (h : EvX K te f) : StX K io (tDrop (tBM K "list" rAppend (tVar i) (tCons te tNil))) (sApp i f) := by
  intro E out e σ H H1 R Dn q
  unfold sApp at e
  split at e
  · rename_i xs0 h0
    obtain ⟨⟨d, E1⟩, e1, e2⟩ := bnd e
    simp only at e2
    split at e2
    · rename_i xs h1
      split at e2
      · rename_i hl
        cases e2
        obtain ⟨p, s1, n1, vs0, a1, r1⟩ := R.atS i _ h0
        refine ⟨_, s1, .inl ⟨rfl, _, SqL.of a1⟩, h E d E1 e1 σ H H1 R _ fun v Ha Hb st R1 r => ?_⟩
        obtain ⟨p2, s2, n2, vs, a2, r2⟩ := R1.atS i _ h1
        rw [s1] at s2
        cases s2
        refine ⟨p, vs, v, rfl, rfl, a2, by rw [r2.length]; exact hl, ?_⟩
        have g1 : Goes K io E σ H H1 E1 σ Ha Hb := ⟨st, R1, .refl⟩
        refine q σ Ha _ (g1.trans ⟨R1.mutStp h1 s1, R1.mut h1 s1 ⟨vs ++ [v], upd_same, r2.snoc r⟩, .refl⟩)
      · cases e2
    · cases e2
  · cases e
end
/-- the list's item, the dict's entry -/
def putD (kvs : List (PyData × PyData)) (k v : PyData) : List (PyData × PyData) :=
  if (kvs.any fun p => PyData.eqv p.1 k) = true then kvs.map (fun p => if PyData.eqv p.1 k = true then (p.1, v) else p) else kvs ++ [(k, v)]
def ownPut (o : Own) (k v : PyData) : Option Own := match o, k with
  | .lst xs, .int i => (ixN xs.length i).bind fun j => some (.lst (xs.set j v))
  | .dK kvs, k => if isKD k = true ∧ kvs.length < sizeLine then some (.dK (putD kvs k v)) else none
  | .dT kvs, .tuple ks => if ks.all isKD = true ∧ kOk ks = false ∧ kvs.length < sizeLine then some (.dT (putD kvs (.tuple ks) v)) else none
  | _, _ => none
theorem ownPut_lst {xs : List PyData} {k v : PyData} {o : Own} (h : ownPut (.lst xs) k v = some o) : ∃ i j, k = .int i ∧ ixN xs.length i = some j ∧ o = .lst (xs.set j v) := by
  cases k with
  | int i =>
    obtain ⟨j, e1, e2⟩ := bnd (show (ixN xs.length i).bind _ = some o from h)
    cases e2
    exact ⟨i, j, rfl, e1, rfl⟩
  | _ => cases h
theorem ownPut_dK {kvs : List (PyData × PyData)} {k v : PyData} {o : Own} (h : ownPut (.dK kvs) k v = some o) : isKD k = true ∧ kvs.length < sizeLine ∧ o = .dK (putD kvs k v) := by
  have e : ownPut (.dK kvs) k v = if isKD k = true ∧ kvs.length < sizeLine then some (.dK (putD kvs k v)) else none := by cases k <;> rfl
  rw [e] at h
  split at h
  · rename_i hc
    cases h
    exact ⟨hc.1, hc.2, rfl⟩
  · cases h
theorem ownPut_dT {kvs : List (PyData × PyData)} {k v : PyData} {o : Own} (h : ownPut (.dT kvs) k v = some o) : ∃ ks, k = .tuple ks ∧ ks.all isKD = true ∧ kOk ks = false ∧ kvs.length < sizeLine ∧ o = .dT (putD kvs k v) := by
  cases k with
  | tuple ks =>
    have h : (if ks.all isKD = true ∧ kOk ks = false ∧ kvs.length < sizeLine then some (Own.dT (putD kvs (.tuple ks) v)) else none) = some o := h
    split at h
    · rename_i hc
      cases h
      exact ⟨ks, rfl, hc.1, hc.2.1, hc.2.2, rfl⟩
    · cases h
  | _ => cases h
def isLstO : Own → Bool
  | .lst _ => true
  | _ => false
/-- x[k] = v -/
def sPut (i : Nat) (fk fv : MX) : MS := fun E => (fv E).bind fun p => (fk p.2).bind fun q => match q.2[i]? with
  | some (Sl.own o) => match E[i]? with
    | some (Sl.own o0) => if isLstO o0 = isLstO o then (ownPut o q.1 p.1).bind fun o' => some (.nx (q.2.set i (.own o'))) else none
    | _ => none
  | _ => none
section
variable {K : PySem.W.Frag} {H H1 : Hp}
theorem RpKV.any {ks : List (Key × V)} {ds : List (PyData × PyData)} (k : Key) (r : RpKV K H ks ds) : (ds.any fun p => PyData.eqv p.1 (kD k)) = (ks.any fun p => decide (p.1 = k)) := by
  induction ks generalizing ds with
  | nil => cases r; rfl
  | cons p ks ih =>
    cases r with
    | cons r t => rw [List.any_cons, List.any_cons, ih t, eqv_kD]
theorem RpKV.append {ks ls : List (Key × V)} {ds es : List (PyData × PyData)} (r : RpKV K H ks ds) (s : RpKV K H ls es) : RpKV K H (ks ++ ls) (ds ++ es) := by
  induction ks generalizing ds with
  | nil => cases r; exact s
  | cons p ks ih =>
    cases r with
    | cons r t => exact .cons r (ih t)
theorem RpKT.append {ks ls : List (List Key × V)} {ds es : List (PyData × PyData)} (r : RpKT K H ks ds) (s : RpKT K H ls es) : RpKT K H (ks ++ ls) (ds ++ es) := by
  induction ks generalizing ds with
  | nil => cases r; exact s
  | cons p ks ih =>
    cases r with
    | cons r t => exact .cons r (ih t)
theorem RpKV.mapP {ks : List (Key × V)} {ds : List (PyData × PyData)} {k : Key} {v : V} {d : PyData} (r : RpKV K H ks ds) (rv : Rp K H v d) :
    RpKV K H (ks.map fun kv => if kv.1 = k then (kv.1, v) else kv) (ds.map fun p => if PyData.eqv p.1 (kD k) = true then (p.1, d) else p) := by
  induction ks generalizing ds with
  | nil => cases r; exact .nil
  | cons p ks ih =>
    cases r with
    | @cons k' v' _ d' ds' r t =>
      rw [List.map_cons, List.map_cons]
      by_cases h : k' = k
      · rw [if_pos h, if_pos (by show PyData.eqv (kD k') (kD k) = true; rw [eqv_kD]; exact decide_eq_true h)]
        exact .cons rv (ih t)
      · rw [if_neg h, if_neg (by show ¬ PyData.eqv (kD k') (kD k) = true; rw [eqv_kD]; exact fun z => h (of_decide_eq_true z))]
        exact .cons r (ih t)
theorem RpKV.put {ks : List (Key × V)} {ds : List (PyData × PyData)} {k : Key} {v : V} {d : PyData} (r : RpKV K H ks ds) (rv : Rp K H v d) : RpKV K H (putK ks k v) (putD ds (kD k) d) := by
  unfold putK putD
  rw [r.any k]
  split
  · exact r.mapP rv
  · exact r.append (.cons rv .nil)
theorem RpKT.any {ks : List (List Key × V)} {ds : List (PyData × PyData)} (k : List Key) (r : RpKT K H ks ds) : (ds.any fun p => PyData.eqv p.1 (.tuple (k.map kD))) = (ks.any fun p => decide (p.1 = k)) := by
  induction ks generalizing ds with
  | nil => cases r; rfl
  | cons p ks ih =>
    cases r with
    | @cons k' v' _ d' ds' r t =>
      have e : PyData.eqv (PyData.tuple (k'.map kD)) (.tuple (k.map kD)) = decide (k' = k) := eqv_kDs k' k
      rw [List.any_cons, List.any_cons, ih t, e]
theorem RpKT.mapP {ks : List (List Key × V)} {ds : List (PyData × PyData)} {k : List Key} {v : V} {d : PyData} (r : RpKT K H ks ds) (rv : Rp K H v d) :
    RpKT K H (ks.map fun kv => if kv.1 = k then (kv.1, v) else kv) (ds.map fun p => if PyData.eqv p.1 (.tuple (k.map kD)) = true then (p.1, d) else p) := by
  induction ks generalizing ds with
  | nil => cases r; exact .nil
  | cons p ks ih =>
    cases r with
    | @cons k' v' _ d' ds' r t =>
      have e : PyData.eqv (PyData.tuple (k'.map kD)) (.tuple (k.map kD)) = decide (k' = k) := eqv_kDs k' k
      rw [List.map_cons, List.map_cons]
      by_cases h : k' = k
      · rw [if_pos h, if_pos (by show PyData.eqv (PyData.tuple (k'.map kD)) (.tuple (k.map kD)) = true; rw [e]; exact decide_eq_true h)]
        exact .cons rv (ih t)
      · rw [if_neg h, if_neg (by show ¬ PyData.eqv (PyData.tuple (k'.map kD)) (.tuple (k.map kD)) = true; rw [e]; exact fun z => h (of_decide_eq_true z))]
        exact .cons r (ih t)
theorem RpKT.put {ks : List (List Key × V)} {ds : List (PyData × PyData)} {k : List Key} {v : V} {d : PyData} (r : RpKT K H ks ds) (rv : Rp K H v d) : RpKT K H (putK ks k v) (putD ds (.tuple (k.map kD)) d) := by
  unfold putK putD
  rw [r.any k]
  split
  · exact r.mapP rv
  · exact r.append (.cons rv .nil)
end
section
variable {K : PySem.W.Frag} {io : List Nat} {tk tv : TE} {fk fv : MX}
theorem st_put {i : Nat} (hv : EvX K tv fv) (hk : EvX K tk fk) : StX K io (fun D σ H => tAsg tv (L2.gSub (tVar i) tk rSetL) D σ H ∨ sDPut (tVar i) tk tv D σ H) (sPut i fk fv) := by
  intro E out e σ H H1 R Dn q
  obtain ⟨⟨dv, E1⟩, e1, e2⟩ := bnd e
  obtain ⟨⟨dk, E2⟩, e3, e4⟩ := bnd e2
  simp only at e4
  split at e4
  · rename_i o ho
    split at e4
    · rename_i o0 ho0
      split at e4
      · rename_i hsame
        obtain ⟨o', e5, e6⟩ := bnd e4
        cases e6
        have fin : ∀ {p : Addr} {Ha Hb : Hp} {u : HO}, Stp (Owns E σ) H H1 (Owns E2 σ) Ha Hb → EnvR K E2 σ Ha Hb → σ[i]? = some (some (.ref p)) → OwnAt K Ha (upd Hb p u) p o' → Dn.nx σ (upd Hb p u) := by
          intro p Ha Hb u st R2 s1 ow
          have g1 : Goes K io E σ H H1 E2 σ Ha Hb := ⟨st, R2, .refl⟩
          exact q σ Ha _ (g1.trans ⟨R2.mutStp ho s1, R2.mut ho s1 ow, .refl⟩)
        obtain ⟨p0, s0, _, _⟩ := R.atS i _ ho0
        cases hl : isLstO o with
        | true =>
          refine .inl (hv E dv E1 e1 σ H H1 R _ fun v Ha Hb st1 R1 r1 => ⟨_, s0, hk E1 dk E2 e3 σ Ha Hb R1 _ fun w Hc Hd st2 R2 r2 => ?_⟩)
          obtain ⟨p, s1, n1, a1⟩ := R2.atS i _ ho
          rw [s0] at s1
          cases s1
          cases o with
          | lst xs =>
            obtain ⟨vs, a2, r3⟩ := a1
            obtain ⟨z, j, rfl, e7, rfl⟩ := ownPut_lst e5
            refine ⟨p0, vs, _, j, rfl, r2.int_inv, a2, by rw [r3.length]; exact e7, ?_⟩
            exact fin (st1.trans st2) R2 s0 ⟨_, upd_same, r3.set j (r1.mono (.of st2.ex))⟩
          | dK _ => cases hl
          | dT _ => cases hl
        | false =>
          refine .inr (hv E dv E1 e1 σ H H1 R _ fun v Ha Hb st1 R1 r1 => ⟨_, s0, hk E1 dk E2 e3 σ Ha Hb R1 _ fun w Hc Hd st2 R2 r2 => ?_⟩)
          obtain ⟨p, s1, n1, a1⟩ := R2.atS i _ ho
          rw [s0] at s1
          cases s1
          have rv := r1.mono (.of st2.ex)
          cases o with
          | lst _ => cases hl
          | dK kvs =>
            obtain ⟨ks, a2, r3⟩ := a1
            obtain ⟨hc1, hc2, rfl⟩ := ownPut_dK e5
            obtain ⟨k', rfl, rfl⟩ := r2.key hc1
            exact ⟨p0, _, rfl, .inl ⟨ks, k', a2, rfl, by rw [r3.length]; exact hc2, rfl⟩, fin (st1.trans st2) R2 s0 ⟨_, upd_same, r3.put rv⟩⟩
          | dT kvs =>
            obtain ⟨ks, a2, r3⟩ := a1
            obtain ⟨kk, rfl, hc1, hc2, hc3, rfl⟩ := ownPut_dT e5
            obtain ⟨b, ws, rfl, sq, ra⟩ := r2.tup_inv' hc2
            obtain ⟨k', rfl, rfl⟩ := ra.keys hc1
            exact ⟨p0, _, rfl, .inr ⟨ks, k', b, a2, rfl, R2.le.tup sq, by rw [r3.length]; exact hc3, rfl⟩, fin (st1.trans st2) R2 s0 ⟨_, upd_same, r3.put rv⟩⟩
      · cases e4
    · cases e4
  · cases e4
end
section
variable {X : Cx} {io : List Nat} {i : Nat} {x : Str} {p pos pos' apos cpos : Pos} {e k : Expr} {te tk tv : TE} {f fk fv : MX}
theorem rs_app (h : RE X e te f) (hN : X.N[i]? = some x := by rfl) (hv : Vis X.env.scope x := by first | exact Or.inl rfl | exact Or.inr (Or.inl rfl) | exact Or.inr (Or.inr rfl)) (hd : (x == ("__debug__" : Str)) = false := by decide)
    (hcd : (x == ("__classdict__" : Str)) = false := by decide) (hs : swapsWith (.Call (.Attribute (.Name x p) "append" apos) [e] [] cpos) none pos.line X.env = pure false := by rfl)
    (hbase : attributeBase (.Name x p) "append" X.env (eval (.Name x p) X.env) = eval (.Name x p) X.env := by rfl)
    (hfew : ((backTo cpos (starEach [e] X.env)).all (fun x => !x.1) && (backToKw cpos (keywordEach [] X.env)).all (fun x => x.1.isSome)
      && decide (([e] : List Expr).length + ([] : List Keyword).length + (if ([] : List Keyword).isEmpty then 0 else 1) < 30)) = true := by rfl)
    (hline : (apos.endLine == cpos.line) = true := by rfl) (hst : starEach [e] X.env = (false, eval e X.env) :: starEach [] X.env := by rfl) (hplain : (backTo cpos (starEach [] X.env)).any (·.1) = false := by rfl) :
    RS X io (.Expr (.Call (.Attribute (.Name x p) "append" apos) [e] [] cpos) pos) (tDrop (tBM X.K "list" rAppend (tVar i) (tCons te tNil))) (sApp i f) :=
  ⟨ps_expr (pe_bm PySem.F.plainAttrs_list PySem.F.slot_list_append PySem.F.type_list_append mt_append (pe_var hN hv hd hcd) (pa_cons h.pe pa_nil hst) hbase hfew hline hst hplain) hs, st_app h.ev⟩
theorem rs_put (hu : X.A.units + 1 < cLine) (hv : RE X e tv fv) (hk : RE X k tk fk) (hN : X.N[i]? = some x := by rfl) (hvis : Vis X.env.scope x := by first | exact Or.inl rfl | exact Or.inr (Or.inl rfl) | exact Or.inr (Or.inr rfl)) (hd : (x == ("__debug__" : Str)) = false := by decide)
    (hcd : (x == ("__classdict__" : Str)) = false := by decide) (hs : swapsWith e (some (.Subscript (.Name x p) k pos')) pos.line X.env = pure false := by rfl)
    (hs2 : swapsWithSole [.Subscript (.Name x p) k pos'] e pos.line X.env = pure false := by rfl) (hw : swappedStores [.Subscript (.Name x p) k pos'] e X.env = pure none := by rfl)
    (h1 : (assignEach [.Subscript (.Name x p) k pos'] X.env).map (·.2) = [assign (.Subscript (.Name x p) k pos') X.env] := by rfl)
    (ha : ∀ v, assign (.Subscript (.Name x p) k pos') X.env v = (do
      let ov ← holding [v] (eval (.Name x p) X.env)
      let iv ← holding [v, ov] (eval k X.env)
      standAt pos'
      holding [v, ov, iv] (setItem ov iv v)
      release [v, ov, iv] []) := by intro _; rfl) :
    RS X io (.Assign [.Subscript (.Name x p) k pos'] e pos) (fun D σ H => tAsg tv (L2.gSub (tVar i) tk rSetL) D σ H ∨ sDPut (tVar i) tk tv D σ H) (sPut i fk fv) :=
  ⟨PS.or (ps_asg hv.pe (pg_sub (pe_var hN hvis hd hcd) hk.pe set_list ha) hs2 hw h1) (ps_dput hu (pe_var hN hvis hd hcd) hk.pe hv.pe hs), st_put hv.ev hk.ev⟩
/-- {} -/
def oDK : MO := fun E => some (.dK [], E)
def oDT : MO := fun E => some (.dT [], E)
theorem ro_dK : RO X (.Dict [] [] pos) tDNewK oDK := ⟨pe_dnewK, by
  intro E o E' e σ H H1 R Q q
  cases e
  intro p hp
  obtain ⟨s2, R2, h0, nO⟩ := R.newOwn (u := .dK []) hp
  exact q p H _ s2 R2 (.inl hp) h0 nO ⟨[], upd_same, .nil⟩⟩
theorem ro_dT : RO X (.Dict [] [] pos) tDNewT oDT := ⟨pe_dnewT, by
  intro E o E' e σ H H1 R Q q
  cases e
  intro p hp
  obtain ⟨s2, R2, h0, nO⟩ := R.newOwn (u := .dT []) hp
  exact q p H _ s2 R2 (.inl hp) h0 nO ⟨[], upd_same, .nil⟩⟩
end
end Dm

/-! Dm: dicts walked under a lock. -/
namespace Dm
open PySem PySem.Spec PyProof.Rows L2

/-- what stands at a dict's address -/
def DRep (K : PySem.W.Frag) (H : Hp) (u : HO) (kvs : List (PyData × PyData)) : Prop := (∃ ks, u = .dK ks ∧ RpKV K H ks kvs) ∨ ∃ ks r, u = .dT ks ∧ kvs = (.none, .none) :: r ∧ RpKT K H ks r
/-- a walk of the locked dict that stands in slot i -/
def DkW (K : PySem.W.Frag) (wi : TI) (i : Nat) (g : List (PyData × PyData) → Option (List PyData)) : Prop :=
  ∀ kvs xs, g kvs = some xs → ∀ H a u od, DRep K H u kvs → ∀ σ H1, σ[i]? = some (some (V.ref a)) → H1 a = some (.frz od u) → ∀ R : It → Hp → Prop, (∀ J, ItX K J H [(a, .frz od u)] xs → R J H1) → wi σ H1 R
def keysD (kvs : List (PyData × PyData)) : Option (List PyData) := if isTag kvs then none else some (kvs.map (·.1))
def itemsD (kvs : List (PyData × PyData)) : Option (List PyData) := if isTag kvs then none else some (kvs.map fun p => .tuple [p.1, p.2])
def valsD (kvs : List (PyData × PyData)) : Option (List PyData) := if isTag kvs then none else some (kvs.map (·.2))
section
variable {K : PySem.W.Frag} {H : Hp}
theorem RpKV.at' : ∀ {ks : List (Key × V)} {ds : List (PyData × PyData)} {i : Nat} {p : PyData × PyData}, RpKV K H ks ds → ds[i]? = some p → ∃ k v, ks[i]? = some (k, v) ∧ p.1 = kD k ∧ Rp K H v p.2
  | _, _, _, _, .nil, e => by simp at e
  | _, _, 0, _, .cons r _, e => by simp at e; subst e; exact ⟨_, _, rfl, rfl, r⟩
  | _, _, i + 1, _, .cons _ t, e => by
    obtain ⟨k, v, h1, h2, h3⟩ := RpKV.at' (i := i) t (by simpa using e)
    exact ⟨k, v, by simpa using h1, h2, h3⟩
theorem rp_key (k : Key) : Rp K H (kV k) (kD k) := by
  cases k with
  | inl i => exact .int i
  | inr x => exact .str x
theorem dkw_keys {i : Nat} : DkW K (iKeys (tVar i)) i keysD := by
  intro kvs xs e H a u od dr σ H1 s1 ha R q
  unfold keysD at e
  split at e
  · cases e
  · rename_i nt
    cases e
    rcases dr with ⟨ks, rfl, r⟩ | ⟨ks, r, _, rfl, _⟩
    · refine ⟨_, s1, a, od, rfl, .inl ⟨ks, ha, q _ fun j H' H2 s l hd => ?_⟩⟩
      have h2 : H2 a = some (.frz od (.dK ks)) := hd (a, _) (by simp)
      refine ⟨fun d hx => ?_, fun hj => ⟨h2, by rw [r.length]; simpa using hj⟩⟩
      rw [List.getElem?_map] at hx
      obtain ⟨p, e1, e2⟩ := Option.map_eq_some_iff.mp hx
      obtain ⟨k, v, f1, f2, f3⟩ := r.at' e1
      refine ⟨⟨h2, (List.getElem?_eq_some_iff.mp f1).1⟩, fun x H3 y => ?_⟩
      obtain ⟨rfl, k', v', g1, rfl⟩ := y
      rw [f1] at g1
      cases g1
      exact ⟨H', Nw.refl l, by rw [← e2, f2]; exact rp_key k⟩
    · exact absurd rfl nt
theorem dkw_items {i : Nat} : DkW K (iItems (tVar i)) i itemsD := by
  intro kvs xs e H a u od dr σ H1 s1 ha R q
  unfold itemsD at e
  split at e
  · cases e
  · rename_i nt
    cases e
    rcases dr with ⟨ks, rfl, r⟩ | ⟨ks, r, _, rfl, _⟩
    · refine ⟨_, s1, a, od, ks, rfl, ha, q _ fun j H' H2 s l hd => ?_⟩
      have h2 : H2 a = some (.frz od (.dK ks)) := hd (a, _) (by simp)
      refine ⟨fun d hx => ?_, fun hj => ⟨h2, by rw [r.length]; simpa using hj⟩⟩
      rw [List.getElem?_map] at hx
      obtain ⟨p, e1, e2⟩ := Option.map_eq_some_iff.mp hx
      obtain ⟨k, v, f1, f2, f3⟩ := r.at' e1
      refine ⟨⟨h2, (List.getElem?_eq_some_iff.mp f1).1⟩, fun x H3 y => ?_⟩
      obtain ⟨T, k', v', g1, rfl, hT, rfl⟩ := y
      rw [f1] at g1
      cases g1
      have n := Nw.one (o := .tup [kV k, v]) l hT
      refine ⟨_, n, ?_⟩
      rw [← e2, f2]
      exact .tup upd_same (.cons (rp_key k) (.cons (f3.mono (.of (s.trans n.ex))) .nil))
    · exact absurd rfl nt
theorem dkw_vals {i : Nat} : DkW K (iVals (tVar i)) i valsD := by
  intro kvs xs e H a u od dr σ H1 s1 ha R q
  unfold valsD at e
  split at e
  · cases e
  · rename_i nt
    cases e
    rcases dr with ⟨ks, rfl, r⟩ | ⟨ks, r, _, rfl, _⟩
    · refine ⟨_, s1, a, od, ks, rfl, ha, q _ fun j H' H2 s l hd => ?_⟩
      have h2 : H2 a = some (.frz od (.dK ks)) := hd (a, _) (by simp)
      refine ⟨fun d hx => ?_, fun hj => ⟨h2, by rw [r.length]; simpa using hj⟩⟩
      rw [List.getElem?_map] at hx
      obtain ⟨p, e1, e2⟩ := Option.map_eq_some_iff.mp hx
      obtain ⟨k, v, f1, f2, f3⟩ := r.at' e1
      refine ⟨⟨h2, (List.getElem?_eq_some_iff.mp f1).1⟩, fun x H3 y => ?_⟩
      obtain ⟨rfl, k', g1⟩ := y
      rw [f1] at g1
      cases g1
      exact ⟨H', Nw.refl l, by rw [← e2]; exact f3.mono (.of s)⟩
    · exact absurd rfl nt
end
/-- the slot's dict as data, and the slots behind -/
def dictAt (i : Nat) : En → Option (List (PyData × PyData) × En) := fun E => match E[i]? with
  | some (Sl.dat (.dict kvs)) => some (kvs, E)
  | some (Sl.own o) => match o.data with
    | .dict kvs => some (kvs, E.set i (.dat (.dict kvs)))
    | _ => none
  | _ => none
def sForD (i : Nat) (g : List (PyData × PyData) → Option (List PyData)) (t : MTg) (f : MS) : MS := fun E => (dictAt i E).bind fun p => (g p.1).bind fun xs => loopF t f xs p.2
def oLcD (i : Nat) (g : List (PyData × PyData) → Option (List PyData)) (t : MTg) (c : MT) (el : MX) (vs : List Nat) : MO := fun E => (dictAt i E).bind fun p => (g p.1).bind fun xs => (compF t c el vs xs (wipeE p.2 vs)).bind fun r => if r.1.length ≤ sizeLine then some (.lst r.1, restE p.2 r.2 vs) else none
section
variable {K : PySem.W.Frag} {E E' : En} {σ σ' : L2.St} {H H1 H' H2 : Hp} {io : List Nat}
theorem dictAt_ev {i : Nat} {kvs : List (PyData × PyData)} (R : EnvR K E σ H H1) (h : dictAt i E = some (kvs, E')) : ∃ H' a u, Goes K io E σ H H1 E' σ H' H1 ∧ σ[i]? = some (some (V.ref a)) ∧ DRep K H' u kvs ∧ ((H' a = some u ∧ H1 a = some u ∧ Mut (some u)) ∨ ∃ od, H1 a = some (.frz od u) ∧ H' a ≠ none) := by
  have cl : ∀ {v : V} {H' : Hp}, Le H' H1 → Rp K H' v (.dict kvs) → ∃ a u, v = .ref a ∧ DRep K H' u kvs ∧ ((H' a = some u ∧ H1 a = some u ∧ Mut (some u)) ∨ ∃ od, H1 a = some (.frz od u) ∧ H' a ≠ none) := by
    intro v H' l r
    have go : ∀ {a : Addr} {u : HO}, Rd H' a u → Mut (some u) → (H' a = some u ∧ H1 a = some u ∧ Mut (some u)) ∨ ∃ od, H1 a = some (.frz od u) ∧ H' a ≠ none := by
      intro a u rd mu
      rcases rd with rd | ⟨ob, rd⟩
      · rcases l a u rd with z | ⟨_, ob, z⟩
        · exact .inl ⟨rd, z, mu⟩
        · exact .inr ⟨ob, z, by rw [rd]; exact fun q => nomatch q⟩
      · rcases l a _ rd with z | ⟨m, _⟩
        · exact .inr ⟨ob, z, by rw [rd]; exact fun q => nomatch q⟩
        · exact (show False from m).elim
    cases r with
    | dK rd r => exact ⟨_, _, rfl, .inl ⟨_, rfl, r⟩, go rd True.intro⟩
    | dT rd r => exact ⟨_, _, rfl, .inr ⟨_, _, rfl, rfl, r⟩, go rd True.intro⟩
  unfold dictAt at h
  split at h
  · rename_i kvs' hd
    cases h
    obtain ⟨v, s1, r⟩ := R.atS i _ hd
    obtain ⟨a, u, rfl, dr, z⟩ := cl R.le r
    exact ⟨H, a, u, .refl R, s1, dr, z⟩
  · rename_i o ho
    split at h
    · rename_i kvs' hk
      cases h
      obtain ⟨p, s1, h0, hp⟩ := R.atS i _ ho
      obtain ⟨u, hu, r⟩ := hp.ho' h0
      have g : Goes K io E σ H H1 (E.set i (.dat o.data)) σ (upd H p u) H1 := ⟨R.frzStp ho s1 h0, R.frz ho s1 h0 hu r, .refl⟩
      rw [hk] at r g
      obtain ⟨a, u', e1, dr, z⟩ := cl g.env.le r
      cases e1
      exact ⟨upd H p u, p, u', g, s1, dr, z⟩
    · cases h
  · cases h
/-- under the lock -/
theorem EnvR.lock (R : EnvR K E σ H H1) {a : Addr} {u : HO} {od : Obj} (h0 : H a = some u) (mu : Mut (some u)) : EnvR K E σ H (upd H1 a (.frz od u)) := by
  refine ⟨fun b o e => ?_, R.len, fun j s e => ?_, R.sep⟩
  · by_cases hb : b = a
    · subst hb
      rw [h0] at e
      cases e
      exact .inr ⟨mu, od, upd_same⟩
    · rw [upd_ne hb]; exact R.le b o e
  · have w := R.atS j s e
    cases s with
    | no => trivial
    | dat d => exact w
    | own o =>
      obtain ⟨b, f1, f2, f3⟩ := w
      have nb : b ≠ a := by rintro rfl; rw [h0] at f2; cases f2
      exact ⟨b, f1, f2, f3.move (Le.refl _) fun w z => by rw [upd_ne nb]; exact z⟩
/-- behind the lock -/
theorem EnvR.unlock (R : EnvR K E σ H H1) {a : Addr} {u : HO} (h0 : H a = some u) (mu : Mut (some u)) : EnvR K E σ H (upd H1 a u) := by
  refine ⟨fun b o e => ?_, R.len, fun j s e => ?_, R.sep⟩
  · by_cases hb : b = a
    · subst hb
      rw [h0] at e
      cases e
      exact .inl upd_same
    · rw [upd_ne hb]; exact R.le b o e
  · have w := R.atS j s e
    cases s with
    | no => trivial
    | dat d => exact w
    | own o =>
      obtain ⟨b, f1, f2, f3⟩ := w
      have nb : b ≠ a := by rintro rfl; rw [h0] at f2; cases f2
      exact ⟨b, f1, f2, f3.move (Le.refl _) fun w z => by rw [upd_ne nb]; exact z⟩
theorem Stp.unlock {P P' : Addr → Prop} {a : Addr} {u : HO} {od : Obj} (h1 : H1 a = some u) (s : Stp P H (upd H1 a (.frz od u)) P' H' H2) : Stp P H H1 P' H' (upd H2 a u) := by
  refine ⟨s.ex, fun b o e n => ?_, fun b h => ?_, fun b h => ?_, fun b h => ?_⟩
  · by_cases hb : b = a
    · subst hb; rw [h1] at e; cases e; exact upd_same
    · rw [upd_ne hb]; exact s.fr b o (by rw [upd_ne hb]; exact e) n
  · rcases s.nw b h with z | z | z
    · exact .inl z
    · by_cases hb : b = a
      · subst hb; rw [upd_same] at z; cases z
      · rw [upd_ne hb] at z; exact .inr (.inl z)
    · exact .inr (.inr z)
  · by_cases hb : b = a
    · subst hb; rw [upd_same] at h; cases h
    · rw [upd_ne hb] at h
      have := s.dm b h
      rw [upd_ne hb] at this
      exact this
  · rcases s.ow b h with z | z
    · exact .inl z
    · by_cases hb : b = a
      · subst hb; rw [upd_same] at z; cases z
      · rw [upd_ne hb] at z; exact .inr z
theorem Goes.unlock {a : Addr} {u : HO} {od : Obj} (h0 : H a = some u) (h1 : H1 a = some u) (mu : Mut (some u)) (g : Goes K io E σ H (upd H1 a (.frz od u)) E' σ' H' H2) : H2 a = some (.frz od u) ∨ Owns E σ a := by
  by_cases z : Owns E σ a
  · exact .inr z
  · exact .inl (g.st.fr a _ upd_same z)
theorem OutR.lock {a : Addr} {u : HO} {od : Obj} {Dn : Ends} {out : Out} (R : EnvR K E σ H H1) (h0 : H a = some u) (h1 : H1 a = some u) (mu : Mut (some u)) (q : OutR K io E σ H H1 Dn out) :
    OutR K io E σ H (upd H1 a (.frz od u)) ⟨fun σ' H' => H' a = some (.frz od u) ∧ Dn.nx σ' (upd H' a u), fun v H' => H' a = some (.frz od u) ∧ Dn.rt v (upd H' a u), fun σ' H' => H' a = some (.frz od u) ∧ Dn.bk σ' (upd H' a u), fun σ' H' => H' a = some (.frz od u) ∧ Dn.ct σ' (upd H' a u)⟩ out := by
  have nO : ¬ Owns E σ a := fun z => by have := (R.there z).1; rw [h0] at this; cases this
  have un : ∀ {E' : En} {σ' : L2.St} {H' H2 : Hp}, Goes K io E σ H (upd H1 a (.frz od u)) E' σ' H' H2 → H2 a = some (.frz od u) ∧ Goes K io E σ H H1 E' σ' H' (upd H2 a u) := fun {E' σ' H' H2} g =>
    ⟨g.st.fr a _ upd_same nO, ⟨Stp.unlock h1 g.st, g.env.unlock (g.st.ex a u h0) mu, g.keep⟩⟩
  cases out with
  | nx E' => exact fun σ' H' H2 g => ⟨(un g).1, q σ' H' _ (un g).2⟩
  | bk E' => exact fun σ' H' H2 g => ⟨(un g).1, q σ' H' _ (un g).2⟩
  | ct E' => exact fun σ' H' H2 g => ⟨(un g).1, q σ' H' _ (un g).2⟩
  | rt d E' => exact fun σ' v H' H2 g r => ⟨(un g).1, q σ' v H' _ (un g).2 r⟩
  | ro o E' =>
    intro σ' p H' H2 g hh h2 h3 h4
    have np : p ≠ a := by rintro rfl; rw [g.st.ex _ u h0] at h2; cases h2
    refine ⟨(un g).1, q σ' p H' _ (un g).2 (hh.imp (fun z => by rw [upd_ne np] at z; exact z) id) h2 h3 (h4.move (Le.refl _) fun w z => by rw [upd_ne np]; exact z)⟩
theorem st_forD {ws : List Nat} {wi : TI} {i : Nat} {gk : List (PyData × PyData) → Option (List PyData)} {g : TG} {t : MTg} {tb : TS} {f : MS} (hd : dj io ws = true) (hw : DkW K wi i gk) (hg : TgX K ws g t) (hb : StX K io tb f) :
    StX K io (fun D σ H => tLock (tFor wi g tb) D σ H ∨ tFor wi g tb D σ H) (sForD i gk t f) := by
  intro E out e σ H H1 R Dn q
  obtain ⟨⟨kvs, E0⟩, e1, e2⟩ := bnd e
  obtain ⟨xs, e3, e4⟩ := bnd e2
  obtain ⟨H0, a, u, g0, s1, dr, z⟩ := dictAt_ev (io := io) R e1
  have q0 := q.pre g0
  rcases z with ⟨h0, h1, mu⟩ | ⟨od, h1, h0⟩
  · refine .inl ⟨a, u, h1, mu, fun od => ?_⟩
    have R1 := g0.env.lock (od := od) h0 mu
    refine hw kvs xs e3 H0 a u od dr σ _ s1 upd_same _ fun J it => ?_
    exact for_core hd hg hb it R1 (fun p hp => by
      have : p = (a, .frz od u) := by simpa using hp
      subst this
      exact ⟨by rw [h0]; exact (fun q => nomatch q), upd_same⟩) e4 (q0.lock g0.env h0 h1 mu)
  · refine .inr (hw kvs xs e3 H0 a u od dr σ _ s1 h1 _ fun J it => ?_)
    exact for_core hd hg hb it g0.env (fun p hp => by
      have : p = (a, .frz od u) := by simpa using hp
      subst this
      exact ⟨h0, h1⟩) e4 q0
theorem ev_lcD {ws vs : List Nat} {wi : TI} {i : Nat} {gk : List (PyData × PyData) → Option (List PyData)} {g : TG} {t : MTg} {tt : TT} {c : MT} {te : TE} {el : MX} (hs : ∀ j ∈ ws, j ∈ vs) (hw : DkW K wi i gk) (hg : TgX K ws g t) (hc : EvT K tt c) (he : EvX K te el) :
    EvO K (fun σ H Q => tLockE (tLc wi g tt te vs) σ H Q ∨ tLc wi g tt te vs σ H Q) (oLcD i gk t c el vs) := by
  intro E o E' e σ H H1 R Q q
  obtain ⟨⟨kvs, E0⟩, e1, e2⟩ := bnd e
  obtain ⟨xs, e3, e4⟩ := bnd e2
  obtain ⟨⟨r, Eo⟩, e5, e6⟩ := bnd e4
  split at e6
  · rename_i hr
    cases e6
    obtain ⟨H0, a, u, g0, s1, dr, z⟩ := dictAt_ev (io := []) R e1
    rcases z with ⟨h0, h1, mu⟩ | ⟨od, h1, h0⟩
    · refine .inl ⟨a, u, h1, mu, fun od => ?_⟩
      have R1 := g0.env.lock (od := od) h0 mu
      have nO : ¬ Owns E0 σ a := fun z => by have := (g0.env.there z).1; rw [h0] at this; cases this
      refine hw kvs xs e3 H0 a u od dr σ _ s1 upd_same _ fun J it D hD => ?_
      refine lc_core' (Q := fun v H' => H' a = some (.frz od u) ∧ Q v (upd H' a u)) hs hg hc he it R1 (fun p hp => by
        have : p = (a, .frz od u) := by simpa using hp
        subst this
        exact ⟨by rw [h0]; exact (fun q => nomatch q), upd_same⟩) e5 hr hD fun H' H2 st2 R2 hh0 nOD ho => ?_
      have hDa : D ≠ a := by rintro rfl; rw [upd_same] at hD; cases hD
      have hD1 : H1 D = none := by rw [upd_ne hDa] at hD; exact hD
      refine ⟨st2.fr a _ upd_same nO, q D H' _ (g0.st.trans (Stp.unlock h1 st2)) (R2.unlock (st2.ex a u h0) mu) (.inl hD1) hh0 nOD (ho.move (Le.refl _) fun w z => by rw [upd_ne hDa]; exact z)⟩
    · refine .inr (hw kvs xs e3 H0 a u od dr σ _ s1 h1 _ fun J it D hD => ?_)
      exact lc_core' hs hg hc he it g0.env (fun p hp => by
        have : p = (a, .frz od u) := by simpa using hp
        subst this
        exact ⟨h0, h1⟩) e5 hr hD fun H' H2 st2 R2 hh0 nOD ho => q D H' H2 (g0.st.trans st2) R2 (.inl hD) hh0 nOD ho
  · cases e6
end
/-! ### as rules -/
structure RK (X : Cx) (tg it : Expr) (wi : TI) (i : Nat) (gk : List (PyData × PyData) → Option (List PyData)) : Prop where
  pi : PI X tg it wi
  ev : DkW X.K wi i gk
section
variable {X : Cx} {tg : Expr} {i : Nat} {x : Str} {p apos cpos : Pos}
theorem rk_keys (i : Nat) (hN : X.N[i]? = some x := by rfl) (hv : Vis X.env.scope x := by first | exact Or.inl rfl | exact Or.inr (Or.inl rfl) | exact Or.inr (Or.inr rfl)) (hd : (x == ("__debug__" : Str)) = false := by decide)
    (hcd : (x == ("__classdict__" : Str)) = false := by decide) : RK X tg (.Name x p) (iKeys (tVar i)) i keysD := ⟨pi_keys (pe_var hN hv hd hcd), dkw_keys⟩
theorem rk_items (i : Nat) {elts : List Expr} {kk : Nat} {tpos : Pos} (hN : X.N[i]? = some x := by rfl) (hv : Vis X.env.scope x := by first | exact Or.inl rfl | exact Or.inr (Or.inl rfl) | exact Or.inr (Or.inr rfl)) (hd : (x == ("__debug__" : Str)) = false := by decide)
    (hcd : (x == ("__classdict__" : Str)) = false := by decide) (hbase : attributeBase (.Name x p) "items" X.env (eval (.Name x p) X.env) = eval (.Name x p) X.env := by rfl) (hline : (apos.endLine == cpos.line) = true := by rfl) :
    RK X (.Tuple elts kk tpos) (.Call (.Attribute (.Name x p) "items" apos) [] [] cpos) (iItems (tVar i)) i itemsD := ⟨pi_items (pe_var hN hv hd hcd) hbase hline, dkw_items⟩
theorem rk_vals (i : Nat) (hN : X.N[i]? = some x := by rfl) (hv : Vis X.env.scope x := by first | exact Or.inl rfl | exact Or.inr (Or.inl rfl) | exact Or.inr (Or.inr rfl)) (hd : (x == ("__debug__" : Str)) = false := by decide)
    (hcd : (x == ("__classdict__" : Str)) = false := by decide) (hbase : attributeBase (.Name x p) "values" X.env (eval (.Name x p) X.env) = eval (.Name x p) X.env := by rfl) (hline : (apos.endLine == cpos.line) = true := by rfl) :
    RK X tg (.Call (.Attribute (.Name x p) "values" apos) [] [] cpos) (iVals (tVar i)) i valsD := ⟨pi_values (pe_var hN hv hd hcd) hbase hline, dkw_vals⟩
end
section
variable {X : Cx} {io ws : List Nat} {tg it : Expr} {body : List Stmt} {wi : TI} {i : Nat} {gk : List (PyData × PyData) → Option (List PyData)} {g : TG} {t : MTg} {tb : TS} {f : MS} {pos : Pos}
theorem rs_forD (hp : PassesOwn (model X.prog X.w) X.A X.env X.xe) (hc : X.calm = true) (hd : dj io ws = true) (hi : RK X tg it wi i gk) (hg : RTg X ws tg g t) (hb : RB X io body tb f)
    (hs : ∀ x, foldedSetIterable it X.env x = pure x := by intro _; rfl) : RS X io (.For tg it body [] pos) (fun D σ H => tLock (tFor wi g tb) D σ H ∨ tFor wi g tb D σ H) (sForD i gk t f) :=
  ⟨PS.or (ps_lock (ps_for hp hc hi.pi hg.pg hb.ps hs)) (ps_for hp hc hi.pi hg.pg hb.ps hs), st_forD hd hi.ev hg.ev hb.ev⟩
end
section
variable {X : Cx} {ws : List Nat} {elt tg it : Expr} {ifs : List Expr} {scope : Scope} {own : List (Str × Nat)} {pos spos : Pos} {wi : TI} {i : Nat} {gk : List (PyData × PyData) → Option (List PyData)} {g : TG} {t : MTg} {tt : TT} {c : MT} {te : TE} {el : MX}
theorem ro_lcD (hc : X.calm = true) (hN : X.N.Nodup) (hi : RK X tg it wi i gk) (ok : BlkOk X.N X.env.scope scope own) (hs : subL ws (own.map (·.2)) = true)
    (hg : ∀ (s : Shared) (H : Hp) (C : Addr) (cl : List (Str × Addr)) (fp : List Addr), RTg (X.blk s H scope (compEnvC scope cl C X.env) fp) ws tg g t)
    (ht : ∀ (s : Shared) (H : Hp) (C : Addr) (cl : List (Str × Addr)) (fp : List Addr), RIf (X.blk s H scope (compEnvC scope cl C X.env) fp) ifs tt c)
    (he : ∀ (s : Shared) (H : Hp) (C : Addr) (cl : List (Str × Addr)) (fp : List Addr), RE (X.blk s H scope (compEnvC scope cl C X.env) fp) elt te el) (hf : ∀ x, foldedSetIterable it X.env x = pure x := by intro _; rfl) :
    RO X (.ListComp elt [⟨tg, it, ifs, 0⟩] scope pos) (fun σ H Q => tLockE (tLc wi g tt te (own.map (·.2))) σ H Q ∨ tLc wi g tt te (own.map (·.2)) σ H Q) (oLcD i gk t c el (own.map (·.2))) := by
  have pe := pe_lc (pos := pos) hc hN hi.pi ok (fun s H C cl fp => (hg s H C cl fp).pg) (fun s H C cl fp => (ht s H C cl fp).pt) (fun s H C cl fp => (he s H C cl fp).pe) hf
  exact ⟨PE.or (pe_lock pe) pe, ev_lcD (subL_mem hs) hi.ev (hg X.s_0 X.H_0 0 [] []).ev (ht X.s_0 X.H_0 0 [] []).ev (he X.s_0 X.H_0 0 [] []).ev⟩
end
end Dm

/-! Dm: dict comprehensions, dicts compared and sorted, isinstance. -/
namespace Dm
open PySem PySem.Spec PyProof.Rows L2

/-! ### == of dicts -/
def hitsD (ls : List (PyData × PyData)) : List (PyData × PyData) → Bool
  | [] => true
  | p :: r => match look ls p.1 with
    | none => false
    | some y => PyData.eqv p.2 y && hitsD ls r
def valsOk (kvs : List (PyData × PyData)) : Bool := kvs.all fun p => p.2.plain && decide (p.2.depth ≤ 50)
def eqDict (ks ls : List (PyData × PyData)) : Bool := ks.length == ls.length && hitsD ls ks
def dictOk (ks ls : List (PyData × PyData)) : Bool := !isTag ks && !isTag ls && valsOk ks && valsOk ls
def gEqA (d e : PyData) : Option PyData := match d, e with
  | .dict ks, .dict ls => if dictOk ks ls then some (.bool (eqDict ks ls)) else none
  | d, e => gEq d e
def gNeA (d e : PyData) : Option PyData := match d, e with
  | .dict ks, .dict ls => if dictOk ks ls then some (.bool (!eqDict ks ls)) else none
  | d, e => gNe d e
def rEqK (K : PySem.W.Frag) (neg : Bool) : R2 := fun x y H1 Q => ∃ H a b ks ls, x = .ref a ∧ y = .ref b ∧ Le H H1 ∧ Rp K H x (.dict ks) ∧ Rp K H y (.dict ls) ∧ dictOk ks ls = true ∧ Q (.bl (if neg then !eqDict ks ls else eqDict ks ls)) H1
section
variable {X : Cx} {pins : List (Addr × Obj)} {σ : L2.St} {H H1 : Hp} {s : Shared}
theorem valsOk_mem {kvs : List (PyData × PyData)} (h : valsOk kvs = true) : ∀ p ∈ kvs, p.2.plain = true ∧ p.2.depth ≤ 50 := fun p hp => by
  have := List.all_eq_true.mp h p hp
  rw [Bool.and_eq_true] at this
  exact ⟨this.1, of_decide_eq_true this.2⟩
theorem look_mem {kvs : List (PyData × PyData)} {k v : PyData} (h : look kvs k = some v) : ∃ p ∈ kvs, p.2 = v := by
  unfold look at h
  obtain ⟨p, e1, e2⟩ := Option.map_eq_some_iff.mp h
  exact ⟨p, List.mem_of_find?_eq_some e1, e2⟩
theorem hits_of (I : Inv X pins σ H1 s) (l : Le H H1) {A : Around} (hu : A.units + 60 < cLine) {ls : List (Key × V)} {lsD : List (PyData × PyData)} {vb : List (Key × Value)} (rl : RpKV X.K H ls lsD) (kb : KV ls vb) (ol : valsOk lsD = true) :
    ∀ {ks : List (Key × V)} {ksD : List (PyData × PyData)} {va : List (Key × Value)}, RpKV X.K H ks ksD → KV ks va → valsOk ksD = true → PySem.W.KeqHits A s vb va (hitsD lsD ksD)
  | _, _, _, .nil, .nil, _ => .nil
  | _, _, _, .cons (k := k) (v := v) (d := d) (ds := ds) r t, .cons (b := q) h kt, ok => by
    obtain ⟨k1, k2⟩ := h
    obtain ⟨key, val⟩ := q
    have k1' : k = key := k1
    subst k1'
    have okd := valsOk_mem ok _ (List.mem_cons_self ..)
    have okt : valsOk ds = true := by
      have := ok
      unfold valsOk at this ⊢
      rw [List.all_cons, Bool.and_eq_true] at this
      exact this.2
    have hl := rl.look k
    have hv := kb.val k
    show PySem.W.KeqHits A s vb ((k, val) :: _) (match look lsD (kD k) with | none => false | some y => PyData.eqv d y && hitsD lsD ds)
    cases e : look lsD (kD k) with
    | none =>
      rw [e] at hl
      cases e2 : valV ls k with
      | none =>
        rw [e2] at hv
        exact .miss hv.none_of
      | some v2 => rw [e2] at hl; cases hl
    | some y =>
      rw [e] at hl
      cases e2 : valV ls k with
      | none => rw [e2] at hl; cases hl
      | some v2 =>
        rw [e2] at hl hv
        obtain ⟨u2, hu2, ru2⟩ := hv.some_of
        cases hl with
        | some rp2 =>
          obtain ⟨p, hp, ep⟩ := look_mem e
          have oky := valsOk_mem ol p hp
          rw [ep] at oky
          obtain ⟨as, r1⟩ := r.reads I l okd.1 (show RelV v val from k2)
          obtain ⟨bs, r2⟩ := rp2.reads I l oky.1 ru2
          have hmin : min d.depth y.depth ≤ 50 := Nat.le_trans (Nat.min_le_left _ _) okd.2
          exact .hit hu2 (SeqAt.eqAt_plain d y A s val u2 as bs r1 r2 okd.1 oky.1 (by omega)) (hits_of I l hu rl kb ol t kt okt)
theorem dict_parts (I : Inv X pins σ H1 s) (l : Le H H1) {a : Addr} {kvs : List (PyData × PyData)} (r : Rp X.K H (.ref a) (.dict kvs)) (nt : isTag kvs = false) : ∃ ks vs, RpKV X.K H ks kvs ∧ KV ks vs ∧ ks.length ≤ sizeLine ∧ (a == sysModules) = false ∧ s.heap.DictOf (mixKind X.prog X.w) a vs := by
  cases r with
  | dK rd r =>
    obtain ⟨z, hd, vs, rel, dd⟩ := dk_rd I.hok (l.rd rd)
    exact ⟨_, vs, r, rel, z, hd, dd⟩
  | dT rd r => cases nt
theorem op_eqK (hu : X.A.units + 64 < cLine) : OpR X (compareOp .Eq) (rEqK X.K false) := by
  intro pins s σ H1 x y v u Q I rx ry h
  obtain ⟨H, a, b, ks, ls, rfl, rfl, l, r1, r2, ok, q⟩ := h
  obtain rfl : v = Value.ref a := rx
  obtain rfl : u = Value.ref b := ry
  unfold dictOk at ok
  rw [Bool.and_eq_true, Bool.and_eq_true, Bool.and_eq_true] at ok
  obtain ⟨⟨⟨o1, o2⟩, o3⟩, o4⟩ := ok
  obtain ⟨kk, va, p1, p2, p3, p4, p5⟩ := dict_parts I l r1 (by simpa using o1)
  obtain ⟨kl, vb, q1, q2, q3, q4, q5⟩ := dict_parts I l r2 (by simpa using o2)
  have l1 : va.length = ks.length := by rw [← p2.length, p1.length]
  have l2 : vb.length = ls.length := by rw [← q2.length, q1.length]
  exact PySem.W.keq_eq (knd := mixKind X.prog X.w) (r := hitsD ls ks) p4 q4 p5 q5 (by omega) (fun _ => hits_of I l (A := X.A.in1) (by show X.A.units + 1 + 60 < cLine; omega) q1 q2 o4 p1 p2 o3) (fin_bl I q (by rw [l1, l2, if_neg Bool.false_ne_true]; rfl))
theorem op_neK (hu : X.A.units + 64 < cLine) : OpR X (compareOp .NotEq) (rEqK X.K true) := by
  intro pins s σ H1 x y v u Q I rx ry h
  obtain ⟨H, a, b, ks, ls, rfl, rfl, l, r1, r2, ok, q⟩ := h
  obtain rfl : v = Value.ref a := rx
  obtain rfl : u = Value.ref b := ry
  unfold dictOk at ok
  rw [Bool.and_eq_true, Bool.and_eq_true, Bool.and_eq_true] at ok
  obtain ⟨⟨⟨o1, o2⟩, o3⟩, o4⟩ := ok
  obtain ⟨kk, va, p1, p2, p3, p4, p5⟩ := dict_parts I l r1 (by simpa using o1)
  obtain ⟨kl, vb, q1, q2, q3, q4, q5⟩ := dict_parts I l r2 (by simpa using o2)
  have l1 : va.length = ks.length := by rw [← p2.length, p1.length]
  have l2 : vb.length = ls.length := by rw [← q2.length, q1.length]
  exact PySem.W.keq_ne (knd := mixKind X.prog X.w) (r := hitsD ls ks) p4 q4 p5 q5 (by omega) (fun _ => hits_of I l (A := X.A.in1) (by show X.A.units + 1 + 60 < cLine; omega) q1 q2 o4 p1 p2 o3) (fin_bl I q (by rw [l1, l2, if_pos rfl]; rfl))
end
def rEqA (K : PySem.W.Frag) (neg : Bool) : R2 := fun x y H Q => rEqP K neg x y H Q ∨ rEqK K neg x y H Q
theorem Rp.dict_ref {K : PySem.W.Frag} {H : Hp} {v : V} {kvs : List (PyData × PyData)} (r : Rp K H v (.dict kvs)) : ∃ a, v = .ref a := by
  cases r with
  | dK => exact ⟨_, rfl⟩
  | dT => exact ⟨_, rfl⟩
theorem rx_eqA {K : PySem.W.Frag} : RX2 K (rEqA K false) gEqA := by
  intro H H1 v w d d' e l rv rw' h Q q
  unfold gEqA at h
  split at h
  · split at h
    · rename_i ks ls ok
      cases h
      obtain ⟨a, rfl⟩ := rv.dict_ref
      obtain ⟨b, rfl⟩ := rw'.dict_ref
      exact .inr ⟨H, a, b, ks, ls, rfl, rfl, l, rv, rw', ok, q _ H H1 (Nw.refl l) (.bl _)⟩
    · cases h
  · exact .inl (rx_eq H H1 v w _ _ e l rv rw' h Q q)
theorem rx_neA {K : PySem.W.Frag} : RX2 K (rEqA K true) gNeA := by
  intro H H1 v w d d' e l rv rw' h Q q
  unfold gNeA at h
  split at h
  · split at h
    · rename_i ks ls ok
      cases h
      obtain ⟨a, rfl⟩ := rv.dict_ref
      obtain ⟨b, rfl⟩ := rw'.dict_ref
      exact .inr ⟨H, a, b, ks, ls, rfl, rfl, l, rv, rw', ok, q _ H H1 (Nw.refl l) (.bl _)⟩
    · cases h
  · exact .inl (rx_ne H H1 v w _ _ e l rv rw' h Q q)
section
variable {X : Cx} {a b : Expr} {ta tb : TE} {f h : MX} {pos : Pos}
theorem re_eqA (hu : X.A.units + 64 < cLine) (ha : RE X a ta f) (hb : RE X b tb h) : RE X (.Compare a [.Eq] [b] pos) (tOp (rEqA X.K false) ta tb) (mOp2 gEqA f h) := re_cmp (OpR.or (op_eqP hu) (op_eqK hu)) rx_eqA (nomark _) ha hb
theorem re_neA (hu : X.A.units + 64 < cLine) (ha : RE X a ta f) (hb : RE X b tb h) : RE X (.Compare a [.NotEq] [b] pos) (tOp (rEqA X.K true) ta tb) (mOp2 gNeA f h) := re_cmp (OpR.or (op_neP hu) (op_neK hu)) rx_neA (nomark _) ha hb
theorem rt_eqA (hu : X.A.units + 64 < cLine) (ha : RE X a ta f) (hb : RE X b tb h) : RT X (.Compare a [.Eq] [b] pos) (tTest (tOp (rEqA X.K false) ta tb)) (mTst (mOp2 gEqA f h)) := rt_cmp (OpR.or (op_eqP hu) (op_eqK hu)) rx_eqA (nomark _) ha hb
theorem rt_neA (hu : X.A.units + 64 < cLine) (ha : RE X a ta f) (hb : RE X b tb h) : RT X (.Compare a [.NotEq] [b] pos) (tTest (tOp (rEqA X.K true) ta tb)) (mTst (mOp2 gNeA f h)) := rt_cmp (OpR.or (op_neP hu) (op_neK hu)) rx_neA (nomark _) ha hb
end

/-! ### isinstance of a list, a bool, a tuple, .. -/
def tyD : PyData → String
  | .none => "NoneType"
  | .bool _ => "bool"
  | .int _ => "int"
  | .str _ => "str"
  | .list _ => "list"
  | .tuple _ => "tuple"
  | .dict _ => "dict"
def isTagD : PyData → Bool
  | .dict kvs => isTag kvs
  | _ => false
theorem Rp.tyx {K : PySem.W.Frag} {H H1 : Hp} {v : V} {d : PyData} (r : Rp K H v d) (l : Le H H1) (nt : isTagD d = false) : TyX K H1 v (.type (tyD d)) := by
  have sl : ∀ {a : Addr} {xs : List V}, SqL K H a xs → TyX K H1 (.ref a) (.type "list") := fun {a xs} s => by
    rcases l.l s with (z | ⟨o, z⟩) | ⟨o, its, n, z1, z2, _⟩
    · exact .base (.lst z)
    · exact .base (.frz z)
    · exact .kList z1 z2
  have stt : ∀ {a : Addr} {xs : List V}, SqT K H a xs → TyX K H1 (.ref a) (.type "tuple") := fun {a xs} s => by
    rcases l.t s with (z | ⟨o, z⟩) | ⟨o, its, n, z1, z2, _⟩
    · exact .base (.tup z)
    · exact .fTuple z
    · exact .kTuple z1 z2
  cases r with
  | non => exact .base .non
  | bl b => exact .base (.bl b)
  | int i => exact .base (.int i)
  | str x => exact .base (.str x)
  | lst s _ => exact sl s
  | tup s _ => exact stt (SqT.of s)
  | tupK s _ _ => exact stt s
  | dK rd _ =>
    rcases l.rd rd with z | ⟨o, z⟩
    · exact .base (.dK z)
    · exact .fDict z
  | dT rd _ => cases nt
/-- is a value of the one type of the other -/
def isTb (a b : String) : Bool := a == b || (a == "bool" && b == "int")
inductive IsiT : String → Prop
  | list : IsiT "list" | bool : IsiT "bool" | int : IsiT "int" | str : IsiT "str" | tuple : IsiT "tuple" | dict : IsiT "dict"
theorem kit_tb {T : String} (h : IsiT T) (d : PyData) : kitB (tyD d) T = some (isTb (tyD d) T) := by
  cases h <;> cases d <;> simp only [tyD] <;> decide +kernel
def mIsi (T : String) (f : MX) : MX := fun E => (f E).bind fun p => if isTagD p.1 = true then none else some (.bool (isTb (tyD p.1) T), p.2)
theorem ev_isi {K : PySem.W.Frag} {te : TE} {f : MX} {T : String} (hT : IsiT T) (h : EvX K te f) :
    EvX K (tCB (rIsi K) (tCons te (tCons (tC (.ty T)) tNil))) (mIsi T f) := by
  intro E d E' e σ H H1 R Q q
  obtain ⟨⟨d1, E1⟩, e1, e2⟩ := bnd e
  simp only at e2
  split at e2
  · cases e2
  · rename_i nt
    cases e2
    refine h E d1 _ e1 σ H H1 R _ fun v Ha Hb st R1 r => ?_
    exact ⟨v, .ty T, .type (tyD d1), .type T, isTb (tyD d1) T, rfl, .ty T, r.tyx R1.le (by simpa using nt), kit_ty (kit_tb hT d1), q _ Ha Hb st R1 (.bl _)⟩
section
variable {X : Cx} {e : Expr} {te : TE} {f : MX} {p p2 pos : Pos}
theorem re_isi {T : Str} {Ts : String} (hT : IsiT Ts) (hg : Gl X "isinstance") (hm : X.mg "isinstance" = none) (hgT : Gl X T) (hmT : X.mg T = none) (hvT : bootBuiltins T = some (.type Ts)) (h : RE X e te f)
    (hn : T ≠ "__name__" := by decide) (hdb : (T == ("__debug__" : Str)) = false := by decide)
    (hs1 : starEach [e, .Name T p2] X.env = (false, eval e X.env) :: starEach [.Name T p2] X.env := by rfl) (hs2 : starEach [.Name T p2] X.env = (false, eval (.Name T p2) X.env) :: starEach [] X.env := by rfl) (hpl : (backTo pos (starEach [.Name T p2] X.env)).any (·.1) = false := by rfl) :
    RE X (.Call (.Name "isinstance" p) [e, .Name T p2] [] pos) (tCB (rIsi X.K) (tCons te (tCons (tC (.ty Ts)) tNil))) (mIsi Ts f) :=
  ⟨pe_callB call_isi hg hm (by decide +kernel) (pa_cons h.pe (pa_cons (pe_bltn hgT hmT hvT rfl hn hdb) pa_nil hs2) hs1) (by decide) (by decide) hs1 hpl, ev_isi hT h.ev⟩
end

/-! ### sorted of a dict's keys -/
def allS : List PyData → Option (List Str)
  | [] => some []
  | .str x :: r => (allS r).bind fun xs => some (x :: xs)
  | _ => none
theorem allS_map : ∀ {ds : List PyData} {xs : List Str}, allS ds = some xs → ds = xs.map .str
  | [], _, h => by cases h; rfl
  | d :: ds, _, h => by
    cases d with
    | str x =>
      obtain ⟨ys, e1, e2⟩ := bnd (show (allS ds).bind _ = some _ from h)
      cases e2
      rw [allS_map e1]; rfl
    | _ => cases h
theorem allS_of : ∀ xs : List Str, allS (xs.map .str) = some xs
  | [] => rfl
  | x :: xs => by
    show (allS (xs.map .str)).bind _ = _
    rw [allS_of xs]; rfl
def leS (a b : Str) : Bool := decide (a.cps.toList ≤ b.cps.toList)
theorem sortD_str (xs : List Str) : sortD (xs.map .str) = (xs.mergeSort leS).map .str := by
  unfold sortD
  rw [List.map_mergeSort (r := leS) (s := PySem.W.dataLe false id) (f := PyData.str) (fun a _ b _ => ?_)]
  show decide (a.cps.toList ≤ b.cps.toList) = PySem.W.dataLe false (fun x : Str => PyData.str x) a b
  rw [PySem.W.dataLe_str (fun x : Str => x)]
theorem leS_trans (a b c : Str) (h1 : leS a b = true) (h2 : leS b c = true) : leS a c = true :=
  decide_eq_true (List.le_trans (of_decide_eq_true h1) (of_decide_eq_true h2))
theorem leS_total (a b : Str) : (leS a b || leS b a) = true := by
  unfold leS
  rw [Bool.or_eq_true, decide_eq_true_eq, decide_eq_true_eq]
  exact List.le_total ..
theorem leS_anti (a b : Str) (h1 : leS a b = true) (h2 : leS b a = true) : a = b :=
  PySem.W.str_of_cps (List.le_antisymm (of_decide_eq_true h1) (of_decide_eq_true h2))
theorem rising_pairwise : ∀ (p : Str) (r : List Str), risingS p r = true → (p :: r).Pairwise fun a b => leS a b = true
  | p, [], _ => List.pairwise_singleton _ _
  | p, x :: r, h => by
    unfold risingS at h
    rw [Bool.and_eq_true] at h
    have ih := rising_pairwise x r h.2
    have hpx : leS p x = true := by
      unfold leS
      have h1 := h.1
      rw [Bool.not_eq_true'] at h1
      refine decide_eq_true (List.not_lt.mp fun z => ?_)
      have : ltCps x.cps.toList p.cps.toList = true := by
        rw [ltCps_eq]; exact decide_eq_true z
      rw [this] at h1; cases h1
    refine List.pairwise_cons.mpr ⟨fun y hy => ?_, ih⟩
    rcases List.mem_cons.mp hy with rfl | hy
    · exact hpx
    · exact leS_trans _ _ _ hpx ((List.pairwise_cons.mp ih).1 y hy)
theorem sortedS_eq {xs ys : List Str} (h1 : ys.Perm xs) (h2 : sortedS ys = true) : ys = xs.mergeSort leS := by
  have p1 : ys.Pairwise fun a b => leS a b = true := by
    cases ys with
    | nil => exact List.Pairwise.nil
    | cons y r => exact rising_pairwise y r h2
  have p2 : (xs.mergeSort leS).Pairwise fun a b => leS a b = true := List.pairwise_mergeSort leS_trans leS_total xs
  exact List.Perm.eq_of_pairwise (fun a b _ _ => leS_anti a b) p1 p2 (h1.trans (List.mergeSort_perm xs leS).symm)
def gSortedDk : List PyData → Option PyData
  | [.dict kvs] => if isTag kvs = true then none else (allS (kvs.map (·.1))).bind fun xs => if xs.length < 64 then some (.list ((xs.mergeSort leS).map .str)) else none
  | _ => none
def rSortDk : List V → Hp → VK → Prop := fun xs H Q => ∃ (a : Addr) (kvs : List (Key × V)) (ks : List Str), xs = [.ref a] ∧ Rd H a (.dK kvs) ∧ kvs.map (·.1) = ks.map Sum.inr ∧ ks.length < 64 ∧
    ∀ ys p, ys.Perm ks → sortedS ys = true → H p = none → Q (.ref p) (upd H p (.lst (ys.map V.str)))
theorem keys_str {K : PySem.W.Frag} {H : Hp} : ∀ {ks : List (Key × V)} {ds : List (PyData × PyData)} {xs : List Str}, RpKV K H ks ds → ds.map (·.1) = xs.map .str → ks.map (·.1) = xs.map Sum.inr
  | _, _, [], .nil, _ => rfl
  | _, _, _ :: _, .nil, h => by cases h
  | _, _, [], .cons _ _, h => by cases h
  | _, _, x :: xs, .cons (k := k) r t, h => by
    rw [List.map_cons, List.map_cons, List.cons.injEq] at h
    have h1 : kD k = .str x := h.1
    cases k with
    | inl i => cases h1
    | inr y =>
      cases h1
      rw [List.map_cons, List.map_cons, keys_str t h.2]
theorem rp_strs {K : PySem.W.Frag} {H : Hp} : ∀ xs : List Str, RpAll K H (xs.map V.str) (xs.map PyData.str)
  | [] => .nil
  | x :: xs => .cons (.str x) (rp_strs xs)
theorem rx_sortedDk {K : PySem.W.Frag} : RXL K rSortDk gSortedDk := by
  intro H H1 vs ds e l r h Q q
  unfold gSortedDk at h
  split at h
  · split at h
    · cases h
    · rename_i kvs nt
      obtain ⟨xs, e1, e2⟩ := bnd h
      split at e2
      · rename_i h64
        cases e2
        cases r with
        | cons r rr =>
          cases rr
          cases r with
          | dK rd r =>
            refine ⟨_, _, xs, rfl, l.rd rd, keys_str r (allS_map e1), h64, fun ys p hp hs hn => ?_⟩
            have n := Nw.one (o := .lst (ys.map V.str)) l hn
            rw [← sortedS_eq hp hs] at q
            exact q _ _ _ n (.lst (SqL.of upd_same) (rp_strs ys))
          | dT rd r => exact absurd rfl nt
      · cases e2
  · cases h
def gSortedA (ds : List PyData) : Option PyData := match ds with
  | [.dict kvs] => gSortedDk [.dict kvs]
  | ds => gSorted ds
def rSortA (K : PySem.W.Frag) : List V → Hp → VK → Prop := fun xs H Q => rSortD K xs H Q ∨ rSortDk xs H Q
theorem cr_sortA {X : Cx} (hc : X.calm = true) (hu : X.A.units + 64 < cLine) : CallR X (.builtin "sorted") (rSortA X.K) := CallR.or (cr_sortD hu) (call_sortedD hc)
theorem rx_sortA {K : PySem.W.Frag} : RXL K (rSortA K) gSortedA := by
  intro H H1 vs ds e l r h Q q
  unfold gSortedA at h
  split at h
  · exact .inr (rx_sortedDk H H1 vs _ e l r h Q q)
  · exact .inl (rx_sorted H H1 vs _ e l r h Q q)

/-! ### {k: v for .. in ..} -/
def compD (t : MTg) (c : MT) (ek ev : MX) (vs : List Nat) : List PyData → En → List (PyData × PyData) → Option (List (PyData × PyData) × En)
  | [], E, acc => some (acc, E)
  | x :: xs, E, acc => (t x E).bind fun E1 => (c E1).bind fun p => if p.1 then (ek p.2).bind fun k => (ev k.2).bind fun v => if isKD k.1 = true ∧ acc.length < sizeLine then compD t c ek ev vs xs (wipeE v.2 vs) (putD acc k.1 v.1) else none else compD t c ek ev vs xs (wipeE p.2 vs) acc
def oDc (i : ML) (t : MTg) (c : MT) (ek ev : MX) (vs : List Nat) : MO := fun E => (i E).bind fun p => (compD t c ek ev vs p.1 (wipeE p.2 vs) []).bind fun r => some (.dK r.1, restE p.2 r.2 vs)
section
variable {K : PySem.W.Frag} {ws vs : List Nat} {g : TG} {t : MTg} {tt : TT} {c : MT} {tk tv : TE} {ek ev : MX}
theorem dc_core' (hs : ∀ j ∈ ws, j ∈ vs) (hg : TgX K ws g t) (hc : EvT K tt c) (hk' : EvX K tk ek) (he : EvX K tv ev) {J : It} {Dk : List (Addr × HO)} {xs : List PyData} {E : En} {σ : L2.St} {H H1 : Hp} {r : List (PyData × PyData)} {Eo : En} (it : ItX K J H Dk xs) (R : EnvR K E σ H H1)
    (hk : ∀ p ∈ Dk, H p.1 ≠ none ∧ H1 p.1 = some p.2) (e : compD t c ek ev vs xs (wipeE E vs) [] = some (r, Eo)) {Q : VK} {D : Addr} (hD : H1 D = none)
    (q : ∀ H' H2, Stp (Owns E σ) H H1 (Owns (restE E Eo vs) σ) H' H2 → EnvR K (restE E Eo vs) σ H' H2 → H' D = none → ¬ Owns (restE E Eo vs) σ D → OwnAt K H' H2 D (.dK r) → Q (.ref D) H2) :
    ∃ W : Nat → Nat → Hp → Prop, (∃ m, W 0 m (upd H1 D (.dK []))) ∧ ∀ i m H, W i m H →
      (J.stop i H ∧ Q (.ref D) H) ∨ (J.go i H ∧ ∃ Nx : Hp → Prop, (∀ H', Nx H' → ∃ m', m' < m ∧ W (i + 1) m' H') ∧ ∀ x H', J.yld i H x H' → g x (wipe σ vs) H' fun σ2 H2 => wipe σ2 vs = wipe σ vs ∧ tt σ2 H2 fun b H3 =>
        if b = true then tk σ2 H3 fun y H4 => tv σ2 H4 fun z H5 => ∃ kvs k, y = kV k ∧ H5 D = some (.dK kvs) ∧ kvs.length < sizeLine ∧ Nx (upd H5 D (.dK (putK kvs k z))) else Nx H3) := by
  obtain ⟨s0, R0, h0, nO⟩ := R.newOwn (u := .dK []) hD
  let Inv2 : Nat → Hp → Prop := fun i H2 => i ≤ xs.length ∧ ∃ (Ei : En) (Hi : Hp) (acc : List (Key × V)) (done : List (PyData × PyData)), compD t c ek ev vs (xs.drop i) Ei done = some (r, Eo) ∧
    Stp (Owns E σ) H H1 (Owns Ei (wipe σ vs)) Hi H2 ∧ EnvR K Ei (wipe σ vs) Hi H2 ∧ H2 D = some (.dK acc) ∧ Hi D = none ∧ ¬ Owns Ei (wipe σ vs) D ∧ RpKV K Hi acc done
  refine ⟨fun i m H2 => m = xs.length - i ∧ Inv2 i H2, ⟨xs.length, by simp, Nat.zero_le _, wipeE E vs, H, [], [], by simpa using e, s0.wk fun a z => owns_wipe z, R0.wipe vs, upd_same, h0, fun z => nO (owns_wipe z), .nil⟩, ?_⟩
  rintro i m H2 ⟨rfl, hi, Ei, Hi, acc, done, ei, st, Ri, hacc, hDi, nOi, ra⟩
  have hk2 : ∀ p ∈ Dk, H2 p.1 = some p.2 := fun p hp => by
    obtain ⟨h1, h2⟩ := hk p hp
    exact st.fr p.1 p.2 h2 fun z => h1 (R.there z).1
  obtain ⟨i1, i2⟩ := it i Hi H2 st.ex Ri.le hk2
  by_cases hlt : i < xs.length
  · have hx : xs[i]? = some xs[i] := by simp [hlt]
    obtain ⟨go, yl⟩ := i1 _ hx
    rw [List.drop_eq_getElem_cons hlt] at ei
    obtain ⟨E1, e1, e2⟩ := bnd ei
    obtain ⟨⟨b, E2⟩, e3, e4⟩ := bnd e2
    refine .inr ⟨go, Inv2 (i + 1), fun H3 h3 => ⟨xs.length - (i + 1), by omega, rfl, h3⟩, fun x H3 y => ?_⟩
    obtain ⟨Hj, nw, rx⟩ := yl x H3 y
    have R2 := Ri.nw nw
    have st2 := st.trans (nw.stp _)
    obtain ⟨hD3, hDj, nOj⟩ := (nw.stp (Owns Ei (wipe σ vs))).aside hacc hDi nOi
    refine hg _ Ei E1 e1 x _ Hj H3 R2 rx _ fun σ2 s => ?_
    have hw : wipe σ2 vs = wipe σ vs := by
      have h1 : wipe σ2 vs = wipe (wipe σ vs) vs := wipe_eq s.len s.out hs
      have h2 : wipe (wipe σ vs) vs = wipe σ vs := wipe_eq (vs := vs) (wipe_length σ vs) (fun j hj => wipe_get hj) fun j hj => hj
      exact h1.trans h2
    refine ⟨hw, ?_⟩
    have st3 : Stp (Owns E σ) H H1 (Owns E1 σ2) Hj H3 := st2.wk s.own
    have nO3 : ¬ Owns E1 σ2 D := fun z => nOj (s.own D z)
    refine hc E1 b E2 e3 σ2 Hj H3 s.env _ fun Ha Hb st4 R4 => ?_
    obtain ⟨hD4, hDa, nO4⟩ := st4.aside hD3 hDj nO3
    have st5 := st3.trans st4
    cases b with
    | false =>
      show Inv2 (i + 1) Hb
      refine ⟨hlt, wipeE E2 vs, Ha, acc, done, e4, ?_, ?_, hD4, hDa, ?_, ra.mono (.of ?_)⟩
      · rw [← hw]; exact st5.wk fun a z => owns_wipe z
      · rw [← hw]; exact R4.wipe vs
      · rw [← hw]; exact fun z => nO4 (owns_wipe z)
      · exact nw.ex.trans st4.ex
    | true =>
      obtain ⟨⟨kd, E3⟩, e5, e6⟩ := bnd e4
      obtain ⟨⟨vd, E4⟩, e7, e8⟩ := bnd e6
      simp only at e8
      split at e8
      · rename_i hkd
        show tk σ2 Hb fun y H4 => tv σ2 H4 fun z H5 => ∃ kvs k, y = kV k ∧ H5 D = some (.dK kvs) ∧ kvs.length < sizeLine ∧ Inv2 (i + 1) (upd H5 D (.dK (putK kvs k z)))
        refine ev2 hk' he e5 e7 R4 fun v w Hc Hd st6 R6 rk rv => ?_
        obtain ⟨hD6, hDc, nO6⟩ := st6.aside hD4 hDa nO4
        obtain ⟨k', ek1, ek2⟩ := rk.key hkd.1
        subst ek1 ek2
        refine ⟨acc, k', rfl, hD6, by rw [ra.length]; exact hkd.2, hlt, wipeE E4 vs, Hc, putK acc k' w, putD done (kD k') vd, e8, ?_, ?_, upd_same, hDc, ?_, ?_⟩
        · rw [← hw]; exact ((st5.trans st6).foreign hD).wk fun a z => owns_wipe z
        · rw [← hw]; exact (R6.foreign hDc nO6).wipe vs
        · rw [← hw]; exact fun z => nO6 (owns_wipe z)
        · exact (ra.mono (.of ((nw.ex.trans st4.ex).trans st6.ex))).put rv
      · cases e8
  · have hi2 : i = xs.length := by omega
    subst hi2
    rw [List.drop_length] at ei
    cases ei
    have Rf := R.rest Ri st.ex
    exact .inl ⟨i2 (Nat.le_refl _), q Hi H2 (st.wk fun a z => owns_rest z) Rf hDi (fun z => nOi (owns_rest z)) ⟨acc, hacc, ra⟩⟩
theorem ev_dc {wi : TI} {il : ML} (hs : ∀ j ∈ ws, j ∈ vs) (hi : EvI K wi il) (hg : TgX K ws g t) (hc : EvT K tt c) (hk : EvX K tk ek) (he : EvX K tv ev) : EvO K (tDc wi g tt tk tv vs) (oDc il t c ek ev vs) := by
  intro E o E' e σ H H1 R Q q
  obtain ⟨⟨xs, E1⟩, e1, e2⟩ := bnd e
  obtain ⟨⟨r, Eo⟩, e3, e4⟩ := bnd e2
  cases e4
  refine hi E xs E1 e1 σ H H1 R _ fun J Ha Hb st R1 it D hD => ?_
  exact dc_core' hs hg hc hk he it R1 (fun p hp => by cases hp) e3 hD fun H' H2 st2 R2 h0 nO ho => q D H' H2 (st.trans st2) R2 (.inl (st.dm D hD)) h0 nO ho
end
section
variable {X : Cx} {ws : List Nat} {kx vx tg it : Expr} {ifs : List Expr} {scope : Scope} {own : List (Str × Nat)} {pos spos : Pos} {wi : TI} {il : ML} {g : TG} {t : MTg} {tt : TT} {c : MT} {tk tv : TE} {ek ev : MX}
theorem ro_dc (hc : X.calm = true) (hN : X.N.Nodup) (hi : RI X tg it wi il) (ok : BlkOk X.N X.env.scope scope own) (hs : subL ws (own.map (·.2)) = true)
    (hg : ∀ (s : Shared) (H : Hp) (C : Addr) (cl : List (Str × Addr)) (fp : List Addr), RTg (X.blk s H scope (compEnvC scope cl C X.env) fp) ws tg g t)
    (ht : ∀ (s : Shared) (H : Hp) (C : Addr) (cl : List (Str × Addr)) (fp : List Addr), RIf (X.blk s H scope (compEnvC scope cl C X.env) fp) ifs tt c)
    (hk : ∀ (s : Shared) (H : Hp) (C : Addr) (cl : List (Str × Addr)) (fp : List Addr), RE (X.blk s H scope (compEnvC scope cl C X.env) fp) kx tk ek)
    (he : ∀ (s : Shared) (H : Hp) (C : Addr) (cl : List (Str × Addr)) (fp : List Addr), RE (X.blk s H scope (compEnvC scope cl C X.env) fp) vx tv ev) (hf : ∀ x, foldedSetIterable it X.env x = pure x := by intro _; rfl) :
    RO X (.DictComp kx vx [⟨tg, it, ifs, 0⟩] scope pos) (tDc wi g tt tk tv (own.map (·.2))) (oDc il t c ek ev (own.map (·.2))) :=
  ⟨pe_dc hc hN hi.pi ok (fun s H C cl fp => (hg s H C cl fp).pg) (fun s H C cl fp => (ht s H C cl fp).pt) (fun s H C cl fp => (hk s H C cl fp).pe) (fun s H C cl fp => (he s H C cl fp).pe) hf,
    ev_dc (subL_mem hs) hi.ev (hg X.s_0 X.H_0 0 [] []).ev (ht X.s_0 X.H_0 0 [] []).ev (hk X.s_0 X.H_0 0 [] []).ev (he X.s_0 X.H_0 0 [] []).ev⟩
end
end Dm

/-! Dm: sorted(d.items()). -/
namespace Dm
open PySem PySem.Spec PyProof.Rows L2

theorem items_laid2 {X : Cx} {pins : List (Addr × Obj)} {σ : L2.St} {H : Hp} {s : Shared} {h' : Heap} {tk : Nat} {kvs : List (Key × V)} {vs : List (Key × Value)} {as : List Addr} (I : Inv X pins σ H s) (hz : kvs.length ≤ sizeLine) (kv : KV kvs vs)
    (hk : ∀ b o, s.heap.get? b = some o → h'.get? b = some o) (hl : as.length = vs.length) (hG : PySem.W.KdxG (mixKind X.prog X.w) vs s.heap.objs.size h' as) :
    as.Nodup ∧ (∀ t ∈ as, H t = none) ∧ Inv X pins σ (LiI.putT H as kvs) { s with heap := h', toks := tk } := by
  have lk : kvs.length = vs.length := Paired.length kv
  have nd : as.Nodup := List.Pairwise.imp (fun {a b} (h : a < b) => Nat.ne_of_lt h) hG.rise
  have new : ∀ t ∈ as, H t = none := fun t ht => I.hok.fresh (Nat.le_of_lt (hG.above t ht))
  have atP := LiI.putT_at as kvs H (by omega) nd
  have off : ∀ b, b ∉ as → LiI.putT H as kvs b = H b := fun b h1 => LiI.putT_off as kvs _ h1
  have low : ∀ b o, s.heap.get? b = some o → b ∉ as := fun b o e z => absurd (Heap.lt_size e) (Nat.not_lt.mpr (Nat.le_of_lt (hG.above b z)))
  have kp : ∀ b u, H b = some u → (LiI.putT H as kvs) b = some u := fun b u e => by
    rw [off b (fun z => by rw [new b z] at e; cases e)]
    exact e
  refine ⟨nd, new, ?_⟩
  refine I.call' (ch := []) rfl ⟨fun b o q _ _ _ => hk b o q, fun b o q _ _ _ => ⟨o.slots, hk b o q⟩, fun b o q n _ => ?_, fun b o q _ => ⟨o, hk b o q⟩, fun b xs q => kp b _ q, fun b o u q => kp b _ q, fun b ps q => ⟨#[], by rw [kp b _ q]; simp⟩⟩ (fun b u q => ?_) I.bare fun b z => by simp at z
  · rw [off b (low b o q)]
    exact n
  · by_cases hb : b ∈ as
    · obtain ⟨j, pk, e1, e2, e3⟩ := LiI.paired_ix atP hb
      rw [e3] at q
      cases q
      obtain ⟨key, k, x, f1, f2, f3⟩ := hG.pairs j b e1
      obtain ⟨qv, g1, g2, g3⟩ := LiI.paired_get kv e2
      rw [f1] at g1
      cases g1
      have rk : RelV (kV pk.1) key := by
        rw [g2]
        exact relV_key (show keyIs k key = true from f2)
      exact ⟨by show 2 ≤ sizeLine; decide, [key, x], .cons rk (.cons g3 .nil), ⟨_, f3, rfl, _, rfl⟩⟩
    · rw [off b hb] at q
      exact (I.hok b u q).stay (fun d v _ y => hk d v y) (fun d y => kp d _ y) fun d xs y => kp d _ y

theorem putT_nw {H H1 : Hp} {as : List Addr} {ks : List (Key × V)} (l : Le H H1) (nd : as.Nodup) (hn : ∀ t ∈ as, H1 t = none) (hl : as.length = ks.length) : Nw H H1 (LiI.putT H as ks) (LiI.putT H1 as ks) := by
  have off : ∀ (G : Hp) b, b ∉ as → LiI.putT G as ks b = G b := fun G b h => LiI.putT_off as ks G h
  have a1 := LiI.putT_at as ks H hl nd
  have a2 := LiI.putT_at as ks H1 hl nd
  refine ⟨fun b o e => ?_, fun b o e => ?_, fun b h => ?_, fun b o e => ?_⟩
  · rw [off H b fun z => by rw [l.none (hn b z)] at e; cases e]; exact e
  · rw [off H1 b fun z => by rw [hn b z] at e; cases e]; exact e
  · by_cases hb : b ∈ as
    · exact .inr (hn b hb)
    · rw [off H b hb] at h; exact .inl h
  · by_cases hb : b ∈ as
    · obtain ⟨j, y, e1, e2, e3⟩ := LiI.paired_ix a1 hb
      obtain ⟨y', f1, f2⟩ := LiI.paired_get a2 e1
      rw [e2] at f1
      cases f1
      rw [e3] at e
      cases e
      exact .inl f2
    · rw [off H b hb] at e
      rcases l b o e with z | ⟨m, ob, z⟩
      · exact .inl (by rw [off H1 b hb]; exact z)
      · exact .inr ⟨m, ob, by rw [off H1 b hb]; exact z⟩
mutual
theorem reads_lt {h : Heap} : ∀ (d : PyData) (v : Value) (as : List Addr), d.plain = true → Reads h v d as → ∀ a ∈ as, a < h.objs.size
  | .none, _, _, _, r, a, ha => by cases r; cases ha
  | .bool _, _, _, _, r, a, ha => by cases r; cases ha
  | .int _, _, _, _, r, a, ha => by cases r; cases ha
  | .str _, _, _, _, r, a, ha => by cases r; cases ha
  | .list xs, _, _, p, r, a, ha => by
    cases r with
    | list h1 h2 h3 h4 =>
      rcases List.mem_cons.mp ha with rfl | ha
      · exact Heap.lt_size h1
      · exact reads_ltAll xs _ _ (by simpa only [PyData.plain] using p) h4 a ha
  | .tuple xs, _, _, p, r, a, ha => by
    cases r with
    | tuple h1 h2 h3 h4 => exact reads_ltAll xs _ _ (by simpa only [PyData.plain] using p) h4 a ha
  | .dict _, _, _, p, _, _, _ => by cases p
theorem reads_ltAll {h : Heap} : ∀ (ds : List PyData) (vs : List Value) (as : List Addr), PyData.plainAll ds = true → ReadsAll h vs ds as → ∀ a ∈ as, a < h.objs.size
  | [], _, _, _, r, a, ha => by cases r; cases ha
  | d :: ds, _, _, p, r, a, ha => by
    simp only [PyData.plainAll, Bool.and_eq_true] at p
    cases r with
    | cons h1 h2 =>
      rcases List.mem_append.mp ha with ha | ha
      · exact reads_lt d _ _ p.1 h1 a ha
      · exact reads_ltAll ds _ _ p.2 h2 a ha
end
def pairsD (kvs : List (PyData × PyData)) : List PyData := kvs.map fun p => .tuple [p.1, p.2]
theorem pairs_rp {K : PySem.W.Frag} {H : Hp} : ∀ {as : List Addr} {ks : List (Key × V)} {ds : List (PyData × PyData)}, Paired (fun (t : Addr) (q : Key × V) => H t = some (.tup [kV q.1, q.2])) as ks → RpKV K H ks ds → RpAll K H (as.map V.ref) (pairsD ds)
  | _, _, _, .nil, .nil => .nil
  | _, (k, v) :: _, _, .cons h t, .cons r rt => .cons (.tup h (.cons (rp_key k) (.cons r .nil))) (pairs_rp t rt)
theorem each_refs {X : Cx} {pins : List (Addr × Obj)} {σ : L2.St} {H H1 : Hp} {s : Shared} (I : Inv X pins σ H1 s) (l : Le H H1) : ∀ {as : List Addr} {ds : List PyData}, RpAll X.K H (as.map V.ref) ds → PyData.plainAll ds = true →
    PySem.W.EachIs (fun (u : Value) (b : Addr × PyData) => u = Value.ref b.1 ∧ Rp X.K H (.ref b.1) b.2) (as.map Value.ref) (as.zip ds) ∧ PySem.W.EachIs (fun (u : Value) (b : Addr × PyData) => ∃ as', Reads s.heap u b.2 as' ∧ ∀ x ∈ as', x < s.heap.objs.size) (as.map Value.ref) (as.zip ds)
  | [], _, .nil, _ => ⟨.nil, .nil⟩
  | a :: as, _, .cons r t, p => by
    simp only [PyData.plainAll, Bool.and_eq_true] at p
    obtain ⟨x, y⟩ := each_refs I l t p.2
    obtain ⟨as', h⟩ := r.reads I l p.1 (show RelV (.ref a) (Value.ref a) from rfl)
    exact ⟨.cons ⟨rfl, r⟩ x, .cons ⟨as', h, reads_lt _ _ _ p.1 h⟩ y⟩
theorem each_refs_back {K : PySem.W.Frag} {H : Hp} : ∀ {us : List Value} {bs : List (Addr × PyData)}, PySem.W.EachIs (fun (u : Value) (b : Addr × PyData) => u = Value.ref b.1 ∧ Rp K H (.ref b.1) b.2) us bs → Vals (bs.map fun b => V.ref b.1) us ∧ RpAll K H (bs.map fun b => V.ref b.1) (bs.map (·.2))
  | _, _, .nil => ⟨.nil, .nil⟩
  | _, _, .cons h t => by
    obtain ⟨a, b⟩ := each_refs_back t
    exact ⟨.cons h.1 a, .cons h.2 b⟩
theorem zip_snd' : ∀ {vs : List Addr} {ds : List PyData}, vs.length = ds.length → (vs.zip ds).map (·.2) = ds
  | [], [], _ => rfl
  | _ :: _, _ :: _, h => by rw [List.zip_cons_cons, List.map_cons, zip_snd' (by simpa using h)]
theorem sortZip' {vs : List Addr} {ds : List PyData} (hl : vs.length = ds.length) : ((vs.zip ds).mergeSort (PySem.W.dataLe false (·.2))).map (·.2) = sortD ds := by
  have h := List.map_mergeSort (f := fun (b : Addr × PyData) => b.2) (r := PySem.W.dataLe false (fun b : Addr × PyData => b.2)) (s := PySem.W.dataLe false (id : PyData → PyData)) (l := vs.zip ds) (fun _ _ _ _ => rfl)
  rw [h, zip_snd' hl]
  rfl
def rSItems (K : PySem.W.Frag) : V → Hp → VK → Prop := fun x H1 Q => ∃ (H : Hp) (d : Addr) (kvs : List (PyData × PyData)), x = .ref d ∧ Le H H1 ∧ Rp K H (.ref d) (.dict kvs) ∧ isTag kvs = false ∧ sortOk (pairsD kvs) = true ∧
  ∀ (H' H2 : Hp) (ys : List V) (p : Addr), Nw H H1 H' H2 → H2 p = none → RpAll K H' ys (sortD (pairsD kvs)) → Q (.ref p) (upd H2 p (.lst ys))
def tSItems (K : PySem.W.Frag) (te : TE) : TE := fun σ H Q => te σ H fun x H1 => rSItems K x H1 Q
def mSItems (f : MX) : MX := fun E => (f E).bind fun p => match p.1 with
  | .dict kvs => if isTag kvs = false ∧ sortOk (pairsD kvs) = true then some (.list (sortD (pairsD kvs)), p.2) else none
  | _ => none
theorem ev_sitems {K : PySem.W.Frag} {te : TE} {f : MX} (h : EvX K te f) : EvX K (tSItems K te) (mSItems f) := by
  intro E d E' e σ H H1 R Q q
  obtain ⟨⟨d1, E1⟩, e1, e2⟩ := bnd e
  simp only at e2
  split at e2
  · split at e2
    · rename_i kvs hc
      cases e2
      refine h E _ _ e1 σ H H1 R _ fun v Ha Hb st R1 r => ?_
      obtain ⟨a, rfl⟩ := r.dict_ref
      refine ⟨Ha, a, kvs, rfl, R1.le, r, hc.1, hc.2, fun H' H2 ys p n hp ry => ?_⟩
      have R2 := R1.nw n
      have n2 := Nw.one (o := .lst ys) R2.le hp
      exact q _ _ _ ((st.trans (n.stp _)).trans (n2.stp _)) (R2.nw n2) (.lst (SqL.of upd_same) (ry.mono (.of n2.ex)))
    · cases e2
  · cases e2
section
variable {X : Cx} {e : Expr} {te : TE} {f : MX} {p apos cpos pos : Pos}
theorem pe_sitems (hc : X.calm = true) (hu : X.A.units + 64 < cLine) (he : PE X e te) (hg : Gl X "sorted") (hm : X.mg "sorted" = none) (hv : bootBuiltins "sorted" = some (.builtin "sorted") := by decide +kernel) (hbase : attributeBase e "items" X.env (eval e X.env) = eval e X.env := by rfl) (hline : (apos.endLine == cpos.line) = true := by rfl)
    (hs : starEach [.Call (.Attribute e "items" apos) [] [] cpos] X.env = (false, eval (.Call (.Attribute e "items" apos) [] [] cpos) X.env) :: starEach [] X.env := by rfl) :
    PE X (.Call (.Name "sorted" p) [.Call (.Attribute e "items" apos) [] [] cpos] [] pos) (tSItems X.K te) := by
  refine ⟨fun pins s σ H Q I hq => ?_⟩
  refine wpAny_Call_Name_kw (ld_blt I hg hm hv ?_)
  refine PyProof.Rows.callWith_builtin1 ?_ hs rfl
  rw [hs]
  show wpAny _ _ (spliced ((false, eval (.Call (.Attribute e "items" apos) [] [] cpos) X.env) :: backTo pos (starEach [] X.env))) _ _ s
  refine Calls.spliced_cons ?_
  refine wpAny_Call_method (T := "dict") (id := "dict.items") hbase rfl hline F.plainAttrs_dict F.slot_dict_items F.type_dict_items (thn (he.run pins s σ H _ I hq) fun u s1 ⟨x, H1, I1, rx, H0, d, kvs, ex, le, rp, nt, ok, q⟩ => ?_)
  subst ex
  obtain rfl : u = Value.ref d := rx
  obtain ⟨ks, vs, rk, kv, hz, hs0, hdo⟩ := dict_parts I1 le rp nt
  obtain ⟨ep, hat⟩ := hdo.dictAt
  have lk : ks.length = vs.length := Paired.length kv
  have I2 : Inv X pins σ H1 { s1 with heap := s1.heap.push { cls := .type "dict_items", data := .fields #[.ref d] } } := I1.kept (t' := s1.toks) fun b ob q => Heap.get?_push_of_some _ q
  refine ⟨hdo.typeIs, hdo.mapOf.noDict, ?_⟩
  show wpAny _ _ (callWith cpos (.builtin "dict.items") [.ref d] [] []) _ X.xe s1
  refine method_meetsIn F.slot_dict_items F.entry_dict_items rfl (PySem.evalArgs_none ⟨rfl, hdo.typeIs, F.args_dict_items_1 _, _, meets_dict_items (mixKind X.prog X.w) d hs0, ⟨vs, hdo⟩, ?_⟩)
  refine Calls.spliced_nil ?_
  show wpAny _ _ (call (.builtin "sorted") [.ref s1.heap.objs.size]) _ _ _
  refine Calls.call_function_entry PyProof.Rows.kind_sorted PyProof.Rows.plain_sorted PyProof.Rows.entry_sorted (PyProof.Rows.args_sorted1 _) ?_
  unfold Builtin.«sorted»
  refine wpAny_bind (m := checkCount "sorted" 1 1 _) (wpAny_pure ?_)
  refine wpAny_bind (PySem.W.kdx_collect (A := X.A.in1) (knd := mixKind X.prog X.w) (kvs := vs) (ep := ep) (I1.ok.hd hc) ⟨_, Heap.get?_push_size _ rfl, rfl, rfl⟩ (hat.push _) (by omega) fun h' tk as hk hl hG => ?_)
  obtain ⟨nd, fr, J⟩ := items_laid2 (tk := tk) I2 hz kv hk hl hG
  have hlk : as.length = ks.length := by omega
  have nw := putT_nw (ks := ks) le nd fr hlk
  have ra : RpAll X.K (LiI.putT H0 as ks) (as.map V.ref) (pairsD kvs) := pairs_rp (LiI.putT_at as ks H0 hlk nd) (rk.mono (.of nw.ex))
  unfold sortOk at ok
  rw [Bool.and_eq_true, Bool.and_eq_true, Bool.and_eq_true] at ok
  obtain ⟨⟨⟨o1, o2⟩, o3⟩, o4⟩ := ok
  obtain ⟨e1, e2⟩ := each_refs J nw.le ra o4
  have hlen : as.length = (pairsD kvs).length := by have := ra.length; rwa [List.length_map] at this
  have hmap := zip_snd' hlen
  have hal : (as.map Value.ref).length ≤ sizeLine := by rw [List.length_map]; omega
  refine wpAny_bind (wpAny_newList ?_ hal)
  have hoL : (h'.push (seqObj "list" (as.map Value.ref).toArray 0)).get? h'.objs.size = some (seqObj "list" (as.map Value.ref).toArray 0) := Heap.get?_push_size _ rfl
  show wpAny _ _ _ _ _ { s1 with heap := h'.push (seqObj "list" (as.map Value.ref).toArray 0), toks := tk }
  have fin : wpAny (model X.prog X.w) X.A.in1 (call (.builtin "list.sort") [.ref h'.objs.size]) (fun _ s' => EP X pins σ Q (.ref h'.objs.size) s') X.xe { s1 with heap := h'.push (seqObj "list" (as.map Value.ref).toArray 0), toks := tk } := by
    refine PySem.W.list_sort_data (enc := fun b : Addr × PyData => b.2) (n := 0) hoL e1 (e2.mono fun v b ⟨as', r, hlt⟩ => ⟨as', PyProof.Rows.Reads.keeps (fun b o e => Heap.get?_push_of_some _ e) r, fun z => Nat.lt_irrefl _ (hlt _ z)⟩) (by rw [hmap]; exact alikes_all o1) (by rw [hmap]; exact sortable_all o2) (by rw [List.length_zip]; omega) (fun b hb => ?_) fun out ho eo => ?_
    · have hd : b.2 ∈ pairsD kvs := by rw [← hmap]; exact List.mem_map.mpr ⟨b, hb, rfl⟩
      have := of_decide_eq_true (List.all_eq_true.mp o3 _ hd)
      show X.A.units + 1 + 1 + _ < _
      omega
    · obtain ⟨v1, v2⟩ := each_refs_back eo
      rw [sortZip' hlen] at v2
      obtain ⟨ep2, he'⟩ := PyProof.Rows.sortedHeap_at (vs := as.map Value.ref) (out := out.toArray) hoL
      have hl2 : (((as.zip (pairsD kvs)).mergeSort (PySem.W.dataLe false (·.2))).map fun b => V.ref b.1).length ≤ sizeLine := by
        rw [List.length_map, List.length_mergeSort, List.length_zip]; omega
      refine ⟨.ref h'.objs.size, upd (LiI.putT H1 as ks) h'.objs.size (.lst (((as.zip (pairsD kvs)).mergeSort (PySem.W.dataLe false (·.2))).map fun b => V.ref b.1)), J.laid (t' := tk) (fun b u e => ?_) (Nat.le_refl _) ⟨hl2, out, ep2, v1, he'⟩, rfl, q _ _ _ _ nw (J.hok.fresh (Nat.le_refl _)) v2⟩
      have hb : b < h'.objs.size := Heap.lt_size e
      rw [PyProof.Rows.sortedHeap_old (Nat.ne_of_lt hb) (by rw [size_push']; exact Nat.lt_succ_of_lt hb)]
      exact Heap.get?_push_of_some _ e
  refine wpAny_bind (wpAny_holding (wpAny_mono fin (fun _ s' z => ?_) fun _ _ z => z))
  exact wpAny_pure ⟨_, rfl, z⟩
theorem re_sitems (hc : X.calm = true) (hu : X.A.units + 64 < cLine) (he : RE X e te f) (hg : Gl X "sorted") (hm : X.mg "sorted" = none) (hbase : attributeBase e "items" X.env (eval e X.env) = eval e X.env := by rfl) (hline : (apos.endLine == cpos.line) = true := by rfl)
    (hs : starEach [.Call (.Attribute e "items" apos) [] [] cpos] X.env = (false, eval (.Call (.Attribute e "items" apos) [] [] cpos) X.env) :: starEach [] X.env := by rfl) :
    RE X (.Call (.Name "sorted" p) [.Call (.Attribute e "items" apos) [] [] cpos] [] pos) (tSItems X.K te) (mSItems f) := ⟨pe_sitems hc hu he.pe hg hm (by decide +kernel) hbase hline hs, ev_sitems he.ev⟩
end
end Dm

/-! Dm: borrowing, membership tests, module constants, calls by name. -/
namespace Dm
open PySem PySem.Spec PyProof.Rows L2

/-! ### borrowing: own things read as data inside one expression -/
def frzS : Sl → Sl
  | .own o => .dat o.data
  | s => s
def frzE (E : En) : En := E.map frzS
def flatD : PyData → Bool
  | .int _ => true
  | .bool _ => true
  | .str _ => true
  | .none => true
  | _ => false
def mBor (f : MX) : MX := fun E => (f (frzE E)).bind fun p => if flatD p.1 = true then some (p.1, E) else none
def mBorT (f : MT) : MT := fun E => (f (frzE E)).bind fun p => some (p.1, E)
section
variable {K : PySem.W.Frag} {E : En} {σ : L2.St} {H H1 H0 H2 : Hp}
def frzN (n : Nat) (E : En) : En := E.mapIdx fun j s => if j < n then frzS s else s
theorem frzN_get (n : Nat) (E : En) (j : Nat) : (frzN n E)[j]? = (E[j]?).map fun s => if j < n then frzS s else s := by
  unfold frzN
  rw [List.getElem?_mapIdx]
theorem frzN_succ_of {n : Nat} (h : ∀ s, E[n]? = some s → frzS s = s) : frzN (n + 1) E = frzN n E := by
  apply List.ext_getElem?
  intro j
  rw [frzN_get, frzN_get]
  cases e : E[j]? with
  | none => rfl
  | some s =>
    simp only [Option.map_some, Option.some.injEq]
    by_cases hj : j < n
    · rw [if_pos hj, if_pos (by omega)]
    · rw [if_neg hj]
      by_cases hn : j = n
      · subst hn
        rw [if_pos (by omega)]
        exact h s e
      · rw [if_neg (by omega)]
theorem frzN_succ_own {n : Nat} {o : Own} (h : E[n]? = some (.own o)) : frzN (n + 1) E = (frzN n E).set n (.dat o.data) := by
  apply List.ext_getElem?
  intro j
  rw [frzN_get, List.getElem?_set, frzN_get]
  by_cases hn : n = j
  · subst hn
    have hl : n < (frzN n E).length := by
      unfold frzN
      rw [List.length_mapIdx]
      exact (List.getElem?_eq_some_iff.mp h).1
    rw [if_pos rfl, if_pos hl, h]
    simp [frzS]
  · rw [if_neg hn]
    cases e : E[j]? with
    | none => rfl
    | some s =>
      simp only [Option.map_some, Option.some.injEq]
      by_cases hj : j < n
      · rw [if_pos hj, if_pos (by omega)]
      · rw [if_neg hj, if_neg (by omega)]
theorem EnvR.frzN (R : EnvR K E σ H H1) : ∀ n, ∃ H0, Same H H0 ∧ EnvR K (frzN n E) σ H0 H1
  | 0 => ⟨H, Same.refl _, by
      have : Dm.frzN 0 E = E := by
        apply List.ext_getElem?
        intro j
        rw [frzN_get]
        cases E[j]? <;> simp
      rw [this]; exact R⟩
  | n + 1 => by
    obtain ⟨H0, s0, R0⟩ := R.frzN n
    cases e : E[n]? with
    | none => exact ⟨H0, s0, by rw [frzN_succ_of fun s q => by rw [e] at q; cases q]; exact R0⟩
    | some s =>
      cases s with
      | no => exact ⟨H0, s0, by rw [frzN_succ_of fun s q => by rw [e] at q; cases q; rfl]; exact R0⟩
      | dat d => exact ⟨H0, s0, by rw [frzN_succ_of fun s q => by rw [e] at q; cases q; rfl]; exact R0⟩
      | own o =>
        have g : (Dm.frzN n E)[n]? = some (.own o) := by rw [frzN_get, e]; simp
        obtain ⟨p, e1, h0, ho⟩ := R0.atS n _ g
        obtain ⟨u, hu, r⟩ := ho.ho' h0
        exact ⟨upd H0 p u, s0.trans (same_upd h0), by rw [frzN_succ_own e]; exact R0.frz g e1 h0 hu r⟩
theorem frzN_all : frzN E.length E = frzE E := by
  apply List.ext_getElem?
  intro j
  rw [frzN_get]
  unfold frzE
  rw [List.getElem?_map]
  cases e : E[j]? with
  | none => rfl
  | some s =>
    have := (List.getElem?_eq_some_iff.mp e).1
    simp [this]
theorem frzE_owns {a : Addr} : ¬ Owns (frzE E) σ a := fun ⟨i, o, e1, e2⟩ => by
  unfold frzE at e1
  rw [List.getElem?_map] at e1
  obtain ⟨s, _, e4⟩ := Option.map_eq_some_iff.mp e1
  cases s <;> cases e4
/-- what was laid beside an own thing unharmed -/
theorem EnvR.lend (R : EnvR K E σ H H1) : ∃ H0, Same H H0 ∧ EnvR K (frzE E) σ H0 H1 := by
  rw [← frzN_all]
  exact R.frzN _
theorem EnvR.back_lend (R : EnvR K E σ H H1) (s0 : Same H H0) {H' : Hp} {P' : Addr → Prop} (st : Stp (Owns (frzE E) σ) H0 H1 P' H' H2) (le : Le H' H2) : Stp (Owns E σ) H H1 (Owns E σ) H H2 ∧ EnvR K E σ H H2 := by
  have fr : ∀ a o, H1 a = some o → H2 a = some o := fun a o e => st.fr a o e frzE_owns
  refine ⟨⟨fun _ _ h => h, fun a o e _ => fr a o e, fun a h => .inl h, st.dm, fun a h => .inl h⟩, ⟨?_, R.len, fun i s e => ?_, R.sep⟩⟩
  · exact Le.pre (s0.trans st.ex) le
  · have z := R.atS i s e
    cases s with
    | no => trivial
    | dat d => exact z
    | own o =>
      obtain ⟨b, f1, f2, f3⟩ := z
      exact ⟨b, f1, f2, f3.move (Le.refl _) fun w q => fr _ _ q⟩
theorem flat_rp {d : PyData} {v : V} (h : flatD d = true) (r : Rp K H v d) : Rp K H2 v d := by
  cases d with
  | int i => rw [r.int_inv]; exact .int _
  | bool b => rw [r.bl_inv]; exact .bl _
  | str x => rw [r.str_inv]; exact .str _
  | none => rw [r.non_inv]; exact .non
  | list _ => cases h
  | tuple _ => cases h
  | dict _ => cases h
theorem ev_bor {te : TE} {f : MX} (h : EvX K te f) : EvX K te (mBor f) := by
  intro E d E' e σ H H1 R Q q
  obtain ⟨⟨d1, E1⟩, e1, e⟩ := bnd e
  split at e
  · rename_i hf
    cases e
    obtain ⟨H0, s0, R0⟩ := R.lend
    refine h _ _ _ e1 σ H0 H1 R0 _ fun v Ha Hb st R1 r => ?_
    obtain ⟨st2, R2⟩ := R.back_lend s0 st R1.le
    exact q v H Hb st2 R2 (flat_rp hf r)
  · cases e
theorem ev_borT {te : TT} {f : MT} (h : EvT K te f) : EvT K te (mBorT f) := by
  intro E d E' e σ H H1 R Q q
  obtain ⟨⟨d1, E1⟩, e1, e⟩ := bnd e
  cases e
  obtain ⟨H0, s0, R0⟩ := R.lend
  refine h _ _ _ e1 σ H0 H1 R0 _ fun Ha Hb st R1 => ?_
  obtain ⟨st2, R2⟩ := R.back_lend s0 st R1.le
  exact q H Hb st2 R2
end
section
variable {X : Cx} {e : Expr}
theorem re_bor {te : TE} {f : MX} (h : RE X e te f) : RE X e te (mBor f) := ⟨h.pe, ev_bor h.ev⟩
theorem rt_bor {te : TT} {f : MT} (h : RT X e te f) : RT X e te (mBorT f) := ⟨h.pt, ev_borT h.ev⟩
end

/-! ### in, not in as tests -/
theorem PT.or {X : Cx} {e : Expr} {w1 w2 : TT} (h1 : PT X e w1) (h2 : PT X e w2) : PT X e (fun σ H R => w1 σ H R ∨ w2 σ H R) := ⟨fun pins s σ H R I h => by
  rcases h with h | h
  · exact h1.run pins s σ H R I h
  · exact h2.run pins s σ H R I h⟩
section
variable {X : Cx} {a b : Expr} {ta tb : TE} {f h : MX} {pos : Pos}
theorem rt_in (hu : X.A.units + 64 < cLine) (ha : RE X a ta f) (hb : RE X b tb h) (hm : behindInMarks .In b = false := by rfl) : RT X (.Compare a [.In] [b] pos) (fun σ H Q => tTest (tOp (rInP X.K false) ta tb) σ H Q ∨ tB (tDIn ta tb) σ H Q) (mTst (mOp2 gInA f h)) :=
  ⟨PT.or (pt_cmpR (op_inP hu) ha.pe hb.pe hm) (pt_cmp (pc_din (by omega) ha.pe hb.pe) hm), by
    have := ev_tst (ev_inA ha.ev hb.ev)
    exact this⟩
theorem rt_notIn (hu : X.A.units + 64 < cLine) (ha : RE X a ta f) (hb : RE X b tb h) (hm : behindInMarks .NotIn b = false := by rfl) : RT X (.Compare a [.NotIn] [b] pos) (fun σ H Q => tTest (tOp (rInP X.K true) ta tb) σ H Q ∨ tB (tDNotIn ta tb) σ H Q) (mTst (mOp2 gNotInA f h)) :=
  ⟨PT.or (pt_cmpR (op_notInP hu) ha.pe hb.pe hm) (pt_cmp (pc_dnotin (by omega) ha.pe hb.pe) hm), by
    have := ev_tst (ev_notInA ha.ev hb.ev)
    exact this⟩
end

/-! ### a module's constant -/
/-- a constant of the module's, its value as data -/
structure HasC (K : PySem.W.Frag) (mg : Str → Option Value) (x : Str) (d : PyData) : Prop where
  ex : ∃ (v : V) (u : Value), mg x = some u ∧ RelV v u ∧ ∀ H, Rp K H v d
structure REx (X : Cx) (e : Expr) (f : MX) : Prop where
  ex : ∃ te, RE X e te f
theorem re_globX {X : Cx} {x : Str} {d : PyData} {pos : Pos} (h : HasC X.K X.mg x d) (hg : Gl X x := by rfl) (hd : (x == ("__debug__" : Str)) = false := by decide) : REx X (.Name x pos) (mC d) := by
  obtain ⟨v, u, h1, h2, h3⟩ := h.ex
  exact ⟨tC v, pe_glob hg h1 h2 hd, ev_c h3⟩
/-- some value of the constant, chosen -/
noncomputable def cV {K : PySem.W.Frag} {mg : Str → Option Value} {x : Str} {d : PyData} (h : HasC K mg x d) : V := h.ex.choose
theorem re_con {X : Cx} {x : Str} {d : PyData} {pos : Pos} (h : HasC X.K X.mg x d) (hg : Gl X x := by rfl) (hd : (x == ("__debug__" : Str)) = false := by decide) : RE X (.Name x pos) (tC (cV h)) (mC d) := by
  obtain ⟨u, h1, h2, h3⟩ := h.ex.choose_spec
  exact ⟨pe_glob hg h1 h2 hd, ev_c h3⟩
theorem hasC_int {K : PySem.W.Frag} {mg : Str → Option Value} {x : Str} {i : Int} {t : Tok} (h : mg x = some (.int i t)) : HasC K mg x (.int i) := ⟨.int i, _, h, ⟨t, rfl⟩, fun _ => .int _⟩
theorem hasC_str {K : PySem.W.Frag} {mg : Str → Option Value} {x : Str} {i : Str} {t : Tok} (h : mg x = some (.str i t)) : HasC K mg x (.str i) := ⟨.str i, _, h, ⟨t, rfl⟩, fun _ => .str _⟩
def strsV : List Value → Option (List Str)
  | [] => some []
  | .str x _ :: r => (strsV r).map (x :: ·)
  | _ :: _ => none
/-- a tuple of texts -/
theorem rp_strsK {K : PySem.W.Frag} {H : Hp} : ∀ (xs : List Str), RpAll K H (xs.map V.str) (xs.map PyData.str)
  | [] => .nil
  | x :: r => .cons (.str x) (rp_strsK r)
theorem vals_strs : ∀ (vs : List Value) (xs : List Str), strsV vs = some xs → Vals (xs.map V.str) vs
  | [], xs, h => by cases h; exact .nil
  | .str x t :: r, xs, h => by
    obtain ⟨ys, e1, e2⟩ := Option.map_eq_some_iff.mp (show (strsV r).map (x :: ·) = some xs from h)
    subst e2
    exact .cons ⟨t, rfl⟩ (vals_strs r ys e1)
  | .none :: _, _, h => by cases h
  | .bool _ :: _, _, h => by cases h
  | .int _ _ :: _, _, h => by cases h
  | .bytes _ _ :: _, _, h => by cases h
  | .float _ _ :: _, _, h => by cases h
  | .ref _ :: _, _, h => by cases h
  | .type _ :: _, _, h => by cases h
theorem hasC_tup {K : PySem.W.Frag} {mg : Str → Option Value} {x : Str} {a : Addr} {o : Obj} {its : Array Value} {n : Nat} (xs : List Str) (h : mg x = some (.ref a)) (hl : K.lookup a = some o) (hc : o.cls = .type "tuple") (hd : o.data = .seq its n)
    (hi : strsV its.toList = some xs) (hz : its.size ≤ sizeLine) (hk : kOk (xs.map PyData.str) = true) : HasC K mg x (.tuple (xs.map PyData.str)) :=
  ⟨.ref a, _, h, rfl, fun H => .tupK (xs := xs.map V.str) (.inr ⟨o, its, n, hl, hc, hd, hz, vals_strs _ _ hi⟩) hk (rp_strsK xs)⟩

/-- the texts that a tuple of the module's own holds -/
def tupO (o : Obj) : Option (List Str) := match o.cls, o.data with
  | .type c, .seq its _ => if c = "tuple" ∧ its.size ≤ sizeLine then strsV its.toList else none
  | _, _ => none
theorem hasC_tupO {K : PySem.W.Frag} {mg : Str → Option Value} {x : Str} {a : Addr} {o : Obj} (xs : List Str) (h : mg x = some (.ref a)) (hl : K.lookup a = some o) (ho : tupO o = some xs) (hk : kOk (xs.map PyData.str) = true) : HasC K mg x (.tuple (xs.map PyData.str)) := by
  unfold tupO at ho
  split at ho
  · rename_i c its n e1 e2
    split at ho
    · rename_i hc
      exact hasC_tup xs h hl (by rw [e1, hc.1]) e2 ho hc.2 hk
    · cases ho
  · cases ho

/-! ### a def of the module's, by its name -/
def XK0 : XK := fun _ _ _ => False
structure HasFn (P : Program) (w : World) (K : PySem.W.Frag) (mg : Str → Option Value) (base : Heap) (x : Str) (k : Nat) (ps : List Str) (sp : Sp) : Prop where
  ex : ∃ (f : Addr) (fd : FuncData), FnOk P w K mg base CX0 k f fd ps sp ∧ mg x = some (.ref f) ∧ PySem.W.keepIn K (.ref f) = true ∧ Binds K fd ps []
section
variable {X : Cx} {k n : Nat} {ps : List Str} {fh : MF} {fo : MFO} {x : Str} {p pos : Pos} {e : Expr} {es : List Expr} {ta : TA} {a : MG}
theorem re_fn {k' : Nat} (F : HasFn X.prog X.w X.K X.mg X.base x k ps (spD X.K n fh)) (hr : Room k' X.A) (hk : k ≤ k') (hg : Gl X x) (hx : Passes CX0 X XK0)
    (ha : RG X (e :: es) ta a) (hn : ∀ E as E', a E = some (as, E') → as.length = n) (hdb : (x == ("__debug__" : Str)) = false := by decide) (he : starEach (e :: es) X.env = (false, eval e X.env) :: starEach es X.env := by rfl) (hpl : (backTo pos (starEach es X.env)).any (·.1) = false := by rfl) :
    RE X (.Call (.Name x p) (e :: es) [] pos) (tCall (spD X.K n fh) [] XK0 ta) (mCall fh a) := by
  obtain ⟨f, fd, h1, h2, h3, h4⟩ := F.ex
  exact re_call h1 (hr.mono hk) hg h2 h3 h4 hx ha hn hdb he hpl
theorem ro_fn {k' : Nat} (F : HasFn X.prog X.w X.K X.mg X.base x k ps (spO X.K n fo)) (hr : Room k' X.A) (hk : k ≤ k') (hg : Gl X x) (hx : Passes CX0 X XK0)
    (ha : RG X (e :: es) ta a) (hn : ∀ E as E', a E = some (as, E') → as.length = n) (hdb : (x == ("__debug__" : Str)) = false := by decide) (he : starEach (e :: es) X.env = (false, eval e X.env) :: starEach es X.env := by rfl) (hpl : (backTo pos (starEach es X.env)).any (·.1) = false := by rfl) :
    RO X (.Call (.Name x p) (e :: es) [] pos) (tCall (spO X.K n fo) [] XK0 ta) (mCallO fo a) := by
  obtain ⟨f, fd, h1, h2, h3, h4⟩ := F.ex
  exact ro_call h1 (hr.mono hk) hg h2 h3 h4 hx ha hn hdb he hpl
end
end Dm

/-! Dm: comprehensions whose block's promises are hidden (their canonical forms stand for them). -/
namespace Dm
open PySem PySem.Spec PyProof.Rows L2
section
variable (K : PySem.W.Frag)
/-- the weakest demand under which a mirror speaks -/
def teOf (f : MX) : TE := fun σ H1 Q => ∃ H E d E', f E = some (d, E') ∧ EnvR K E σ H H1 ∧ ∀ v H' H2, Stp (Owns E σ) H H1 (Owns E' σ) H' H2 → EnvR K E' σ H' H2 → Rp K H' v d → Q v H2
def ttOf (f : MT) : TT := fun σ H1 Q => ∃ H E b E', f E = some (b, E') ∧ EnvR K E σ H H1 ∧ ∀ H' H2, Stp (Owns E σ) H H1 (Owns E' σ) H' H2 → EnvR K E' σ H' H2 → Q b H2
def tgOf (vs : List Nat) (t : MTg) : TG := fun v σ H1 Q => ∃ H d E E', t d E = some E' ∧ EnvR K E σ H H1 ∧ Rp K H v d ∧ ∀ σ', Stores K vs E σ H H1 E' σ' → Q σ' H1
end
section
variable {X : Cx} {e tg : Expr} {ifs : List Expr} {f : MX} {m : MT} {t : MTg} {ws : List Nat}
theorem RE.can {te : TE} (h : RE X e te f) : RE X e (teOf X.K f) f :=
  ⟨⟨fun pins s σ H Q I ⟨H0, E, d, E', e1, R, q⟩ => h.pe.run pins s σ H Q I (h.ev E d E' e1 σ H0 H R Q q)⟩, fun E d E' e1 σ H H1 R Q q => ⟨H, E, d, E', e1, R, q⟩⟩
theorem RIf.can {tt : TT} (h : RIf X ifs tt m) : RIf X ifs (ttOf X.K m) m :=
  ⟨⟨fun pins s σ H Q I ⟨H0, E, d, E', e1, R, q⟩ => h.pt.run pins s σ H Q I (h.ev E d E' e1 σ H0 H R Q q)⟩, fun E d E' e1 σ H H1 R Q q => ⟨H, E, d, E', e1, R, q⟩⟩
theorem RTg.can {g : TG} (h : RTg X ws tg g t) : RTg X ws tg (tgOf X.K ws t) t :=
  ⟨⟨fun pins s σ H v u Q I r ⟨H0, d, E, E', e1, R, rd, q⟩ => h.pg.run pins s σ H v u Q I r (h.ev d E E' e1 v σ H0 H R rd Q q)⟩, fun d E E' e1 v σ H H1 R rd Q q => ⟨H, d, E, E', e1, R, rd, q⟩⟩
end
/-- in the block: some promise -/
structure BE (X : Cx) (e : Expr) (f : MX) : Prop where
  ex : ∃ te, RE X e te f
structure BIf (X : Cx) (ifs : List Expr) (f : MT) : Prop where
  ex : ∃ tt, RIf X ifs tt f
structure BTg (X : Cx) (ws : List Nat) (tg : Expr) (t : MTg) : Prop where
  ex : ∃ g, RTg X ws tg g t
theorem RE.b {X : Cx} {e : Expr} {f : MX} {te : TE} (h : RE X e te f) : BE X e f := ⟨_, h⟩
theorem RIf.b {X : Cx} {e : List Expr} {f : MT} {te : TT} (h : RIf X e te f) : BIf X e f := ⟨_, h⟩
theorem RTg.b {X : Cx} {ws : List Nat} {e : Expr} {f : MTg} {te : TG} (h : RTg X ws e te f) : BTg X ws e f := ⟨_, h⟩
theorem BE.c {X : Cx} {e : Expr} {f : MX} (h : BE X e f) : RE X e (teOf X.K f) f := by obtain ⟨_, h⟩ := h; exact h.can
theorem BIf.c {X : Cx} {e : List Expr} {f : MT} (h : BIf X e f) : RIf X e (ttOf X.K f) f := by obtain ⟨_, h⟩ := h; exact h.can
theorem BTg.c {X : Cx} {ws : List Nat} {e : Expr} {f : MTg} (h : BTg X ws e f) : RTg X ws e (tgOf X.K ws f) f := by obtain ⟨_, h⟩ := h; exact h.can
/-- what a rule asks of the block -/
abbrev Blk (X : Cx) (scope : Scope) (p : Cx → Prop) : Prop := ∀ (s : Shared) (H : Hp) (C : Addr) (cl : List (Str × Addr)) (fp : List Addr), p (X.blk s H scope (compEnvC scope cl C X.env) fp)
section
variable {X : Cx} {ws : List Nat} {elt kx tg it : Expr} {ifs : List Expr} {scope : Scope} {own : List (Str × Nat)} {pos spos py : Pos} {wi : TI} {il : ML} {t : MTg} {c : MT} {el ek : MX} {io : List Nat} {i : Nat} {y : Str} {gk : List (PyData × PyData) → Option (List PyData)}
theorem bo_lc (hc : X.calm = true) (hN : X.N.Nodup) (hi : RI X tg it wi il) (ok : BlkOk X.N X.env.scope scope own) (hg : Blk X scope fun Y => BTg Y ws tg t) (ht : Blk X scope fun Y => BIf Y ifs c) (he : Blk X scope fun Y => BE Y elt el) (hs : subL ws (own.map (·.2)) = true)
    (hf : ∀ x, foldedSetIterable it X.env x = pure x := by intro _; rfl) : RO X (.ListComp elt [⟨tg, it, ifs, 0⟩] scope pos) (tLc wi (tgOf X.K ws t) (ttOf X.K c) (teOf X.K el) (own.map (·.2))) (oLc il t c el (own.map (·.2))) :=
  ro_lc hc hN hi ok hs (fun s H C cl fp => (hg s H C cl fp).c) (fun s H C cl fp => (ht s H C cl fp).c) (fun s H C cl fp => (he s H C cl fp).c) hf
theorem bo_lcD (hc : X.calm = true) (hN : X.N.Nodup) (hi : RK X tg it wi i gk) (ok : BlkOk X.N X.env.scope scope own) (hg : Blk X scope fun Y => BTg Y ws tg t) (ht : Blk X scope fun Y => BIf Y ifs c) (he : Blk X scope fun Y => BE Y elt el) (hs : subL ws (own.map (·.2)) = true)
    (hf : ∀ x, foldedSetIterable it X.env x = pure x := by intro _; rfl) : RO X (.ListComp elt [⟨tg, it, ifs, 0⟩] scope pos) (fun σ H Q => tLockE (tLc wi (tgOf X.K ws t) (ttOf X.K c) (teOf X.K el) (own.map (·.2))) σ H Q ∨ tLc wi (tgOf X.K ws t) (ttOf X.K c) (teOf X.K el) (own.map (·.2)) σ H Q) (oLcD i gk t c el (own.map (·.2))) :=
  ro_lcD hc hN hi ok hs (fun s H C cl fp => (hg s H C cl fp).c) (fun s H C cl fp => (ht s H C cl fp).c) (fun s H C cl fp => (he s H C cl fp).c) hf
theorem bs_setLcO (hc : X.calm = true) (hN : X.N.Nodup) (hy : X.N[i]? = some y) (hyl : X.env.scope.names.lookup y = some .local)
    (hsw : swapsWith (.ListComp elt [⟨tg, it, ifs, 0⟩] scope pos) (some (.Name y py)) spos.line X.env = pure true) (hio : i ∉ io) (hi : RI X tg it wi il) (ok : BlkOk X.N X.env.scope scope own) (hg : Blk X scope fun Y => BTg Y ws tg t) (ht : Blk X scope fun Y => BIf Y ifs c) (he : Blk X scope fun Y => BE Y elt el) (hs : subL ws (own.map (·.2)) = true)
    (hf : ∀ x, foldedSetIterable it X.env x = pure x := by intro _; rfl) : RS X io (.Assign [.Name y py] (.ListComp elt [⟨tg, it, ifs, 0⟩] scope pos) spos) (tAsg (tLc wi (tgOf X.K ws t) (ttOf X.K c) (teOf X.K el) (own.map (·.2))) (gName i)) (sAsgO i (oLc il t c el (own.map (·.2)))) :=
  rs_setLcO hc hN hy hyl hsw hio hi ok hs (fun s H C cl fp => (hg s H C cl fp).c) (fun s H C cl fp => (ht s H C cl fp).c) (fun s H C cl fp => (he s H C cl fp).c) hf
theorem bs_setLc (hc : X.calm = true) (hN : X.N.Nodup) (hy : X.N[i]? = some y) (hyl : X.env.scope.names.lookup y = some .local)
    (hsw : swapsWith (.ListComp elt [⟨tg, it, ifs, 0⟩] scope pos) (some (.Name y py)) spos.line X.env = pure true) (hio : i ∉ io) (hi : RI X tg it wi il) (ok : BlkOk X.N X.env.scope scope own) (hg : Blk X scope fun Y => BTg Y ws tg t) (ht : Blk X scope fun Y => BIf Y ifs c) (he : Blk X scope fun Y => BE Y elt el) (hs : subL ws (own.map (·.2)) = true)
    (hf : ∀ x, foldedSetIterable it X.env x = pure x := by intro _; rfl) : RS X io (.Assign [.Name y py] (.ListComp elt [⟨tg, it, ifs, 0⟩] scope pos) spos) (tAsg (tLc wi (tgOf X.K ws t) (ttOf X.K c) (teOf X.K el) (own.map (·.2))) (gName i)) (sAsg i (mOf (oLc il t c el (own.map (·.2))))) :=
  rs_setLc hc hN hy hyl hsw hio hi ok hs (fun s H C cl fp => (hg s H C cl fp).c) (fun s H C cl fp => (ht s H C cl fp).c) (fun s H C cl fp => (he s H C cl fp).c) hf
theorem bo_dc (hc : X.calm = true) (hN : X.N.Nodup) (hi : RI X tg it wi il) (ok : BlkOk X.N X.env.scope scope own) (hg : Blk X scope fun Y => BTg Y ws tg t) (ht : Blk X scope fun Y => BIf Y ifs c) (hk : Blk X scope fun Y => BE Y kx ek) (he : Blk X scope fun Y => BE Y elt el) (hs : subL ws (own.map (·.2)) = true)
    (hf : ∀ x, foldedSetIterable it X.env x = pure x := by intro _; rfl) : RO X (.DictComp kx elt [⟨tg, it, ifs, 0⟩] scope pos) (tDc wi (tgOf X.K ws t) (ttOf X.K c) (teOf X.K ek) (teOf X.K el) (own.map (·.2))) (oDc il t c ek el (own.map (·.2))) :=
  ro_dc hc hN hi ok hs (fun s H C cl fp => (hg s H C cl fp).c) (fun s H C cl fp => (ht s H C cl fp).c) (fun s H C cl fp => (hk s H C cl fp).c) (fun s H C cl fp => (he s H C cl fp).c) hf
end
end Dm

/-! Dm: enumerate over a list or a tuple. -/
namespace Dm
open PySem PySem.Spec PyProof.Rows L2

set_option maxHeartbeats 1000000 in
theorem meets_enum_1 {v : Value} {o : Obj} {H : Heap → Prop} (B : Begins v o H) :
    Meets (Builtin.«enumerate.__new__» ⟨[.type "enumerate", v], []⟩) (fun _ R s => H s.heap ∧
      R (.ok (.ret (.ref (s.heap.push o).objs.size))) { s with heap := (s.heap.push o).push { cls := .type "enumerate", data := .fields #[.none, .bool false, .ref s.heap.objs.size, rawInt 0, .none, .none] } }) :=
  .of_wp fun prog w A R s h => by
    obtain ⟨hp, g, d, tk, os⟩ := s
    obtain ⟨h1, h⟩ := h
    have hsub := sub_enumerate
    have q1 : ∀ {A' : Around} {E : Value → Shared → Prop} {Q : Value → Shared → Prop}, Q (.ref hp.objs.size) ⟨hp.push o, g, d, tk, os⟩ → wpAny (model prog w) A' (pyIter v) Q E ⟨hp, g, d, tk, os⟩ :=
      fun q => B.iter prog w _ _ ⟨hp, g, d, tk, os⟩ _ h1 q
    wp_walk using q1
    refine wpAny_stack_any fun st => wpAny_pure ?_
    split
    · rename_i c _ _ _ _ _
      cases (c == Value.type "enumerate") <;> (wp_walk using q1; exact ⟨_, rfl, h⟩)
    · wp_walk using q1
      exact ⟨_, rfl, h⟩
theorem call_enum_1 {prog : Program} {w : World} {A : Around} {E : Value → Shared → Prop} {s : Shared} {v : Value} {o : Obj} {H : Heap → Prop} {Q : Value → Shared → Prop} (B : Begins v o H) (h1 : H s.heap)
    (h : ∀ h', IsEnum h' (s.heap.objs.size + 1) s.heap.objs.size 0 .none → h'.get? s.heap.objs.size = some o → (∀ b o', s.heap.get? b = some o' → h'.get? b = some o') → Q (.ref (s.heap.objs.size + 1)) { s with heap := h' }) :
    wpAny (model prog w) A (call (.type "enumerate") [v]) Q E s := by
  refine callType_new F.called_enumerate (by decide) (F.typeCall_enumerate_1 _) (F.newCall_enumerate_1 _) (fun obj => F.args_object_init_2 obj _) F.entry_enumerate_new (meets_enum_1 B) ⟨h1, ?_⟩
  have hz : (s.heap.push o).objs.size = s.heap.objs.size + 1 := Heap.size_push ..
  show _ ∧ _
  rw [hz]
  have he : IsEnum ((s.heap.push o).push { cls := .type "enumerate", data := .fields #[.none, .bool false, .ref s.heap.objs.size, rawInt 0, .none, .none] }) (s.heap.objs.size + 1) s.heap.objs.size 0 .none := by
    have := Heap.get?_push_size (s.heap.push o) (o := { cls := .type "enumerate", data := .fields #[.none, .bool false, .ref s.heap.objs.size, rawInt 0, .none, .none] }) rfl
    rw [hz] at this
    exact this
  exact ⟨⟨_, he, rfl⟩, h _ he (Heap.get?_push_of_some _ (Heap.get?_push_size _ B.free)) fun b o x => Heap.get?_push_of_some _ (Heap.get?_push_of_some _ x)⟩
/-- the tuple at a, each item in a new pair -/
def IteT (K : PySem.W.Frag) (a : Addr) : It :=
  ⟨fun i H => ∃ (xs : List V) (x : V), SqT K H a xs ∧ xs[i]? = some x, fun i H v H' => ∃ T x, v = .ref T ∧ H T = none ∧ H' = upd H T (.tup [.int (i : Nat), x]) ∧ ∀ xs, SqT K H a xs → xs[i]? = some x, fun i H => ∃ xs : List V, SqT K H a xs ∧ xs.length ≤ i⟩
theorem turn_enumT {P : Program} {w : World} {K : PySem.W.Frag} {elts : List Expr} {kk : Nat} {tpos : Pos} (a e it : Addr) :
    Turn P w K (.Tuple elts kk tpos) (IteT K a) [e, it] e (fun i h => (∃ old, IsEnum h e it ((i : Nat) : Int) old) ∧ h.IsTupleIter it a i ∧ e ≠ it) where
  mem := by simp
  obj := fun i h st b hb => by
    obtain ⟨⟨old, he⟩, ⟨o, ho, hc, hd⟩, _⟩ := st
    rcases (show b = e ∨ b = it by simpa using hb) with z | z
    · rw [z]; exact ⟨_, he, fun v q => nomatch q⟩
    · rw [z]; exact ⟨o, ho, fun v q => by rw [hd] at q; cases q⟩
  keep := fun i h h' st k => let ⟨⟨old, he⟩, hi, hne⟩ := st; ⟨⟨old, k e (by simp) _ he⟩, hi.at fun o q => k it (by simp) o q, hne⟩
  item := by
    intro X hP hw hK hc i pins s σ H E I hf st hg
    subst hP hw hK
    obtain ⟨⟨old, he⟩, hit, hne⟩ := st
    obtain ⟨xs, x, hq, hx⟩ := hg
    obtain ⟨its, rv, p, hz⟩ := I.tuple hq
    obtain ⟨u, hu, ru⟩ := rv.get hx
    have hel : e < s.heap.objs.size := Heap.lt_size he
    have hil : it < s.heap.objs.size := by obtain ⟨_, q, _⟩ := hit; exact Heap.lt_size q
    have p' : s.heap.IsTuple a its.toArray := p
    have ane : a ≠ it := fun z => by
      obtain ⟨o1, e1, c1, _⟩ := hit
      obtain ⟨o2, e2, c2, _⟩ := p'
      rw [z, e1] at e2
      cases e2
      rw [c1] at c2
      injection c2 with c3
      exact absurd c3 (by decide)
    have ane2 : a ≠ e := fun z => by
      obtain ⟨o2, e2, c2, _⟩ := p'
      rw [z, he] at e2
      cases e2
      injection c2 with c3
      exact absurd c3 (by decide)
    have D := Draws.tuple (prog := X.prog) (w := X.w) (A := X.A.in1) (by exact I.ok.hd hc) it a ane its.toArray
    have hlt : i < its.toArray.size := by simpa using (List.getElem?_eq_some_iff.mp hu).1
    refine wpAny_pyNext_enum_itemD D he ⟨hit, p'⟩ hlt hne (by simp [Ne.symm ane2, hne]) fun x' h' tk hx' ho hit' hT hsz hk => ?_
    have hxu : x' = u := by
      have h1 : its.toArray[i]? = some x' := hx'
      rw [List.getElem?_toArray, hu] at h1
      exact (Option.some.inj h1).symm
    subst hxu
    refine ⟨_, rfl, wpAny_letOwnedTupleGo_enum (s := { s with heap := h', toks := tk + 1 }) ho fun h'' he' sb => ?_⟩
    have hT2 : h''.get? s.heap.objs.size = some { cls := .type "tuple", data := .seq #[.int i tk, x'] } := (sb.2 _ (Nat.ne_of_gt hel)).trans hT
    have new : ObjOk X.prog X.w (upd H s.heap.objs.size (.tup [.int (i : Nat), x])) h'' s.heap.objs.size (.tup [.int (i : Nat), x]) :=
      ⟨by show 2 ≤ sizeLine; decide, [.int i tk, x'], .cons ⟨_, rfl⟩ (.cons ru .nil), ⟨_, hT2, rfl, _, rfl⟩⟩
    have I1 : Inv X pins σ (upd H s.heap.objs.size (.tup [.int (i : Nat), x])) { s with heap := h'', toks := tk + 1 } :=
      I.turnedNew (ch := [e, it]) (fun b ob hb q => (sb.2 b (fun z => hb (by simp [z]))).trans (hk b ob (fun z => hb (by simp [z])) (fun z => hb (by simp [z])) q)) hf (Nat.le_refl _) new
    refine ⟨.ref s.heap.objs.size, _, I1, rfl, ⟨_, x, rfl, I.hok.fresh (Nat.le_refl _), rfl, fun ys hy => by rw [I.tuple_inj hy hq]; exact hx⟩, ⟨⟨x', ?_⟩, hit'.1.at fun o q => (sb.2 it (Ne.symm hne)).trans q, hne⟩, fun b hb => ?_⟩
    · have e1 : ((i + 1 : Nat) : Int) = (i : Int) + 1 := by omega
      rw [e1]; exact he'
    · have hb' : b < s.heap.objs.size := by
        rcases (show b = e ∨ b = it by simpa using hb) with z | z
        · rw [z]; exact hel
        · rw [z]; exact hil
      rw [upd_ne (Nat.ne_of_lt hb')]
      exact (hf b hb).1
  done := by
    intro X hP hw hK hc i pins s σ H E I hf st hg
    subst hP hw hK
    obtain ⟨⟨old, he⟩, hit, hne⟩ := st
    obtain ⟨xs, hq, hx⟩ := hg
    obtain ⟨its, rv, p, hz⟩ := I.tuple hq
    obtain ⟨f0, f1, f2, f3, f4, f5⟩ := hf it (by simp)
    have hl := rv.length
    have p' : s.heap.IsTuple a its.toArray := p
    have ane : a ≠ it := fun z => by
      obtain ⟨o1, e1, c1, _⟩ := hit
      obtain ⟨o2, e2, c2, _⟩ := p'
      rw [z, e1] at e2
      cases e2
      rw [c1] at c2
      injection c2 with c3
      exact absurd c3 (by decide)
    have hT : s.TypeIs (.ref e) "enumerate" := ⟨_, he, rfl⟩
    unfold pyNext
    refine wpAny_bind (wpAny_attempt (wpAny_callSpecial?_slot (name := Str.ofString "__next__") hT F.slot_enumerate_next
      (wpAny_call_entry F.slot_enumerate_next hT F.entry_enumerate_next ?_ (F.args_enumerate_next_1 _))))
    show wpAny _ _ (field (.ref e) 2 >>= _) _ _ _
    refine wpAny_bind (wpAny_field he rfl (x := .ref it) rfl ?_)
    refine wpAny_bind (wpAny_nextOf_tuple_end (I.ok.hd hc) hit p' (by simp; omega) fun h' x he' hx' => ?_)
    obtain ⟨o, ho, hcl⟩ := hx'
    refine wpAny_bind (wpAny_isInstance (T := "StopIteration") (b := true) ⟨o, ho, hcl⟩ isSubtype_stop ?_)
    exact wpAny_pure ⟨rfl, I.turned (t' := s.toks) (fun b o hb q => he' b o hb q) f0 f1 f3 f4 f5⟩
  self := fun A i s Q E st h => let ⟨⟨_, he⟩, _⟩ := st; wpAny_pyIter_enum he h
def iEnumT (K : PySem.W.Frag) (ta : TA) : TI := fun σ H R => ta σ H fun vs H1 => ∃ a xs, vs = [.ref a] ∧ SqT K H1 a xs ∧ R (IteT K a) H1
theorem pi_enumT {X : Cx} {e : Expr} {ta : TA} {p pos tpos : Pos} {elts : List Expr} {kk : Nat} (hg : Gl X "enumerate") (hm : X.mg "enumerate" = none) (ha : PA X [e] ta) (hs : starEach [e] X.env = [(false, eval e X.env)] := by rfl) :
    PI X (.Tuple elts kk tpos) (.Call (.Name "enumerate" p) [e] [] pos) (iEnumT X.K ta) := by
  refine ⟨fun pins s σ H R I h => ?_⟩
  refine Call_ (ld_blt I hg hm boot_enumerate (PyProof.Rows.callWith_type1 (thn (ha.run pos pins s σ H _ I h) fun us s1 ⟨vs, H1, I1, r1, q1⟩ => ?_) hs rfl))
  obtain ⟨a, xs, ex, hq, q⟩ := q1
  subst ex
  cases r1 with
  | cons r rr =>
    cases rr
    cases r
    obtain ⟨its, rv, p', hz⟩ := I1.tuple hq
    refine call_enum_1 (begins_tuple a its.toArray) (show s1.heap.IsTuple a its.toArray from p') fun h' he hit hk => wpAny_pyIter_enum he ?_
    have I2 : Inv X pins σ H1 { s1 with heap := h' } := I1.kept (t' := s1.toks) hk
    refine ⟨s1.heap.objs.size + 1, [s1.heap.objs.size + 1, s1.heap.objs.size], _, _, H1, rfl, I2, turn_enumT a (s1.heap.objs.size + 1) s1.heap.objs.size, ⟨⟨.none, he⟩, ⟨_, hit, rfl, rfl⟩, Nat.succ_ne_self _⟩, fun b hb => ?_, q⟩
    have hle : s1.heap.objs.size ≤ b := by
      rcases (show b = s1.heap.objs.size + 1 ∨ b = s1.heap.objs.size by simpa using hb) with z | z
      · rw [z]; exact Nat.le_add_right _ _
      · rw [z]; exact Nat.le_refl _
    exact I1.fpOk hle (I1.hok.fresh hle)
/-! ### as a walk -/
def pairsN (xs : List PyData) : List PyData := xs.mapIdx fun i d => .tuple [.int (i : Nat), d]
def iEn (g : ML) : ML := fun E => (g E).bind fun p => match p.1 with
  | [.list xs] => some (pairsN xs, p.2)
  | [.tuple xs] => some (pairsN xs, p.2)
  | _ => none
section
variable {K : PySem.W.Frag} {H : Hp}
theorem pairsN_get {xs : List PyData} {i : Nat} {d : PyData} (h : (pairsN xs)[i]? = some d) : ∃ c, xs[i]? = some c ∧ d = .tuple [.int (i : Nat), c] := by
  unfold pairsN at h
  rw [List.getElem?_mapIdx] at h
  obtain ⟨c, e1, e2⟩ := Option.map_eq_some_iff.mp h
  exact ⟨c, e1, e2.symm⟩
theorem itx_e {a : Addr} {ws : List V} {xs : List PyData} (h : SqL K H a ws) (r : RpAll K H ws xs) : ItX K (Ite K a) H [] (pairsN xs) := fun i H' H2 s l _ => by
  have sq : SqL K H2 a ws := l.l ((Le.of s).l h)
  refine ⟨fun d hd => ?_, fun hi => ⟨ws, sq, by rw [r.length]; unfold pairsN at hi; rw [List.length_mapIdx] at hi; exact hi⟩⟩
  obtain ⟨c, hc, rfl⟩ := pairsN_get hd
  obtain ⟨v, hv, rv⟩ := r.get hc
  refine ⟨⟨ws, v, sq, hv⟩, fun x H3 y => ?_⟩
  obtain ⟨T, z, rfl, hT, rfl, y⟩ := y
  have hx := y ws sq
  rw [hv] at hx
  cases hx
  have n := Nw.one (o := .tup [.int (i : Nat), v]) l hT
  exact ⟨_, n, .tup upd_same (.cons (.int _) (.cons ((rv.mono (.of s)).mono (.of n.ex)) .nil))⟩
theorem itx_eT {a : Addr} {ws : List V} {xs : List PyData} (h : SqT K H a ws) (r : RpAll K H ws xs) : ItX K (IteT K a) H [] (pairsN xs) := fun i H' H2 s l _ => by
  have sq : SqT K H2 a ws := l.t ((Le.of s).t h)
  refine ⟨fun d hd => ?_, fun hi => ⟨ws, sq, by rw [r.length]; unfold pairsN at hi; rw [List.length_mapIdx] at hi; exact hi⟩⟩
  obtain ⟨c, hc, rfl⟩ := pairsN_get hd
  obtain ⟨v, hv, rv⟩ := r.get hc
  refine ⟨⟨ws, v, sq, hv⟩, fun x H3 y => ?_⟩
  obtain ⟨T, z, rfl, hT, rfl, y⟩ := y
  have hx := y ws sq
  rw [hv] at hx
  cases hx
  have n := Nw.one (o := .tup [.int (i : Nat), v]) l hT
  exact ⟨_, n, .tup upd_same (.cons (.int _) (.cons ((rv.mono (.of s)).mono (.of n.ex)) .nil))⟩
theorem ei_enum {ta : TA} {g : ML} (h : EvL K ta g) : EvI K (fun σ H R => iEnum K ta σ H R ∨ iEnumT K ta σ H R) (iEn g) := by
  intro E xs E' e σ H H1 R Rj q
  obtain ⟨⟨ds, E1⟩, e1, e2⟩ := bnd e
  simp only at e2
  split at e2
  · cases e2
    refine .inl (h E _ _ e1 σ H H1 R _ fun vs Ha Hb st R1 r => ?_)
    cases r with
    | cons r rr =>
      cases rr
      obtain ⟨a, ws, rfl, sq, ra⟩ := r.lst_inv
      exact ⟨a, ws, rfl, R1.le.l sq, q _ Ha Hb st R1 (itx_e sq ra)⟩
  · cases e2
    refine .inr (h E _ _ e1 σ H H1 R _ fun vs Ha Hb st R1 r => ?_)
    cases r with
    | cons r rr =>
      cases rr
      obtain ⟨a, ws, rfl, sq, ra⟩ := r.tup_inv
      exact ⟨a, ws, rfl, R1.le.t sq, q _ Ha Hb st R1 (itx_eT sq ra)⟩
  · cases e2
end
theorem ri_enum {X : Cx} {e : Expr} {ta : TA} {g : ML} {p pos tpos : Pos} {elts : List Expr} {kk : Nat} (hg : Gl X "enumerate") (hm : X.mg "enumerate" = none) (h : RL X [e] ta g) (hs : starEach [e] X.env = [(false, eval e X.env)] := by rfl) :
    RI X (.Tuple elts kk tpos) (.Call (.Name "enumerate" p) [e] [] pos) (fun σ H R => iEnum X.K ta σ H R ∨ iEnumT X.K ta σ H R) (iEn g) := ⟨PI.or (pi_enum hg hm h.pa hs) (pi_enumT hg hm h.pa hs), ei_enum h.ev⟩
end Dm

/-! Dm: defs with defaults, defs that call themselves. -/
namespace Dm
open PySem PySem.Spec PyProof.Rows L2
section
variable {P : Program} {w : World} {K : PySem.W.Frag} {mg : Str → Option Value} {base : Heap}
/-- a def without defaults as one of the other form -/
theorem fnD_of {x qual : Str} {st : Stmt} {f : Addr} {fd : FuncData} (F : L2.Fun K x qual st f fd) : FunD K x qual (defArgs st) (defBody st) (defScope st) [] [] f fd := by
  obtain ⟨oc, od, kV, doc, pm, an, cdv, ct, osl, e, lk, hcd⟩ := F.ex
  exact ⟨⟨oc, od, .none, kV, doc, pm, an, cdv, ct, osl, e, lk, hcd, .inl ⟨rfl, rfl⟩, .inl rfl⟩, F.kp⟩
def dflO (o : Obj) : Option (List Value) := match o.data with
  | .seq its _ => some its.toList
  | _ => none
/-- a def with defaults as it stands -/
theorem funD_mk {x qual : Str} {st : Stmt} {f T : Addr} {oc : Value} {od an : Option Addr} {osl : Array (Option Value)} {kV doc pm cdv ct : Value} {o : Obj} {us : List Value} {dvs : List V}
    (l : K.lookup f = some ⟨oc, od, .func (PySem.W.fnOf x qual (defArgs st) (defBody st) (defScope st) (.ref T) kV doc pm an cdv ct), osl⟩) (c : PySem.W.codeIn K cdv qual = true) (k : PySem.W.keepIn K (.ref f) = true)
    (lT : K.lookup T = some o) (ho : dflO o = some us) (r : Vals dvs us) (ne : dvs ≠ []) : FunD K x qual (defArgs st) (defBody st) (defScope st) dvs [] f (PySem.W.fnOf x qual (defArgs st) (defBody st) (defScope st) (.ref T) kV doc pm an cdv ct) := by
  unfold dflO at ho
  split at ho
  · rename_i its n e
    cases ho
    exact ⟨⟨oc, od, .ref T, kV, doc, pm, an, cdv, ct, osl, rfl, l, c, .inr ⟨ne, T, o, its.toList, n, rfl, lT, by rw [e], r⟩, .inl rfl⟩, k⟩
  · cases ho
/-- the rule for a def, defaults or not -/
theorem fn_okD {x qual : Str} {st : Stmt} {f : Addr} {fd : FuncData} {dvs : List V} {N ps : List Str} {k : Nat} (io : List Nat) {ms : MS} (F : FunD K x qual (defArgs st) (defBody st) (defScope st) dvs [] f fd) (S : FnScope N ps (defScope st)) (hio : io.all (fun i => decide (i < ps.length)) = true)
    (hbody : ∀ (cdv : Value) (A : Around) (outer : List Env) (s : Shared) (H : Hp) (E : XK), Room k (A.deeper (envOfC qual (defScope st) s.heap.objs.size f cdv)) →
      ∃ ts, RB (cxOf CX0 P w K mg base N qual (defScope st) f cdv A outer s H E).nox io (defBody st) ts ms) : FnOk P w K mg base CX0 (k + 1) f fd ps (spD K ps.length (mFn ps.length N.length io ms)) := by
  refine F.ok S (fun vs H Q E h => h.1) (fun cdv A outer s H1 vs Q Ex hr h => ?_)
  obtain ⟨hl, H, E, d, E', e, R, q⟩ := h
  obtain ⟨ts, hb⟩ := hbody cdv A outer s H1 Ex hr
  refine ⟨ts, hb.ps.nox, ?_⟩
  have hE : vs.length = E.length := by have := R.len; rwa [List.length_map] at this
  unfold mFn at e
  split at e
  · rename_i hEl
    obtain ⟨out, e1, e2⟩ := bnd e
    rw [← hEl] at e1
    have fin : ∀ {σ' : L2.St} {v : V} {d' : PyData} {H' H2 : Hp} {E'' : En}, Goes K io (E ++ List.replicate (N.length - E.length) .no) (L2.start N vs) H H1 E'' σ' H' H2 → Rp K H' v d' → d = d' → E' = outS io E'' 0 E → Q v H2 := by
      intro σ' v d' H' H2 E'' g r ed eE
      subst ed eE
      obtain ⟨R2, st2⟩ := R.finish (N := N) (fun i hi => by
        have := of_decide_eq_true (List.all_eq_true.mp hio i hi)
        omega) g
      exact q v H' H2 st2 R2 r
    refine hb.ev _ out e1 (L2.start N vs) H H1 (R.start N) _ ?_
    cases out with
    | nx E2 =>
      cases e2
      exact fun σ' H' H2 g => fin g .non rfl rfl
    | rt d2 E2 =>
      cases e2
      exact fun σ' v H' H2 g r => fin g r rfl rfl
    | bk E2 => cases e2
    | ct E2 => cases e2
    | ro o E2 => cases e2
  · cases e
/-- nothing is promised -/
theorem fn_no {x qual : Str} {st : Stmt} {f : Addr} {fd : FuncData} {dvs : List V} {N ps : List Str} {k n : Nat} (F : FunD K x qual (defArgs st) (defBody st) (defScope st) dvs [] f fd) (S : FnScope N ps (defScope st)) (hn : n = ps.length) :
    FnOk P w K mg base CX0 (k + 1) f fd ps (spD K n fun _ => none) :=
  F.ok S (fun vs H Q E h => h.1.trans hn) fun cdv A outer s H1 vs Q Ex hr h => by
    obtain ⟨hl, H, E, d, E', e, R, q⟩ := h
    cases e
/-- a def that may be called with the last arguments left out: what stands for them -/
structure HasFnD (P : Program) (w : World) (K : PySem.W.Frag) (mg : Str → Option Value) (base : Heap) (x : Str) (k : Nat) (ps : List Str) (sp : Sp) (ds : List PyData) : Prop where
  ex : ∃ (f : Addr) (fd : FuncData) (us : List Value) (dvs : List V), FnOk P w K mg base CX0 k f fd ps sp ∧ mg x = some (.ref f) ∧ PySem.W.keepIn K (.ref f) = true ∧ Binds K fd ps us ∧ Vals dvs us ∧ ∀ H, RpAll K H dvs ds
end
def mCallD (fh : MF) (a : MG) (ds : List PyData) : MX := fun E => (a E).bind fun p => if (slotsOf (p.1 ++ ds.map Arg.d)).Nodup then (fh (argEn p.2 (p.1 ++ ds.map Arg.d))).bind fun q => some (q.1, putBack (p.1 ++ ds.map Arg.d) q.2 p.2) else none
section
variable {K : PySem.W.Frag} {H : Hp} {σ : L2.St}
theorem args_d : ∀ {ws : List V} {ds : List PyData}, RpAll K H ws ds → ArgsAt K H σ ws (ds.map Arg.d)
  | _, _, .nil => .nil
  | _, _, .cons r t => .cons (.d r) (args_d t)
theorem ArgsAt.app : ∀ {vs : List V} {as : List Arg} {ws : List V} {ds : List PyData}, ArgsAt K H σ vs as → RpAll K H ws ds → ArgsAt K H σ (vs ++ ws) (as ++ ds.map Arg.d)
  | _, _, _, _, .nil, r => args_d r
  | _, _, _, _, .cons a t, r => .cons a (ArgsAt.app t r)
theorem ev_callD {fh : MF} {a : MG} {ta : TA} {n m : Nat} {Ex : XK} {dvs : List V} {ds : List PyData} (ha : EvG K ta a) (hn : ∀ E as E', a E = some (as, E') → as.length = m) (hm : m + ds.length = n) (hd : ∀ H, RpAll K H dvs ds) : EvX K (tCall (spD K n fh) dvs Ex ta) (mCallD fh a ds) := by
  intro E d E' e σ H H1 R Q q
  obtain ⟨⟨as, E1⟩, e1, e⟩ := bnd e
  split at e
  · rename_i nd
    obtain ⟨⟨d1, Ec⟩, e2, e⟩ := bnd e
    cases e
    refine ha E as E1 e1 σ H H1 R _ fun vs Ha Hb st R1 r1 => ?_
    have r2 := r1.app (hd Ha)
    refine ⟨by rw [r2.length, List.length_append, List.length_map, hn _ _ _ e1, hm], Ha, argEn E1 (as ++ ds.map Arg.d), d1, Ec, e2, R1.args r2 nd, fun v Hc Hd stc Rc rv => ?_⟩
    obtain ⟨R2, st2⟩ := R1.back r2 nd stc Rc
    exact q v Hc Hd (st.trans st2) R2 rv
  · cases e
end
section
variable {X : Cx} {k n m : Nat} {ps : List Str} {fh : MF} {x : Str} {p pos : Pos} {e : Expr} {es : List Expr} {ta : TA} {a : MG} {ds : List PyData}
theorem re_fnD {k' : Nat} (F : HasFnD X.prog X.w X.K X.mg X.base x k ps (spD X.K n fh) ds) (hr : Room k' X.A) (hk : k ≤ k') (hg : Gl X x) (hx : Passes CX0 X XK0)
    (ha : RG X (e :: es) ta a) (hn : ∀ E as E', a E = some (as, E') → as.length = m) (hm : m + ds.length = n) (hdb : (x == ("__debug__" : Str)) = false := by decide) (he : starEach (e :: es) X.env = (false, eval e X.env) :: starEach es X.env := by rfl) (hpl : (backTo pos (starEach es X.env)).any (·.1) = false := by rfl) :
    RE X (.Call (.Name x p) (e :: es) [] pos) (teOf X.K (mCallD fh a ds)) (mCallD fh a ds) := by
  obtain ⟨f, fd, us, dvs, h1, h2, h3, h4, h5, h6⟩ := F.ex
  have : RE X (.Call (.Name x p) (e :: es) [] pos) (tCall (spD X.K n fh) dvs XK0 ta) (mCallD fh a ds) := ⟨pe_call h1 (hr.mono hk) hg h2 h3 h4 h5 hx ha.pa hdb he hpl, ev_callD ha.ev hn hm h6⟩
  exact this.can
end
/-- the empty tuple as a default -/
theorem rp_unit {K : PySem.W.Frag} {a : Addr} {o : Obj} (hl : K.lookup a = some o) (ho : tupO o = some []) : ∀ H, RpAll K H [V.ref a] [PyData.tuple []] := fun H => by
  unfold tupO at ho
  split at ho
  · rename_i c its n e1 e2
    split at ho
    · rename_i hc
      exact .cons (.tupK (xs := []) (.inr ⟨o, its, n, hl, by rw [e1, hc.1], e2, hc.2, vals_strs _ _ ho⟩) rfl .nil) .nil
    · cases ho
  · cases ho
/-! ### computing -/
theorem callD_e {E E1 : En} {fh : MF} {a : MG} {as : List Arg} {ds : List PyData} {d : PyData} {Ec : List Sl} (h1 : a E = some (as, E1)) (hn : (slotsOf (as ++ ds.map Arg.d)).Nodup) (h2 : fh (argEn E1 (as ++ ds.map Arg.d)) = some (d, Ec)) : mCallD fh a ds E = some (d, putBack (as ++ ds.map Arg.d) Ec E1) := by
  unfold mCallD; rw [h1]; show (if (slotsOf (as ++ ds.map Arg.d)).Nodup then _ else _) = _; rw [if_pos hn, h2]; rfl
end Dm

/-! Dm: the end of a law. -/
namespace Dm
open PySem PySem.Spec PyProof.Rows L2
theorem rp_ints {K : PySem.W.Frag} {H : Hp} : ∀ ns : List Int, RpAll K H (ns.map V.int) (ns.map PyData.int)
  | [] => .nil
  | n :: r => .cons (.int n) (rp_ints r)
def scr (ns : List Int) : List Sl := [.dat (.list (ns.map PyData.int))]
theorem law_sp {K : PySem.W.Frag} {f : MF} {E' : List Sl} {a : Addr} {ns : List Int} {H : Hp} (hf : f (scr ns) = some (.bool true, E')) (hS : SqL K H a (ns.map V.int)) :
    spD K 1 f [.ref a] H (fun v _ => v = .bl true) fun _ _ _ => False := by
  refine ⟨rfl, H, _, _, _, hf, ⟨Le.refl _, rfl, fun i s e => ?_, fun i j o o' b e1 => ?_⟩, fun v H' H2 _ _ r => r.bl_inv⟩
  · match i, e with
    | 0, e =>
      cases e
      exact ⟨.ref a, rfl, .lst hS (rp_ints ns)⟩
    | i + 1, e => cases e
  · match i, e1 with
    | 0, e => cases e
    | i + 1, e => cases e
theorem law_walk {lv : Nat} {mf : MF} {l : PySem.W.OpenLaw} {q : Program} {loose : List Str} {XP : (Str → Option Value) → Heap → Prop} {YP : World → Heap → Prop} {d : DefRec} {K : Params → PySem.W.Frag}
    (law : ∀ ns : List Int, ns.length ≤ 63 → (∀ z ∈ ns, Builtin.Int.intBits z ≤ 1048576) → ∃ E', mf (scr ns) = some (.bool true, E'))
    (hr : Room lv callerA) (hn : l.most = some 63) (hdf : d.params.defaults = []) (hY : ∀ (w : World) (h : Heap), YP w h → (K w.params).In h)
    (F : ∀ (w : World) (mg : Str → Option Value) (fa : Addr) (h : Heap), (K w.params).In h → h.Ns mainGlobals mg → mg d.name = some (.ref fa) →
      ∃ fd : FuncData, (∀ (s : Shared) (u : Value), BindsTo s fd ⟨[u], []⟩ [("script", u)]) ∧ ∀ base : Heap, (K w.params).In base → base.Ns mainGlobals mg → FnOk l.prog w (K w.params) mg base CX0 lv fa fd ["script"] (spD (K w.params) 1 mf)) :
    PySem.W.WalkO q loose XP YP l.row.toRowW d [] (fun f vs => PySem.call f vs) :=
  L2.walk_ofB (n := 63) (k := lv) (x := "script") (CX := fun _ => CX0) (sp := fun w => spD (K w.params) 1 mf) hn (by decide) hdf hr hY F (fun w H a ns hl hb _ hS => by
    obtain ⟨E', h⟩ := law ns hl hb
    exact law_sp h hS) fun _ _ _ _ _ z => z
end Dm

/-! Dm: mirrors computed. -/
namespace Dm
open PySem PySem.Spec PyProof.Rows L2 PySem.SeqAt

/-! ### stepping -/
theorem bnd_eq {α β : Type} {x : Option α} {f : α → Option β} {a : α} {r : Option β} (h : x = some a) (h2 : f a = r) : x.bind f = r := by rw [h]; exact h2
section
variable {E E1 E2 : En} {f h : MX} {d d' z : PyData} {b b' : Bool} {c k : MT} {s t : MS} {i : Nat} {r : Option Out} {a : MG} {l l' : ML} {ds : List PyData}
theorem op2_e {g : PyData → PyData → Option PyData} (h1 : f E = some (d, E1)) (h2 : h E1 = some (d', E2)) (h3 : g d d' = some z) : mOp2 g f h E = some (z, E2) := by
  unfold mOp2; rw [h1]; show (h E1).bind _ = _; rw [h2]; show (g d d').bind _ = _; rw [h3]; rfl
theorem tst_e (h1 : f E = some (.bool b, E1)) : mTst f E = some (b, E1) := by unfold mTst; rw [h1]; rfl
theorem tru_e (h1 : f E = some (d, E1)) (h2 : truD d = some b) : mTru f E = some (b, E1) := by unfold mTru; rw [h1]; show (truD d).bind _ = _; rw [h2]; rfl
theorem notV_e (h1 : f E = some (.bool b, E1)) : mNotV f E = some (.bool (!b), E1) := by unfold mNotV; rw [tst_e h1]; rfl
theorem notT_e (h1 : c E = some (b, E1)) : mNotT c E = some (!b, E1) := by unfold mNotT; rw [h1]; rfl
theorem andV_e (h1 : f E = some (.bool b, E)) (h2 : h E = some (.bool b', E)) : mAndV f h E = some (.bool (b && b'), E) := by
  unfold mAndV; rw [tst_e h1]
  cases b
  · rfl
  · exact h2
theorem orV_e (h1 : f E = some (.bool b, E)) (h2 : h E = some (.bool b', E)) : mOrV f h E = some (.bool (b || b'), E) := by
  unfold mOrV; rw [tst_e h1]
  cases b
  · exact h2
  · rfl
theorem andT_e (h1 : c E = some (b, E)) (h2 : b = true → k E = some (b', E)) : mAndT c k E = some (b && b', E) := by
  unfold mAndT; rw [h1]
  cases b
  · rfl
  · exact h2 rfl
theorem orT_e (h1 : c E = some (b, E)) (h2 : b = false → k E = some (b', E)) : mOrT c k E = some (b || b', E) := by
  unfold mOrT; rw [h1]
  cases b
  · exact h2 rfl
  · rfl
theorem seq_e (h1 : s E = some (.nx E1)) (h2 : t E1 = r) : sSeq s t E = r := by unfold sSeq; rw [h1]; exact h2
theorem seq_rt {o : Out} (h1 : s E = some (.rt d E1)) : sSeq s t E = some (.rt d E1) := by unfold sSeq; rw [h1]; rfl
theorem asg_e (h1 : f E = some (d, E1)) : sAsg i f E = some (.nx (E1.set i (.dat d))) := by unfold sAsg; rw [h1]; rfl
theorem asgO_e {o : MO} {w : Own} (h1 : o E = some (w, E1)) : sAsgO i o E = some (.nx (E1.set i (.own w))) := by unfold sAsgO; rw [h1]; rfl
theorem ret_e (h1 : f E = some (d, E1)) : sRet f E = some (.rt d E1) := by unfold sRet; rw [h1]; rfl
theorem if_t (h1 : c E = some (true, E1)) (h2 : s E1 = r) : sIf c s t E = r := by unfold sIf; rw [h1]; exact h2
theorem if_f (h1 : c E = some (false, E1)) (h2 : t E1 = r) : sIf c s t E = r := by unfold sIf; rw [h1]; exact h2
theorem if_b (h1 : c E = some (b, E1)) (h2 : b = true → s E1 = r) (h3 : b = false → t E1 = r) : sIf c s t E = r := by
  cases b
  · exact if_f h1 (h3 rfl)
  · exact if_t h1 (h2 rfl)
theorem bor_e (h1 : f (frzE E) = some (d, E1)) (h2 : flatD d = true) : mBor f E = some (d, E) := by unfold mBor; rw [h1]; show (if flatD d = true then _ else _) = _; rw [if_pos h2]
theorem borT_e (h1 : c (frzE E) = some (b, E1)) : mBorT c E = some (b, E) := by unfold mBorT; rw [h1]; rfl
theorem cons_e (h1 : f E = some (d, E1)) (h2 : l E1 = some (ds, E2)) : mCons f l E = some (d :: ds, E2) := by unfold mCons; rw [h1]; show (l E1).bind _ = _; rw [h2]; rfl
theorem cb_e {g : List PyData → Option PyData} (h1 : l E = some (ds, E1)) (h2 : g ds = some d) : mCb g l E = some (d, E1) := by unfold mCb; rw [h1]; show (g ds).bind _ = _; rw [h2]; rfl
theorem tup_e (h1 : l E = some (ds, E1)) (h2 : ds.length ≤ sizeLine) : mTup l E = some (.tuple ds, E1) := by unfold mTup; rw [h1]; show (if ds.length ≤ sizeLine then _ else _) = _; rw [if_pos h2]
theorem lst_e (h1 : l E = some (ds, E1)) (h2 : ds.length ≤ sizeLine) : oLst l E = some (.lst ds, E1) := by unfold oLst; rw [h1]; show (if ds.length ≤ sizeLine then _ else _) = _; rw [if_pos h2]
theorem of_e {o : MO} {w : Own} (h1 : o E = some (w, E1)) : mOf o E = some (w.data, E1) := by unfold mOf; rw [h1]; rfl
theorem call_e {fh : MF} {as : List Arg} {Ec : List Sl} (h1 : a E = some (as, E1)) (hn : (slotsOf as).Nodup) (h2 : fh (argEn E1 as) = some (d, Ec)) : mCall fh a E = some (d, putBack as Ec E1) := by
  unfold mCall; rw [h1]; show (if (slotsOf as).Nodup then _ else _) = _; rw [if_pos hn, h2]; rfl
theorem callO_e {fh : MFO} {as : List Arg} {Ec : List Sl} {w : Own} (h1 : a E = some (as, E1)) (hn : (slotsOf as).Nodup) (h2 : fh (argEn E1 as) = some (w, Ec)) : mCallO fh a E = some (w, putBack as Ec E1) := by
  unfold mCallO; rw [h1]; show (if (slotsOf as).Nodup then _ else _) = _; rw [if_pos hn, h2]; rfl
theorem fn_e {n N : Nat} {io : List Nat} {E' : En} (h : s (E ++ List.replicate (N - n) .no) = some (.rt d E')) (hn : E.length = n := by rfl) : mFn n N io s E = some (d, outS io E' 0 E) := by
  unfold mFn; rw [if_pos hn, h]; rfl
theorem fn_n {n N : Nat} {io : List Nat} {E' : En} (h : s (E ++ List.replicate (N - n) .no) = some (.nx E')) (hn : E.length = n := by rfl) : mFn n N io s E = some (.none, outS io E' 0 E) := by
  unfold mFn; rw [if_pos hn, h]; rfl
theorem fnO_e {n N : Nat} {io : List Nat} {E' : En} {w : Own} (h : s (E ++ List.replicate (N - n) .no) = some (.ro w E')) (hn : E.length = n := by rfl) : mFnO n N io s E = some (w, outS io E' 0 E) := by
  unfold mFnO; rw [if_pos hn, h]; rfl
end

theorem put_e {E E1 E2 : En} {fk fv : MX} {i : Nat} {k v : PyData} {o0 o o' : Own} (h1 : fv E = some (v, E1)) (h2 : fk E1 = some (k, E2)) (h0 : E[i]? = some (.own o0)) (h3 : E2[i]? = some (.own o)) (h4 : ownPut o k v = some o') (h5 : isLstO o0 = isLstO o := by rfl) :
    sPut i fk fv E = some (.nx (E2.set i (.own o'))) := by
  unfold sPut
  rw [h1, Option.bind_some]
  show (fk E1).bind _ = _
  rw [h2, Option.bind_some]
  show (match E2[i]? with
    | some (Sl.own o) => match E[i]? with
      | some (Sl.own o0) => if isLstO o0 = isLstO o then (ownPut o k v).bind fun o' => some (Out.nx (E2.set i (.own o'))) else none
      | _ => none
    | _ => none) = _
  rw [h3, h0]
  show (if isLstO o0 = isLstO o then (ownPut o k v).bind _ else none) = _
  rw [if_pos h5, h4]
  rfl
theorem app_e {E E1 : En} {f : MX} {i : Nat} {d : PyData} {xs : List PyData} (h0 : E[i]? = some (.own (.lst xs))) (h1 : f E = some (d, E1)) (h2 : E1[i]? = some (.own (.lst xs))) (h3 : xs.length < sizeLine) : sApp i f E = some (.nx (E1.set i (.own (.lst (xs ++ [d]))))) := by
  unfold sApp
  rw [h0]
  show (f E).bind _ = _
  rw [h1, Option.bind_some]
  show (match E1[i]? with
    | some (Sl.own (.lst xs)) => if xs.length < sizeLine then some (Out.nx (E1.set i (.own (.lst (xs ++ [d]))))) else none
    | _ => none) = _
  rw [h2]
  show (if xs.length < sizeLine then _ else _) = _
  rw [if_pos h3]

theorem put_x {E E1 E2 E3 : En} {fk fv : MX} {i : Nat} {k v : PyData} {o0 o o' : Own} (h1 : fv E = some (v, E1)) (h2 : fk E1 = some (k, E2)) (h0 : E[i]? = some (.own o0)) (h3 : E2[i]? = some (.own o)) (h4 : ownPut o k v = some o') (h6 : E2.set i (.own o') = E3) (h5 : isLstO o0 = isLstO o := by rfl) :
    sPut i fk fv E = some (.nx E3) := by rw [← h6]; exact put_e h1 h2 h0 h3 h4 h5
theorem asg_x {E E1 E2 : En} {f : MX} {i : Nat} {d : PyData} (h1 : f E = some (d, E1)) (h2 : E1.set i (.dat d) = E2) : sAsg i f E = some (.nx E2) := by rw [← h2]; exact asg_e h1
theorem app_x {E E1 E2 : En} {f : MX} {i : Nat} {d : PyData} {xs : List PyData} (h0 : E[i]? = some (.own (.lst xs))) (h1 : f E = some (d, E1)) (h2 : E1[i]? = some (.own (.lst xs))) (h4 : E1.set i (.own (.lst (xs ++ [d]))) = E2) (h3 : xs.length < sizeLine) : sApp i f E = some (.nx E2) := by rw [← h4]; exact app_e h0 h1 h2 h3
theorem retO_e {E E1 : En} {o : MO} {w : Own} (h1 : o E = some (w, E1)) : sRetO o E = some (.ro w E1) := by unfold sRetO; rw [h1]; rfl

theorem drop_e {E E1 : En} {f : MX} {d : PyData} (h1 : f E = some (d, E1)) : sDrop f E = some (.nx E1) := by unfold sDrop; rw [h1]; rfl
theorem op1_e {E E1 : En} {f : MX} {g : PyData → Option PyData} {d z : PyData} (h1 : f E = some (d, E1)) (h2 : g d = some z) : mOp1 g f E = some (z, E1) := by
  unfold mOp1; rw [h1]; show (g d).bind _ = _; rw [h2]; rfl
theorem isi_e {E E1 : En} {f : MX} {T : String} {d : PyData} (h1 : f E = some (d, E1)) (h2 : isTagD d = false) : mIsi T f E = some (.bool (isTb (tyD d) T), E1) := by
  unfold mIsi; rw [h1]; show (if isTagD d = true then none else _) = _; rw [h2]; rfl
theorem r1_e {E E1 : En} {f : MX} {j : Int} (h1 : f E = some (.int j, E1)) (hj : -(2 ^ 62) ≤ j ∧ j < 2 ^ 62) : iR1 (mCons f mNil) E = some (rangeD 0 j.toNat, E1) := by
  unfold iR1
  rw [cons_e h1 rfl]
  show (if _ then _ else _) = _
  rw [if_pos hj]
theorem sq_l {E E1 : En} {f : MX} {ds : List PyData} (h : f E = some (.list ds, E1)) : iSq f E = some (ds, E1) := by unfold iSq; rw [h]; rfl
theorem forD_e {E : En} {i : Nat} {kvs : List (PyData × PyData)} {g : List (PyData × PyData) → Option (List PyData)} {t : MTg} {f : MS} {xs : List PyData} {r : Option Out} (hi : E[i]? = some (.dat (.dict kvs))) (hg : g kvs = some xs) (h : loopF t f xs E = r) : sForD i g t f E = r := by
  unfold sForD dictAt
  rw [hi]
  show (g kvs).bind _ = _
  rw [hg]
  exact h

theorem aD_e {E E1 E2 : En} {f : MX} {a : MG} {d : PyData} {as : List Arg} (h1 : f E = some (d, E1)) (h2 : a E1 = some (as, E2)) : aD f a E = some (.d d :: as, E2) := by
  unfold aD; rw [h1]; show (a E1).bind _ = _; rw [h2]; rfl
theorem aSl_e {E E2 : En} {i : Nat} {o : Own} {a : MG} {as : List Arg} (hi : E[i]? = some (.own o)) (h2 : a E = some (as, E2)) : aSl i a E = some (.s i :: as, E2) := by
  unfold aSl; rw [hi]; show (a E).bind _ = _; rw [h2]; rfl

/-! ### comprehensions -/
/-- one step: the value, or none where the test fails -/
def comp1 (t : MTg) (c : MT) (el : MX) (vs : List Nat) (x : PyData) (W : En) : Option (Option PyData × En) :=
  (t x W).bind fun E1 => (c E1).bind fun p => if p.1 then (el p.2).bind fun y => some (some y.1, wipeE y.2 vs) else some (none, wipeE p.2 vs)
section
variable {α : Type} {t : MTg} {c : MT} {el : MX} {vs : List Nat} {W : En}
theorem compF_map (φ : α → PyData) (g : α → Option PyData) : ∀ (ys : List α), (∀ a ∈ ys, comp1 t c el vs (φ a) W = some (g a, W)) → compF t c el vs (ys.map φ) W = some (ys.filterMap g, W)
  | [], _ => rfl
  | a :: ys, h => by
    have h1 := h a (by simp)
    have ih := compF_map φ g ys fun b hb => h b (by simp [hb])
    rw [List.map_cons]
    unfold compF
    unfold comp1 at h1
    obtain ⟨E1, e1, h1⟩ := bnd h1
    obtain ⟨p, e2, h1⟩ := bnd h1
    rw [e1]; show (c E1).bind _ = _
    rw [e2]; show (if p.1 = true then _ else _) = _
    by_cases hp : p.1 = true
    · rw [if_pos hp] at h1 ⊢
      obtain ⟨y, e3, h1⟩ := bnd h1
      simp only [Option.some.injEq, Prod.mk.injEq] at h1
      rw [e3]
      show (compF t c el vs (ys.map φ) (wipeE y.2 vs)).bind _ = _
      rw [h1.2, ih]
      rw [List.filterMap_cons, ← h1.1]
      rfl
    · rw [if_neg hp] at h1 ⊢
      simp only [Option.some.injEq, Prod.mk.injEq] at h1
      rw [h1.2, ih, List.filterMap_cons, ← h1.1]
/-- no test, or one that always holds -/
theorem compF_all (φ : α → PyData) (g : α → PyData) (ys : List α) (h : ∀ a ∈ ys, comp1 t c el vs (φ a) W = some (some (g a), W)) : compF t c el vs (ys.map φ) W = some (ys.map g, W) := by
  rw [compF_map φ (fun a => some (g a)) ys h]
  congr 2
  clear h
  induction ys with
  | nil => rfl
  | cons a ys ih => rw [List.filterMap_cons, List.map_cons, ih]
theorem compF_filter (φ : α → PyData) (p : α → Bool) (g : α → PyData) (ys : List α) (h : ∀ a ∈ ys, comp1 t c el vs (φ a) W = some (if p a then some (g a) else none, W)) : compF t c el vs (ys.map φ) W = some ((ys.filter p).map g, W) := by
  rw [compF_map φ _ ys h]
  congr 2
  clear h
  induction ys with
  | nil => rfl
  | cons a ys ih =>
    rw [List.filterMap_cons, List.filter_cons, ih]
    by_cases hp : p a = true <;> simp [hp]
theorem lc_e {il : ML} {E E1 : En} {xs r : List PyData} (h1 : il E = some (xs, E1)) (h2 : compF t c el vs xs (wipeE E1 vs) = some (r, wipeE E1 vs)) (h3 : r.length ≤ sizeLine) : oLc il t c el vs E = some (.lst r, restE E1 (wipeE E1 vs) vs) := by
  unfold oLc; rw [h1]; show (compF t c el vs xs (wipeE E1 vs)).bind _ = _; rw [h2]; show (if r.length ≤ sizeLine then _ else _) = _; rw [if_pos h3]
end

/-! ### loops -/
section
variable {α β : Type} {t : MTg} {f : MS}
theorem loopF_inv (φ : α → PyData) (P : β → En → Prop) (step : β → α → β) : ∀ (ys : List α) (b : β) (E : En), P b E → (∀ b a E, a ∈ ys → P b E → ∃ E1 E2, t (φ a) E = some E1 ∧ (f E1 = some (.nx E2) ∨ f E1 = some (.ct E2)) ∧ P (step b a) E2) →
    ∃ E', loopF t f (ys.map φ) E = some (.nx E') ∧ P (ys.foldl step b) E'
  | [], b, E, h, _ => ⟨E, rfl, h⟩
  | a :: ys, b, E, h, hs => by
    obtain ⟨E1, E2, e1, e2, h2⟩ := hs b a E (by simp) h
    obtain ⟨E', e3, h3⟩ := loopF_inv φ P step ys (step b a) E2 h2 fun b a E ha => hs b a E (by simp [ha])
    refine ⟨E', ?_, h3⟩
    rw [List.map_cons]
    unfold loopF
    rw [e1]; show (f E1).bind _ = _
    rcases e2 with e2 | e2 <;> (rw [e2]; exact e3)
/-- a relation alone, of what is behind -/
theorem loopF_rel (φ : α → PyData) (P : List α → En → Prop) : ∀ (ys pre : List α) (E : En), P pre E → (∀ pre a E, a ∈ ys → P pre E → ∃ E1 E2, t (φ a) E = some E1 ∧ (f E1 = some (.nx E2) ∨ f E1 = some (.ct E2)) ∧ P (pre ++ [a]) E2) →
    ∃ E', loopF t f (ys.map φ) E = some (.nx E') ∧ P (pre ++ ys) E'
  | [], pre, E, h, _ => ⟨E, rfl, by simpa using h⟩
  | a :: ys, pre, E, h, hs => by
    obtain ⟨E1, E2, e1, e2, h2⟩ := hs pre a E (by simp) h
    obtain ⟨E', e3, h3⟩ := loopF_rel φ P ys (pre ++ [a]) E2 h2 fun b a E ha => hs b a E (by simp [ha])
    refine ⟨E', ?_, by simpa using h3⟩
    rw [List.map_cons]
    unfold loopF
    rw [e1]; show (f E1).bind _ = _
    rcases e2 with e2 | e2 <;> (rw [e2]; exact e3)
/-- with what is behind and what is ahead -/
theorem loopF_split (φ : α → PyData) (P : List α → En → Prop) (zs : List α) : ∀ (ys pre : List α) (E : En), zs = pre ++ ys → P pre E → (∀ pre a post E, zs = pre ++ a :: post → P pre E → ∃ E1 E2, t (φ a) E = some E1 ∧ (f E1 = some (.nx E2) ∨ f E1 = some (.ct E2)) ∧ P (pre ++ [a]) E2) →
    ∃ E', loopF t f (ys.map φ) E = some (.nx E') ∧ P zs E'
  | [], pre, E, hz, h, _ => ⟨E, rfl, by rw [hz]; simpa using h⟩
  | a :: ys, pre, E, hz, h, hs => by
    obtain ⟨E1, E2, e1, e2, h2⟩ := hs pre a ys E hz h
    obtain ⟨E', e3, h3⟩ := loopF_split φ P zs ys (pre ++ [a]) E2 (by rw [hz]; simp) h2 hs
    refine ⟨E', ?_, h3⟩
    rw [List.map_cons]
    unfold loopF
    rw [e1]; show (f E1).bind _ = _
    rcases e2 with e2 | e2 <;> (rw [e2]; exact e3)
theorem range_at {n : Nat} {pre post : List Nat} {a : Nat} (h : List.range n = pre ++ a :: post) : a = pre.length ∧ a < n ∧ pre = List.range a := by
  have hl : pre.length < n := by
    have := congrArg List.length h
    simp at this
    omega
  have e : (List.range n)[pre.length]? = some a := by rw [h]; simp
  rw [List.getElem?_range hl] at e
  have ea : pre.length = a := by simpa using e
  refine ⟨ea.symm, by omega, ?_⟩
  have t := congrArg (List.take pre.length) h
  rw [List.take_left, List.take_range, Nat.min_eq_left (by omega)] at t
  rw [← t, ea]
theorem for_e {il : ML} {E E1 : En} {xs : List PyData} {r : Option Out} (h1 : il E = some (xs, E1)) (h2 : loopF t f xs E1 = r) : sFor il t f E = r := by unfold sFor; rw [h1]; exact h2
end

/-! ### numbers -/
theorem lg_of_lt {n k : Nat} (h : n < 2 ^ k) (hk : 0 < k) : n.log2 < k := by
  by_cases h0 : n = 0
  · subst h0; rw [Nat.log2_zero]; exact hk
  · exact (Nat.log2_lt h0).mpr h
theorem mul_e {i j : Int} (h : i.natAbs.log2 + j.natAbs.log2 < 100000000) : gMul (.int i) (.int j) = some (.int (i * j)) := by
  show (if decide (i.natAbs.log2 + j.natAbs.log2 < 100000000) = true then _ else _) = _
  rw [if_pos (decide_eq_true h)]
theorem mod_e {i j : Int} (h : j ≠ 0) : gMod (.int i) (.int j) = some (.int (i.fmod j)) := by
  show (if decide (j ≠ 0) = true then _ else _) = _
  rw [if_pos (decide_eq_true h)]
theorem fdiv_e {i j : Int} (h : j ≠ 0 ∧ j.natAbs < 1073741824) : gFdiv (.int i) (.int j) = some (.int (i.fdiv j)) := by
  show (if decide (j ≠ 0 ∧ j.natAbs < 1073741824) = true then _ else _) = _
  rw [if_pos (decide_eq_true h)]
theorem atI_nat {α : Type} {xs : List α} {i : Nat} {x : α} (h : xs[i]? = some x) : L2.atI xs (i : Int) = some x := by
  have hl := (List.getElem?_eq_some_iff.mp h).1
  unfold L2.atI L2.ixN
  rw [if_pos (Int.natCast_nonneg i)]
  simp only [Int.toNat_natCast, if_pos (show (i : Int) < xs.length by omega)]
  exact h
theorem atI_int {α : Type} {xs : List α} {i : Int} (h0 : 0 ≤ i) (h1 : i < xs.length) : ∃ x, L2.atI xs i = some x ∧ x ∈ xs := by
  obtain ⟨n, rfl⟩ := Int.eq_ofNat_of_zero_le h0
  have hl : n < xs.length := by omega
  exact ⟨xs[n], atI_nat (by simp [hl]), List.getElem_mem _⟩
theorem eqS_t {x y : Str} (h : x = y) : gEqA (.str x) (.str y) = some (.bool true) := by
  subst h
  show some (PyData.bool (x == x)) = _
  rw [beq_self_eq_true]
theorem eqS_f {x y : Str} (h : x ≠ y) : gEqA (.str x) (.str y) = some (.bool false) := by
  show some (PyData.bool (x == y)) = _
  rw [beq_eq_false_iff_ne.mpr h]
theorem eqS (x y : Str) : gEqA (.str x) (.str y) = some (.bool (decide (x = y))) := by
  by_cases h : x = y
  · rw [eqS_t h, decide_eq_true h]
  · rw [eqS_f h, decide_eq_false h]
theorem neS (x y : Str) : gNeA (.str x) (.str y) = some (.bool (!decide (x = y))) := by
  show some (PyData.bool (!(x == y))) = _
  by_cases h : x = y
  · subst h; simp
  · rw [beq_eq_false_iff_ne.mpr h, decide_eq_false h]
theorem neB (x y : Bool) : gNeA (.bool x) (.bool y) = some (.bool (!(x == y))) := rfl
/-! ### equal data -/
theorem gEqA_same {d : PyData} (h : eqOk d d = true) (hd : ∀ kvs, d ≠ .dict kvs) : gEqA d d = some (.bool true) := by
  have e : gEqA d d = gEq d d := by
    cases d <;> first | rfl | exact absurd rfl (hd _)
  rw [e]; unfold gEq; rw [if_pos h, eqv_refl_plain d (eqOk_iff h).1]
theorem gNeA_same {d : PyData} (h : eqOk d d = true) (hd : ∀ kvs, d ≠ .dict kvs) : gNeA d d = some (.bool false) := by
  have e : gNeA d d = gNe d d := by
    cases d <;> first | rfl | exact absurd rfl (hd _)
  rw [e]; unfold gNe; rw [if_pos h, eqv_refl_plain d (eqOk_iff h).1]; rfl
end Dm

set_option exponentiation.threshold 100
namespace DmP
open PySem PySem.Spec PyProof.Rows L2 Dm
/-! _law_mixed -/
def ms__law_mixed : MS := (sSeq (sAsg 2 (mOp2 gMod (mCb gInt (mCons (mOp2 gAdd (mOp2 gAdd (mOp2 gMul (mVar 0) (mC (.int 410338673998125441398711))) (mOp2 gMul (mVar 1) (mC (.int 736418259301774563982039)))) (mC (.int 295075153872261839517363))) mNil)) (mC (.int 618970019642690137449562111))))
  (sSeq (sAsg 3 (mOp2 gMod (mCb gInt (mCons (mOp2 gAdd (mOp2 gAdd (mOp2 gMul (mVar 2) (mVar 2)) (mOp2 gMul (mC (.int 7)) (mVar 2))) (mVar 1)) mNil)) (mC (.int 162259276829213363391578010288127))))
  (sSeq (sAsg 4 (mOp2 gMod (mCb gInt (mCons (mOp2 gAdd (mOp2 gMul (mVar 3) (mVar 3)) (mVar 2)) mNil)) (mC (.int 618970019642690137449562111))))
  (sRet (mOp2 gAdd (mOp2 gMul (mVar 3) (mC (.int 618970019642690137449562111))) (mVar 4))))))
def mf__law_mixed : MF := mFn 2 5 [] ms__law_mixed
/-! _law_rest -/
def ms__law_rest : MS := (sSeq (sAsg 3 (mC (.int 0)))
  (sSeq (sIf (mTst (mOp2 gGt (mCb gLen (mCons (mVar 0) mNil)) (mC (.int 0)))) (sAsg 3 (mCb gInt (mCons (mOp2 gIx (mVar 0) (mOp2 gMod (mCb gInt (mCons (mVar 1) mNil)) (mCb gLen (mCons (mVar 0) mNil)))) mNil))) sNx)
  (sSeq (sIf (mTst (mOp2 gLt (mVar 3) (mC (.int 0)))) (sAsg 3 (mOp2 gSub (mC (.int 1)) (mOp2 gMul (mC (.int 2)) (mVar 3)))) sNx)
  (sSeq (sIf (mAndT (mTst (mOp2 gEqA (mVar 2) (mC (.int 0)))) (mAndT (mTst (mOp2 gLt (mVar 1) (mCb gLen (mCons (mVar 0) mNil)))) (mTst (mOp2 gGe (mVar 3) (mOp2 gPow (mC (.int 10)) (mC (.int 18))))))) (sRet (mOp2 gSub (mVar 3) (mOp2 gPow (mC (.int 10)) (mC (.int 18))))) sNx)
  (sRet (mCall mf__law_mixed (aD (mOp2 gAdd (mVar 3) (mOp2 gMul (mVar 2) (mC (.int 1000003)))) (aD (mVar 1) aNil))))))))
def mf__law_rest : MF := mFn 3 4 [] ms__law_rest
/-! _law_pool -/
def ms__law_pool : MS := (sRetO (oLst (mCons (mVar 0) (mCons (mC (.int 0)) (mCons (mCall mf__law_rest (aD (mVar 0) (aD (mC (.int 0)) (aD (mC (.int 0)) aNil)))) (mCons (mC (.int 0)) mNil))))))
def mf__law_pool : MFO := mFnO 1 1 [] ms__law_pool
/-! _law_next -/
def ms__law_next : MS := (sSeq (sPut 0 (mC (.int 1)) (mBor (mOp2 gAdd (mOp2 gIx (mVar 0) (mC (.int 1))) (mC (.int 1)))))
  (sSeq (sPut 0 (mC (.int 2)) (mBor (mCall mf__law_rest (aD (mOp2 gIx (mVar 0) (mC (.int 0))) (aD (mOp2 gIx (mVar 0) (mC (.int 1))) (aD (mC (.int 0)) aNil))))))
  (sPut 0 (mC (.int 3)) (mC (.int 0)))))
def mf__law_next : MF := mFn 1 1 [0] ms__law_next
/-! _law_draw -/
def ms__law_draw : MS := (sSeq (sIf (mBorT (mTst (mOp2 gLe (mOp2 gIx (mVar 0) (mC (.int 2))) (mC (.int 1))))) (sSeq (sPut 0 (mC (.int 3)) (mBor (mOp2 gAdd (mOp2 gIx (mVar 0) (mC (.int 3))) (mC (.int 1)))))
  (sPut 0 (mC (.int 2)) (mBor (mCall mf__law_rest (aD (mOp2 gIx (mVar 0) (mC (.int 0))) (aD (mOp2 gIx (mVar 0) (mC (.int 1))) (aD (mOp2 gIx (mVar 0) (mC (.int 3))) aNil))))))) sNx)
  (sSeq (sAsg 2 (mBor (mOp2 gMod (mCb gInt (mCons (mOp2 gIx (mVar 0) (mC (.int 2))) mNil)) (mVar 1))))
  (sSeq (sPut 0 (mC (.int 2)) (mBor (mOp2 gFdiv (mCb gInt (mCons (mOp2 gIx (mVar 0) (mC (.int 2))) mNil)) (mVar 1))))
  (sRet (mVar 2)))))
def mf__law_draw : MF := mFn 2 3 [0] ms__law_draw
/-! ### what the pool's defs compute -/
theorem lg_le {n k : Nat} (h : n < 2 ^ k) : n.log2 ≤ k := by
  by_cases h0 : n = 0
  · subst h0; rw [Nat.log2_zero]; exact Nat.zero_le _
  · exact Nat.le_of_lt ((Nat.log2_lt h0).mpr h)
theorem lg_120 {a : Int} (h0 : 0 ≤ a) (h1 : a < 1329227995784915872903807060280344576) : a.natAbs.log2 ≤ 120 :=
  lg_le (by
    have e : (2 : Nat) ^ 120 = 1329227995784915872903807060280344576 := by decide +kernel
    rw [e]; omega)
theorem fmod_pos (a : Int) {m : Int} (h : 0 < m) : 0 ≤ a.fmod m ∧ a.fmod m < m := ⟨Int.fmod_nonneg_of_pos a h, Int.fmod_lt_of_pos a h⟩
theorem mixed_ok {n p : Int} {k : Nat} (hk : k ≤ 60000000) (hn : n.natAbs < 2 ^ k) (hp0 : 0 ≤ p) (hp : p ≤ 1000000) : ∃ r : Int, mf__law_mixed [.dat (.int n), .dat (.int p)] = some (.int r, [.dat (.int n), .dat (.int p)]) := by
  have hn1 := lg_le hn
  have hp1 : p.natAbs.log2 ≤ 120 := lg_120 hp0 (by omega)
  have c1 : (410338673998125441398711 : Int).natAbs.log2 ≤ 120 := lg_120 (by decide) (by decide)
  have c2 : (736418259301774563982039 : Int).natAbs.log2 ≤ 120 := lg_120 (by decide) (by decide)
  obtain ⟨a0, a1⟩ := fmod_pos (n * 410338673998125441398711 + p * 736418259301774563982039 + 295075153872261839517363) (m := 618970019642690137449562111) (by decide)
  generalize ha : (n * 410338673998125441398711 + p * 736418259301774563982039 + 295075153872261839517363).fmod 618970019642690137449562111 = a at a0 a1
  have al : a.natAbs.log2 ≤ 120 := lg_120 a0 (by omega)
  have s1 : (7 : Int).natAbs.log2 ≤ 120 := lg_120 (by decide) (by decide)
  obtain ⟨b0, b1⟩ := fmod_pos (a * a + 7 * a + p) (m := 162259276829213363391578010288127) (by decide)
  generalize hb : (a * a + 7 * a + p).fmod 162259276829213363391578010288127 = b at b0 b1
  have bl : b.natAbs.log2 ≤ 120 := lg_120 b0 (by omega)
  have ml : (618970019642690137449562111 : Int).natAbs.log2 ≤ 120 := lg_120 (by decide) (by decide)
  refine ⟨b * 618970019642690137449562111 + (b * b + a).fmod 618970019642690137449562111, fn_e (E' := [.dat (.int n), .dat (.int p), .dat (.int a), .dat (.int b), .dat (.int ((b * b + a).fmod 618970019642690137449562111))]) ?_⟩
  refine seq_e (asg_e (d := .int a) (op2_e (cb_e (cons_e (op2_e (op2_e (op2_e rfl rfl (mul_e (by omega))) (op2_e rfl rfl (mul_e (by omega))) rfl) rfl rfl) rfl) rfl) rfl (by rw [← ha]; exact mod_e (by decide)))) ?_
  refine seq_e (asg_e (d := .int b) (op2_e (cb_e (cons_e (op2_e (op2_e (op2_e rfl rfl (mul_e (by omega))) (op2_e rfl rfl (mul_e (by omega))) rfl) rfl rfl) rfl) rfl) rfl (by rw [← hb]; exact mod_e (by decide)))) ?_
  refine seq_e (asg_e (op2_e (cb_e (cons_e (op2_e (op2_e rfl rfl (mul_e (by omega))) rfl rfl) rfl) rfl) rfl (mod_e (by decide)))) ?_
  exact ret_e (op2_e (op2_e rfl rfl (mul_e (by omega))) rfl rfl)
theorem rest_ok {ns : List Int} {k : Nat} (hk : k ≤ 50000000) (hz : ∀ z ∈ ns, z.natAbs < 2 ^ k) {p f : Int} (hp0 : 0 ≤ p) (hp : p ≤ 1000000) (hf0 : 0 ≤ f) (hf : f ≤ 1000000) :
    ∃ r : Int, mf__law_rest [.dat (.list (ns.map .int)), .dat (.int p), .dat (.int f)] = some (.int r, [.dat (.list (ns.map .int)), .dat (.int p), .dat (.int f)]) := by
  -- number
  have h1 : ∃ x : Int, x.natAbs < 2 ^ k ∧ (sIf (mTst (mOp2 gGt (mCb gLen (mCons (mVar 0) mNil)) (mC (.int 0)))) (sAsg 3 (mCb gInt (mCons (mOp2 gIx (mVar 0) (mOp2 gMod (mCb gInt (mCons (mVar 1) mNil)) (mCb gLen (mCons (mVar 0) mNil)))) mNil))) sNx) [.dat (.list (ns.map .int)), .dat (.int p), .dat (.int f), .dat (.int 0)]
      = some (.nx [.dat (.list (ns.map .int)), .dat (.int p), .dat (.int f), .dat (.int x)]) := by
    by_cases hl : ns.length = 0
    · have : ns = [] := List.length_eq_zero_iff.mp hl
      subst this
      exact ⟨0, Nat.two_pow_pos k, if_f (E1 := [.dat (.list []), .dat (.int p), .dat (.int f), .dat (.int 0)]) rfl rfl⟩
    · have hl' : (0 : Int) < ((ns.map PyData.int).length : Int) := by rw [List.length_map]; omega
      obtain ⟨m0, m1⟩ := fmod_pos p hl'
      obtain ⟨x, e1, e2⟩ := atI_int m0 m1
      obtain ⟨z, hz1, rfl⟩ := List.mem_map.mp e2
      refine ⟨z, hz z hz1, if_t (E1 := [.dat (.list (ns.map .int)), .dat (.int p), .dat (.int f), .dat (.int 0)]) (tst_e (op2_e (d := .int ((ns.map PyData.int).length : Int)) (d' := .int 0) rfl rfl (?_ : gGt _ _ = some (.bool true)))) ?_⟩
      · show some (PyData.bool (fGt ((ns.map PyData.int).length : Int) 0)) = _
        unfold fGt
        rw [decide_eq_true hl']
      · exact asg_e (E1 := [.dat (.list (ns.map .int)), .dat (.int p), .dat (.int f), .dat (.int 0)]) (d := .int z) (cb_e (cons_e (op2_e rfl (op2_e rfl rfl (mod_e (i := p) (j := ((ns.map PyData.int).length : Int)) (Int.ne_of_gt hl'))) e1) rfl) rfl)
  obtain ⟨x, hx, e1⟩ := h1
  -- not below zero
  have h2 : ∃ y : Int, y.natAbs < 2 ^ (k + 2) ∧ (sIf (mTst (mOp2 gLt (mVar 3) (mC (.int 0)))) (sAsg 3 (mOp2 gSub (mC (.int 1)) (mOp2 gMul (mC (.int 2)) (mVar 3)))) sNx) [.dat (.list (ns.map .int)), .dat (.int p), .dat (.int f), .dat (.int x)]
      = some (.nx [.dat (.list (ns.map .int)), .dat (.int p), .dat (.int f), .dat (.int y)]) := by
    have pw : 2 ^ (k + 2) = 2 ^ k * 4 := by rw [Nat.pow_add]
    by_cases h : x < 0
    · refine ⟨1 - 2 * x, by omega, if_t (E1 := [.dat (.list (ns.map .int)), .dat (.int p), .dat (.int f), .dat (.int x)]) ?_ ?_⟩
      · show some (fLt x 0, _) = _
        unfold fLt; rw [decide_eq_true h]
      · have := lg_le hx
        exact asg_e (E1 := [.dat (.list (ns.map .int)), .dat (.int p), .dat (.int f), .dat (.int x)]) (d := .int (1 - 2 * x)) (op2_e rfl (op2_e rfl rfl (mul_e (i := 2) (j := x) (by show (1 : Nat) + x.natAbs.log2 < _; omega))) rfl)
    · refine ⟨x, by omega, if_f (E1 := [.dat (.list (ns.map .int)), .dat (.int p), .dat (.int f), .dat (.int x)]) ?_ rfl⟩
      show some (fLt x 0, _) = _
      unfold fLt; rw [decide_eq_false h]
  obtain ⟨y, hy, e2⟩ := h2
  have hf1 : f.natAbs.log2 ≤ 120 := lg_120 hf0 (by omega)
  have c1 : (1000003 : Int).natAbs.log2 ≤ 120 := lg_120 (by decide) (by decide)
  have pw : 2 ^ (k + 50) = 2 ^ (k + 2) * 281474976710656 := by rw [show k + 50 = k + 2 + 48 by omega, Nat.pow_add]
  have p1 := Nat.two_pow_pos (k + 2)
  obtain ⟨r, hr⟩ := mixed_ok (n := y + f * 1000003) (p := p) (k := k + 50) (by omega) (by omega) hp0 hp
  have e3 : ∃ b, mAndT (mTst (mOp2 gEqA (mVar 2) (mC (.int 0)))) (mAndT (mTst (mOp2 gLt (mVar 1) (mCb gLen (mCons (mVar 0) mNil)))) (mTst (mOp2 gGe (mVar 3) (mOp2 gPow (mC (.int 10)) (mC (.int 18)))))) [.dat (.list (ns.map .int)), .dat (.int p), .dat (.int f), .dat (.int y)]
      = some (b, [.dat (.list (ns.map .int)), .dat (.int p), .dat (.int f), .dat (.int y)]) :=
    ⟨_, andT_e (tst_e (op2_e rfl rfl rfl)) fun _ => andT_e (tst_e (op2_e rfl rfl rfl)) fun _ => tst_e (op2_e rfl (op2_e rfl rfl rfl) rfl)⟩
  obtain ⟨b, e3⟩ := e3
  cases b with
  | true =>
    refine ⟨y - 10 ^ 18, fn_e (E' := [.dat (.list (ns.map .int)), .dat (.int p), .dat (.int f), .dat (.int y)]) ?_⟩
    refine seq_e (E1 := [.dat (.list (ns.map .int)), .dat (.int p), .dat (.int f), .dat (.int 0)]) rfl (seq_e e1 (seq_e e2 (seq_rt (o := sNx []|>.getD (.nx [])) (if_t e3 ?_))))
    exact ret_e (op2_e rfl (op2_e rfl rfl rfl) rfl)
  | false =>
    refine ⟨r, fn_e (E' := [.dat (.list (ns.map .int)), .dat (.int p), .dat (.int f), .dat (.int y)]) ?_⟩
    refine seq_e (E1 := [.dat (.list (ns.map .int)), .dat (.int p), .dat (.int f), .dat (.int 0)]) rfl (seq_e e1 (seq_e e2 (seq_e (if_f e3 rfl) ?_)))
    refine ret_e ?_
    refine call_e (as := [.d (.int (y + f * 1000003)), .d (.int p)]) ?_ (by simp [slotsOf]) hr
    show (mOp2 gAdd (mVar 3) (mOp2 gMul (mVar 2) (mC (.int 1000003))) _).bind _ = _
    rw [op2_e (E := [.dat (.list (ns.map .int)), .dat (.int p), .dat (.int f), .dat (.int y)]) rfl (op2_e rfl rfl (mul_e (by omega))) (rfl : gAdd (.int y) (.int (f * 1000003)) = _)]
    rfl
/-! ### the pool's states -/
def Pl (ns : List Int) (m : Nat) (o : Own) : Prop := ∃ p v f : Int, o = .lst [.list (ns.map .int), .int p, .int v, .int f] ∧ 0 ≤ p ∧ p ≤ m ∧ 0 ≤ f ∧ f ≤ m
def Sc (ns : List Int) : Prop := ∃ k : Nat, k ≤ 50000000 ∧ ∀ z ∈ ns, z.natAbs < 2 ^ k
theorem sc_of {ns : List Int} (h : ∀ z ∈ ns, Builtin.Int.intBits z ≤ 1048576) : Sc ns := by
  have g : ∀ (k : Nat), (∀ z ∈ ns, Builtin.Int.intBits z ≤ k) → ∀ z ∈ ns, z.natAbs < 2 ^ k := by
    intro k h z hz
    have h1 := h z hz
    unfold Builtin.Int.intBits at h1
    split at h1
    · rename_i h0
      have : z = 0 := by simpa using h0
      subst this
      exact Nat.two_pow_pos k
    · rename_i h0
      have n0 : z.natAbs ≠ 0 := by
        intro q
        apply h0
        have : z = 0 := by omega
        subst this
        rfl
      exact (Nat.log2_lt n0).mp (by omega)
  exact ⟨1048576, by decide, g _ h⟩
theorem Pl.le {ns : List Int} {m m' : Nat} {o : Own} (h : Pl ns m o) (hm : m ≤ m') : Pl ns m' o := by
  obtain ⟨p, v, f, e, h1, h2, h3, h4⟩ := h
  exact ⟨p, v, f, e, h1, by omega, h3, by omega⟩
theorem pool_ok {ns : List Int} (S : Sc ns) : ∃ o, mf__law_pool [.dat (.list (ns.map .int))] = some (o, [.dat (.list (ns.map .int))]) ∧ Pl ns 0 o := by
  obtain ⟨k, hk, hz⟩ := S
  obtain ⟨r, hr⟩ := rest_ok hk hz (p := 0) (f := 0) (by decide) (by decide) (by decide) (by decide)
  refine ⟨.lst [.list (ns.map .int), .int 0, .int r, .int 0], fnO_e (E' := [.dat (.list (ns.map .int))]) ?_, 0, r, 0, rfl, by decide, by decide, by decide, by decide⟩
  have e : (mCons (mVar 0) (mCons (mC (.int 0)) (mCons (mCall mf__law_rest (aD (mVar 0) (aD (mC (.int 0)) (aD (mC (.int 0)) aNil)))) (mCons (mC (.int 0)) mNil)))) [.dat (.list (ns.map .int))] = some ([.list (ns.map .int), .int 0, .int r, .int 0], [.dat (.list (ns.map .int))]) :=
    cons_e rfl (cons_e rfl (cons_e (call_e (as := [.d (.list (ns.map .int)), .d (.int 0), .d (.int 0)]) rfl (by simp [slotsOf]) hr) (cons_e rfl rfl)))
  exact retO_e (lst_e e (show (4 : Nat) ≤ sizeLine by decide))
theorem next_ok {ns : List Int} (S : Sc ns) {m : Nat} {o : Own} (P : Pl ns m o) (hm : m ≤ 900000) : ∃ o', mf__law_next [.own o] = some (.none, [.own o']) ∧ Pl ns (m + 1) o' := by
  obtain ⟨k, hk, hz⟩ := S
  obtain ⟨p, v, f, rfl, h1, h2, h3, h4⟩ := P
  obtain ⟨r, hr⟩ := rest_ok hk hz (p := p + 1) (f := 0) (by omega) (by omega) (by decide) (by decide)
  refine ⟨.lst [.list (ns.map .int), .int (p + 1), .int r, .int 0], fn_n (E' := [.own (.lst [.list (ns.map .int), .int (p + 1), .int r, .int 0])]) ?_, p + 1, r, 0, rfl, by omega, by omega, by decide, by omega⟩
  refine seq_e (put_e (o' := .lst [.list (ns.map .int), .int (p + 1), .int v, .int f]) (bor_e (op2_e (op2_e rfl rfl rfl) rfl rfl) rfl) rfl rfl rfl rfl) ?_
  refine seq_e (put_e (o' := .lst [.list (ns.map .int), .int (p + 1), .int r, .int f]) (bor_e (call_e (as := [.d (.list (ns.map .int)), .d (.int (p + 1)), .d (.int 0)]) rfl (by simp [slotsOf]) hr) rfl) rfl rfl rfl rfl) ?_
  exact put_x (o' := .lst [.list (ns.map .int), .int (p + 1), .int r, .int 0]) rfl rfl rfl rfl rfl rfl
theorem draw_ok {ns : List Int} (S : Sc ns) {m : Nat} {o : Own} (P : Pl ns m o) (hm : m ≤ 900000) {l : Int} (l0 : 0 < l) (l1 : l < 1073741824) :
    ∃ r o', mf__law_draw [.own o, .dat (.int l)] = some (.int r, [.own o', .dat (.int l)]) ∧ 0 ≤ r ∧ r < l ∧ Pl ns (m + 1) o' := by
  obtain ⟨k, hk, hz⟩ := S
  obtain ⟨p, v, f, rfl, h1, h2, h3, h4⟩ := P
  obtain ⟨r, hr⟩ := rest_ok hk hz (p := p) (f := f + 1) (by omega) (by omega) (by omega) (by omega)
  -- the refill
  have hA : ∃ w g : Int, 0 ≤ g ∧ g ≤ m + 1 ∧ (sIf (mBorT (mTst (mOp2 gLe (mOp2 gIx (mVar 0) (mC (.int 2))) (mC (.int 1))))) (sSeq (sPut 0 (mC (.int 3)) (mBor (mOp2 gAdd (mOp2 gIx (mVar 0) (mC (.int 3))) (mC (.int 1)))))
      (sPut 0 (mC (.int 2)) (mBor (mCall mf__law_rest (aD (mOp2 gIx (mVar 0) (mC (.int 0))) (aD (mOp2 gIx (mVar 0) (mC (.int 1))) (aD (mOp2 gIx (mVar 0) (mC (.int 3))) aNil))))))) sNx) [.own (.lst [.list (ns.map .int), .int p, .int v, .int f]), .dat (.int l), .no]
      = some (.nx [.own (.lst [.list (ns.map .int), .int p, .int w, .int g]), .dat (.int l), .no]) := by
    by_cases h : v ≤ 1
    · refine ⟨r, f + 1, by omega, by omega, if_t (borT_e (b := true) (E1 := [.dat (.list [.list (ns.map .int), .int p, .int v, .int f]), .dat (.int l), .no]) ?_) ?_⟩
      · show some (fLe v 1, _) = _
        unfold fLe; rw [decide_eq_true h]; rfl
      · refine seq_e (put_e (o' := .lst [.list (ns.map .int), .int p, .int v, .int (f + 1)]) (bor_e (op2_e (op2_e rfl rfl rfl) rfl rfl) rfl) rfl rfl rfl rfl) ?_
        exact put_x (o' := .lst [.list (ns.map .int), .int p, .int r, .int (f + 1)]) (bor_e (call_e (as := [.d (.list (ns.map .int)), .d (.int p), .d (.int (f + 1))]) rfl (by simp [slotsOf]) hr) rfl) rfl rfl rfl rfl rfl
    · refine ⟨v, f, h3, by omega, if_f (borT_e (b := false) (E1 := [.dat (.list [.list (ns.map .int), .int p, .int v, .int f]), .dat (.int l), .no]) ?_) rfl⟩
      show some (fLe v 1, _) = _
      unfold fLe; rw [decide_eq_false h]; rfl
  obtain ⟨w, g, g0, g1, hA⟩ := hA
  obtain ⟨b0, b1⟩ := fmod_pos w l0
  refine ⟨w.fmod l, .lst [.list (ns.map .int), .int p, .int (w.fdiv l), .int g], fn_e (E' := [.own (.lst [.list (ns.map .int), .int p, .int (w.fdiv l), .int g]), .dat (.int l), .dat (.int (w.fmod l))]) ?_, b0, b1, p, w.fdiv l, g, rfl, h1, by omega, g0, by omega⟩
  refine seq_e hA ?_
  refine seq_e (asg_e (d := .int (w.fmod l)) (bor_e (op2_e (cb_e (cons_e (op2_e rfl rfl rfl) rfl) rfl) rfl (mod_e (i := w) (j := l) (by omega))) rfl)) ?_
  refine seq_e (put_e (o' := .lst [.list (ns.map .int), .int p, .int (w.fdiv l), .int g]) (bor_e (op2_e (cb_e (cons_e (op2_e rfl rfl rfl) rfl) rfl) rfl (fdiv_e (i := w) (j := l) (by omega))) rfl) rfl rfl rfl rfl) ?_
  exact ret_e rfl
/-! ### the pool in a slot -/
theorem call_next {E : En} {i : Nat} {o : Own} {ns : List Int} {m : Nat} (hi : E[i]? = some (.own o)) (S : Sc ns) (P : Pl ns m o) (hm : m ≤ 900000) :
    ∃ o', mCall mf__law_next (aSl i aNil) E = some (.none, E.set i (.own o')) ∧ Pl ns (m + 1) o' := by
  obtain ⟨o', h1, h2⟩ := next_ok S P hm
  have e : aSl i aNil E = some ([.s i], E) := by unfold aSl; rw [hi]; rfl
  refine ⟨o', call_e (Ec := [.own o']) e (by simp [slotsOf]) ?_, h2⟩
  have g : argEn E [.s i] = [.own o] := by
    show [E.getD i .no] = _
    rw [List.getD_eq_getElem?_getD, hi]; rfl
  rw [g]; exact h1
theorem call_draw {E : En} {i : Nat} {o : Own} {ns : List Int} {m : Nat} {l : Int} (hi : E[i]? = some (.own o)) (S : Sc ns) (P : Pl ns m o) (hm : m ≤ 900000) (l0 : 0 < l) (l1 : l < 1073741824) :
    ∃ r o', mCall mf__law_draw (aSl i (aD (mC (.int l)) aNil)) E = some (.int r, E.set i (.own o')) ∧ 0 ≤ r ∧ r < l ∧ Pl ns (m + 1) o' := by
  obtain ⟨r, o', h1, h2, h3, h4⟩ := draw_ok S P hm l0 l1
  have e : aSl i (aD (mC (.int l)) aNil) E = some ([.s i, .d (.int l)], E) := by unfold aSl; rw [hi]; rfl
  refine ⟨r, o', call_e (Ec := [.own o', .dat (.int l)]) e (by simp [slotsOf]) ?_, h2, h3, h4⟩
  have g : argEn E [.s i, .d (.int l)] = [.own o, .dat (.int l)] := by
    show [E.getD i .no, _] = _
    rw [List.getD_eq_getElem?_getD, hi]; rfl
  rw [g]; exact h1
end DmP

namespace Bo
open PySem PySem.Spec PyProof.Rows L2 Dm DmP
/-! overlap -/
def ms_overlap : MS := (sRet (mAndV (mOp2 gLt (mOp2 gIx (mVar 0) (mC (.int 0))) (mOp2 gIx (mVar 1) (mC (.int 1)))) (mAndV (mOp2 gLt (mOp2 gIx (mVar 1) (mC (.int 0))) (mOp2 gIx (mVar 0) (mC (.int 1)))) (mAndV (mOp2 gLt (mOp2 gIx (mVar 0) (mC (.int 2))) (mOp2 gIx (mVar 1) (mC (.int 3)))) (mOp2 gLt (mOp2 gIx (mVar 1) (mC (.int 2))) (mOp2 gIx (mVar 0) (mC (.int 3))))))))
def mf_overlap : MF := mFn 2 2 [] ms_overlap
/-! within -/
def ms_within : MS := (sRet (mAndV (mOp2 gLe (mOp2 gIx (mVar 1) (mC (.int 0))) (mOp2 gIx (mVar 0) (mC (.int 0)))) (mAndV (mOp2 gLe (mOp2 gIx (mVar 0) (mC (.int 1))) (mOp2 gIx (mVar 1) (mC (.int 1)))) (mAndV (mOp2 gLe (mOp2 gIx (mVar 1) (mC (.int 2))) (mOp2 gIx (mVar 0) (mC (.int 2)))) (mOp2 gLe (mOp2 gIx (mVar 0) (mC (.int 3))) (mOp2 gIx (mVar 1) (mC (.int 3))))))))
def mf_within : MF := mFn 2 2 [] ms_within
/-! touch -/
def ms_touch : MS := (sSeq (sAsg 2 (mOrV (mOp2 gEqA (mOp2 gIx (mVar 0) (mC (.int 1))) (mOp2 gIx (mVar 1) (mC (.int 0)))) (mOp2 gEqA (mOp2 gIx (mVar 1) (mC (.int 1))) (mOp2 gIx (mVar 0) (mC (.int 0))))))
  (sSeq (sAsg 3 (mOrV (mOp2 gEqA (mOp2 gIx (mVar 0) (mC (.int 3))) (mOp2 gIx (mVar 1) (mC (.int 2)))) (mOp2 gEqA (mOp2 gIx (mVar 1) (mC (.int 3))) (mOp2 gIx (mVar 0) (mC (.int 2))))))
  (sSeq (sAsg 4 (mAndV (mOp2 gLt (mOp2 gIx (mVar 0) (mC (.int 0))) (mOp2 gIx (mVar 1) (mC (.int 1)))) (mOp2 gLt (mOp2 gIx (mVar 1) (mC (.int 0))) (mOp2 gIx (mVar 0) (mC (.int 1))))))
  (sSeq (sAsg 5 (mAndV (mOp2 gLt (mOp2 gIx (mVar 0) (mC (.int 2))) (mOp2 gIx (mVar 1) (mC (.int 3)))) (mOp2 gLt (mOp2 gIx (mVar 1) (mC (.int 2))) (mOp2 gIx (mVar 0) (mC (.int 3))))))
  (sRet (mOrV (mAndV (mVar 2) (mVar 5)) (mAndV (mVar 3) (mVar 4))))))))
def mf_touch : MF := mFn 2 6 [] ms_touch
/-! label_box -/
def ms_label_box : MS := (sSeq (sAsgT (gTp 4 (gsCons (gN 3) (gsCons (gN 4) (gsCons (gN 5) (gsCons (gN 6) gsNil))))) (mVar 0))
  (sSeq (sIf (mTst (mOp2 gEqA (mVar 1) (mC (.str "east")))) (sRet (mTup (mCons (mVar 4) (mCons (mOp2 gAdd (mVar 4) (mVar 2)) (mCons (mVar 5) (mCons (mOp2 gAdd (mVar 5) (mC (.int 1))) mNil)))))) sNx)
  (sSeq (sIf (mTst (mOp2 gEqA (mVar 1) (mC (.str "west")))) (sRet (mTup (mCons (mOp2 gSub (mVar 3) (mVar 2)) (mCons (mVar 3) (mCons (mVar 5) (mCons (mOp2 gAdd (mVar 5) (mC (.int 1))) mNil)))))) sNx)
  (sSeq (sIf (mTst (mOp2 gEqA (mVar 1) (mC (.str "north")))) (sRet (mTup (mCons (mVar 3) (mCons (mOp2 gAdd (mVar 3) (mVar 2)) (mCons (mVar 6) (mCons (mOp2 gAdd (mVar 6) (mC (.int 1))) mNil)))))) sNx)
  (sRet (mTup (mCons (mVar 3) (mCons (mOp2 gAdd (mVar 3) (mVar 2)) (mCons (mOp2 gSub (mVar 5) (mC (.int 1))) (mCons (mVar 5) mNil))))))))))
def mf_label_box : MF := mFn 3 7 [] ms_label_box
def d_SIDES : PyData := .tuple ((["east", "north", "west", "south"] : List Str).map PyData.str)
/-! places_for -/
def ms_places_for : MS := (sSeq (sAsg 3 (mOp2 gIx (mVar 1) (mVar 0)))
  (sSeq (sAsg 4 (mOf (oLc (iSq (mSItems (mVar 1))) (gTp 2 (gsCons (gN 9) (gsCons (gN 7) gsNil))) (mAndT (mTst (mOp2 gNeA (mVar 9) (mVar 0))) (mNotT (mTru (mCall mf_within (aD (mVar 3) (aD (mVar 7) aNil)))))) (mVar 7) [9, 7])))
  (sSeq (sAsgO 5 (oLst mNil))
  (sSeq (sFor (iSq (mC d_SIDES)) (gN 6) (sSeq (sAsg 7 (mCall mf_label_box (aD (mVar 3) (aD (mVar 6) (aD (mCb gLen (mCons (mVar 0) mNil)) aNil)))))
  (sSeq (sAsg 8 (mNotV (mCb gAny (mCons (mOf (oLc (iSq (mVar 4)) (gN 9) mYes (mOrV (mCall mf_overlap (aD (mVar 7) (aD (mVar 9) aNil))) (mCall mf_touch (aD (mVar 7) (aD (mVar 9) aNil)))) [9])) mNil))))
  (sIf (mAndT (mTru (mCall mf_within (aD (mVar 7) (aD (mVar 2) aNil)))) (mAndT (mTru (mVar 8)) (mNotT (mTru (mCall mf_overlap (aD (mVar 7) (aD (mVar 3) aNil))))))) (sApp 5 (mTup (mCons (mVar 6) (mCons (mVar 7) mNil)))) sNx))))
  (sRet (mFrz 5))))))
def mf_places_for : MF := mFn 3 10 [] ms_places_for
/-! all_places -/
def ms_all_places : MS := (sRet (mOf (oDc (iSq (mCb gSortedA (mCons (mVar 0) mNil))) (gN 2) mYes (mVar 2) (mCall mf_places_for (aD (mVar 2) (aD (mVar 0) (aD (mVar 1) aNil)))) [2])))
def mf_all_places : MF := mFn 2 3 [] ms_all_places
/-! together -/
def ms_together : MS := (sRet (mAndV (mNotV (mCall mf_overlap (aD (mVar 0) (aD (mVar 1) aNil)))) (mNotV (mAndV (mOp2 gEqA (mSl (mVar 0) (pSo (mC (.int 2))) pNo) (mSl (mVar 1) (pSo (mC (.int 2))) pNo)) (mOrV (mOp2 gEqA (mOp2 gIx (mVar 0) (mC (.int 1))) (mOp2 gIx (mVar 1) (mC (.int 0)))) (mOp2 gEqA (mOp2 gIx (mVar 1) (mC (.int 1))) (mOp2 gIx (mVar 0) (mC (.int 0)))))))))
def mf_together : MF := mFn 2 2 [] ms_together
/-! _law_boxes -/
def ms__law_boxes : MS := (sSeq (sAsgO 2 oDK)
  (sSeq (sAsg 3 (mOf (oLst (mCons (mC (.str "a")) (mCons (mC (.str "bay")) (mCons (mC (.str "elm")) (mCons (mC (.str "fort")) (mCons (mC (.str "go")) (mCons (mC (.str "hill")) (mCons (mC (.str "inn")) mNil))))))))))
  (sSeq (sFor (iR1 (mCons (mVar 1) mNil)) (gN 4) (sSeq (sDrop (mCall mf__law_next (aSl 0 aNil)))
  (sSeq (sAsg 5 (mCall mf__law_draw (aSl 0 (aD (mC (.int 7)) aNil))))
  (sSeq (sAsg 6 (mCall mf__law_draw (aSl 0 (aD (mC (.int 5)) aNil))))
  (sPut 2 (mOp2 gIx (mVar 3) (mVar 4)) (mTup (mCons (mVar 5) (mCons (mOp2 gAdd (mOp2 gAdd (mVar 5) (mC (.int 1))) (mCall mf__law_draw (aSl 0 (aD (mC (.int 2)) aNil)))) (mCons (mVar 6) (mCons (mOp2 gAdd (mOp2 gAdd (mVar 6) (mC (.int 1))) (mCall mf__law_draw (aSl 0 (aD (mC (.int 2)) aNil)))) mNil))))))))))
  (sSeq (sIf (mTst (mOp2 gEqA (mCall mf__law_draw (aSl 0 (aD (mC (.int 3)) aNil))) (mC (.int 0)))) (sPut 2 (mC (.str "lake")) (mTup (mCons (mC (.int 0)) (mCons (mC (.int 9)) (mCons (mC (.int 0)) (mCons (mC (.int 7)) mNil)))))) sNx)
  (sRet (mFrz 2))))))
def mf__law_boxes : MF := mFn 2 7 [0] ms__law_boxes
/-! _law_squares -/
def ms__law_squares : MS := (sSeq (sAsg 1 (mOf (oLst mNil)))
  (sSeq (sFor (iR2 (mCons (mOp2 gIx (mVar 0) (mC (.int 0))) (mCons (mOp2 gIx (mVar 0) (mC (.int 1))) mNil))) (gN 2) (sAsg 1 (mOp2 gAdd (mVar 1) (mOf (oLc (iR2 (mCons (mOp2 gIx (mVar 0) (mC (.int 2))) (mCons (mOp2 gIx (mVar 0) (mC (.int 3))) mNil))) (gN 3) mYes (mTup (mCons (mVar 2) (mCons (mVar 3) mNil))) [3])))))
  (sRet (mVar 1))))
def mf__law_squares : MF := mFn 1 4 [] ms__law_squares
/-! _law_near -/
def ms__law_near : MS := (sSeq (sAsg 1 (mOf (oLst mNil)))
  (sSeq (sFor (iSq (mCall mf__law_squares (aD (mVar 0) aNil))) (gTp 2 (gsCons (gN 2) (gsCons (gN 3) gsNil))) (sAsg 1 (mOp2 gAdd (mVar 1) (mOf (oLst (mCons (mTup (mCons (mVar 2) (mCons (mVar 3) mNil))) (mCons (mTup (mCons (mOp2 gAdd (mVar 2) (mC (.int 1))) (mCons (mVar 3) mNil))) (mCons (mTup (mCons (mOp2 gSub (mVar 2) (mC (.int 1))) (mCons (mVar 3) mNil))) (mCons (mTup (mCons (mVar 2) (mCons (mOp2 gAdd (mVar 3) (mC (.int 1))) mNil))) (mCons (mTup (mCons (mVar 2) (mCons (mOp2 gSub (mVar 3) (mC (.int 1))) mNil))) mNil))))))))))
  (sRet (mVar 1))))
def mf__law_near : MF := mFn 1 4 [] ms__law_near
/-! _law_holds -/
def ms__law_holds : MS := (sRet (mOp2 gEqA (mCb gLen (mCons (mOf (oLc (iSq (mCall mf__law_squares (aD (mVar 1) aNil))) (gN 2) (mTst (mOp2 gNotInA (mVar 2) (mCall mf__law_squares (aD (mVar 0) aNil)))) (mVar 2) [2])) mNil)) (mC (.int 0))))
def mf__law_holds : MF := mFn 2 3 [] ms__law_holds
/-! _law_spots -/
def ms__law_spots : MS := (sSeq (sAsgT (gTp 4 (gsCons (gN 3) (gsCons (gN 4) (gsCons (gN 5) (gsCons (gN 6) gsNil))))) (mOp2 gIx (mVar 0) (mVar 2)))
  (sSeq (sAsg 7 (mCb gLen (mCons (mVar 2) mNil)))
  (sSeq (sAsg 8 (mOf (oLst (mCons (mTup (mCons (mC (.str "east")) (mCons (mVar 4) (mCons (mVar 5) mNil)))) (mCons (mTup (mCons (mC (.str "north")) (mCons (mVar 3) (mCons (mVar 6) mNil)))) (mCons (mTup (mCons (mC (.str "west")) (mCons (mOp2 gSub (mVar 3) (mVar 7)) (mCons (mVar 5) mNil)))) (mCons (mTup (mCons (mC (.str "south")) (mCons (mVar 3) (mCons (mOp2 gSub (mVar 5) (mC (.int 1))) mNil)))) mNil)))))))
  (sSeq (sAsgO 9 (oLst mNil))
  (sSeq (sFor (iSq (mVar 8)) (gTp 3 (gsCons (gN 10) (gsCons (gN 11) (gsCons (gN 12) gsNil)))) (sSeq (sAsg 13 (mTup (mCons (mVar 11) (mCons (mOp2 gAdd (mVar 11) (mVar 7)) (mCons (mVar 12) (mCons (mOp2 gAdd (mVar 12) (mC (.int 1))) mNil))))))
  (sSeq (sAsg 14 (mCall mf__law_holds (aD (mVar 1) (aD (mVar 13) aNil))))
  (sSeq (sForD 0 keysD (gN 15) (sIf (mAndT (mTst (mOp2 gNeA (mVar 15) (mVar 2))) (mNotT (mTru (mCall mf__law_holds (aD (mOp2 gIx (mVar 0) (mVar 15)) (aD (mOp2 gIx (mVar 0) (mVar 2)) aNil)))))) (sIf (mTst (mOp2 gGt (mCb gLen (mCons (mOf (oLc (iSq (mCall mf__law_squares (aD (mOp2 gIx (mVar 0) (mVar 15)) aNil))) (gN 16) (mTst (mOp2 gInA (mVar 16) (mCall mf__law_near (aD (mVar 13) aNil)))) (mVar 16) [16])) mNil)) (mC (.int 0)))) (sAsg 14 (mC (.bool false))) sNx) sNx))
  (sIf (mTru (mVar 14)) (sApp 9 (mTup (mCons (mVar 10) (mCons (mVar 13) mNil)))) sNx)))))
  (sRet (mFrz 9)))))))
def mf__law_spots : MF := mFn 3 17 [] ms__law_spots
/-! _law_together -/
def ms__law_together : MS := (sSeq (sIf (mTst (mOp2 gGt (mCb gLen (mCons (mOf (oLc (iSq (mCall mf__law_squares (aD (mVar 0) aNil))) (gN 2) (mTst (mOp2 gInA (mVar 2) (mCall mf__law_squares (aD (mVar 1) aNil)))) (mVar 2) [2])) mNil)) (mC (.int 0)))) (sRet (mC (.bool false))) sNx)
  (sRet (mOrV (mOp2 gNeA (mOp2 gIx (mVar 0) (mC (.int 2))) (mOp2 gIx (mVar 1) (mC (.int 2)))) (mAndV (mOp2 gNeA (mOp2 gIx (mVar 0) (mC (.int 1))) (mOp2 gIx (mVar 1) (mC (.int 0)))) (mOp2 gNeA (mOp2 gIx (mVar 1) (mC (.int 1))) (mOp2 gIx (mVar 0) (mC (.int 0))))))))
def mf__law_together : MF := mFn 2 3 [] ms__law_together
/-! ### boxes -/
structure Bx where
  w : Int
  e : Int
  s : Int
  n : Int
def bx (b : Bx) : PyData := .tuple [.int b.w, .int b.e, .int b.s, .int b.n]
def ovl (a b : Bx) : Bool := decide (a.w < b.e) && (decide (b.w < a.e) && (decide (a.s < b.n) && decide (b.s < a.n)))
def wth (a b : Bx) : Bool := decide (b.w ≤ a.w) && (decide (a.e ≤ b.e) && (decide (b.s ≤ a.s) && decide (a.n ≤ b.n)))
def tch (a b : Bx) : Bool := ((a.e == b.w || b.e == a.w) && (decide (a.s < b.n) && decide (b.s < a.n))) || ((a.n == b.s || b.n == a.s) && (decide (a.w < b.e) && decide (b.w < a.e)))
def tog (a b : Bx) : Bool := !ovl a b && !((a.s == b.s && (a.n == b.n && true)) && (a.e == b.w || b.e == a.w))
theorem overlap_ok (a b : Bx) : mf_overlap [.dat (bx a), .dat (bx b)] = some (.bool (ovl a b), [.dat (bx a), .dat (bx b)]) :=
  fn_e (ret_e (andV_e (op2_e rfl rfl rfl) (andV_e (op2_e rfl rfl rfl) (andV_e (op2_e rfl rfl rfl) (op2_e rfl rfl rfl)))))
theorem within_ok (a b : Bx) : mf_within [.dat (bx a), .dat (bx b)] = some (.bool (wth a b), [.dat (bx a), .dat (bx b)]) :=
  fn_e (ret_e (andV_e (op2_e rfl rfl rfl) (andV_e (op2_e rfl rfl rfl) (andV_e (op2_e rfl rfl rfl) (op2_e rfl rfl rfl)))))
theorem touch_ok (a b : Bx) : mf_touch [.dat (bx a), .dat (bx b)] = some (.bool (tch a b), [.dat (bx a), .dat (bx b)]) :=
  fn_e (seq_e (asg_e (orV_e (op2_e rfl rfl rfl) (op2_e rfl rfl rfl))) (seq_e (asg_e (orV_e (op2_e rfl rfl rfl) (op2_e rfl rfl rfl))) (seq_e (asg_e (andV_e (op2_e rfl rfl rfl) (op2_e rfl rfl rfl)))
    (seq_e (asg_e (andV_e (op2_e rfl rfl rfl) (op2_e rfl rfl rfl))) (ret_e (orV_e (andV_e rfl rfl) (andV_e rfl rfl)))))))
theorem together_ok (a b : Bx) : mf_together [.dat (bx a), .dat (bx b)] = some (.bool (tog a b), [.dat (bx a), .dat (bx b)]) :=
  fn_e (ret_e (andV_e (notV_e (call_e (as := [.d (bx a), .d (bx b)]) rfl (by simp [slotsOf]) (overlap_ok a b))) (notV_e (andV_e (op2_e rfl rfl rfl) (orV_e (op2_e rfl rfl rfl) (op2_e rfl rfl rfl))))))
def lbE (b : Bx) (k : Int) : Bx := ⟨b.e, b.e + k, b.s, b.s + 1⟩
def lbW (b : Bx) (k : Int) : Bx := ⟨b.w - k, b.w, b.s, b.s + 1⟩
def lbN (b : Bx) (k : Int) : Bx := ⟨b.w, b.w + k, b.n, b.n + 1⟩
def lbS (b : Bx) (k : Int) : Bx := ⟨b.w, b.w + k, b.s - 1, b.s⟩
def sides : List (Str × (Bx → Int → Bx)) := [("east", lbE), ("north", lbN), ("west", lbW), ("south", lbS)]
theorem asgT4 {E E' : En} {f : MX} {t : MTg} {d : PyData} {E1 : En} (h : f E = some (d, E1)) (h2 : t d E1 = some E') : sAsgT t f E = some (.nx E') := by
  unfold sAsgT; rw [h]; show (t d E1).bind _ = _; rw [h2]; rfl
theorem label_ok (b : Bx) (k : Int) {x : Str} {f : Bx → Int → Bx} (h : (x, f) ∈ sides) : mf_label_box [.dat (bx b), .dat (.str x), .dat (.int k)] = some (bx (f b k), [.dat (bx b), .dat (.str x), .dat (.int k)]) := by
  have z : sizeLine = 2 ^ 24 := rfl
  simp only [sides, List.mem_cons, List.not_mem_nil, or_false, Prod.mk.injEq] at h
  rcases h with ⟨rfl, rfl⟩ | ⟨rfl, rfl⟩ | ⟨rfl, rfl⟩ | ⟨rfl, rfl⟩
  · exact fn_e (seq_e (asgT4 rfl rfl) (seq_rt (o := .nx []) (if_t (tst_e (op2_e rfl rfl (eqS_t rfl))) (ret_e (tup_e (cons_e rfl (cons_e (op2_e rfl rfl rfl) (cons_e rfl (cons_e (op2_e rfl rfl rfl) rfl)))) (show (4 : Nat) ≤ sizeLine by decide))))))
  · exact fn_e (seq_e (asgT4 rfl rfl) (seq_e (if_f (tst_e (op2_e rfl rfl (eqS_f (by decide +kernel)))) rfl) (seq_e (if_f (tst_e (op2_e rfl rfl (eqS_f (by decide +kernel)))) rfl)
      (seq_rt (o := .nx []) (if_t (tst_e (op2_e rfl rfl (eqS_t rfl))) (ret_e (tup_e (cons_e rfl (cons_e (op2_e rfl rfl rfl) (cons_e rfl (cons_e (op2_e rfl rfl rfl) rfl)))) (show (4 : Nat) ≤ sizeLine by decide))))))))
  · exact fn_e (seq_e (asgT4 rfl rfl) (seq_e (if_f (tst_e (op2_e rfl rfl (eqS_f (by decide +kernel)))) rfl)
      (seq_rt (o := .nx []) (if_t (tst_e (op2_e rfl rfl (eqS_t rfl))) (ret_e (tup_e (cons_e (op2_e rfl rfl rfl) (cons_e rfl (cons_e rfl (cons_e (op2_e rfl rfl rfl) rfl)))) (show (4 : Nat) ≤ sizeLine by decide)))))))
  · exact fn_e (seq_e (asgT4 rfl rfl) (seq_e (if_f (tst_e (op2_e rfl rfl (eqS_f (by decide +kernel)))) rfl) (seq_e (if_f (tst_e (op2_e rfl rfl (eqS_f (by decide +kernel)))) rfl) (seq_e (if_f (tst_e (op2_e rfl rfl (eqS_f (by decide +kernel)))) rfl)
      (ret_e (tup_e (cons_e rfl (cons_e (op2_e rfl rfl rfl) (cons_e (op2_e rfl rfl rfl) (cons_e rfl rfl)))) (show (4 : Nat) ≤ sizeLine by decide)))))))
/-! ### squares -/
structure Sb (b : Bx) : Prop where
  x0 : -1000 ≤ b.w
  x1 : b.w < b.e
  x2 : b.e ≤ b.w + 60
  x3 : b.w ≤ 1000
  y0 : -1000 ≤ b.s
  y1 : b.s < b.n
  y2 : b.n ≤ b.s + 60
  y3 : b.s ≤ 1000
abbrev Sq := Int × Int
def sqd (q : Sq) : PyData := .tuple [.int q.1, .int q.2]
def col (b : Bx) (i : Nat) : List Sq := (List.range (b.n - b.s).toNat).map fun j : Nat => (b.w + (i : Int), b.s + (j : Int))
def cols (b : Bx) (is : List Nat) : List Sq := is.flatMap (col b)
def sqs (b : Bx) : List Sq := cols b (List.range (b.e - b.w).toNat)
theorem mem_sqs {b : Bx} {q : Sq} : q ∈ sqs b ↔ b.w ≤ q.1 ∧ q.1 < b.e ∧ b.s ≤ q.2 ∧ q.2 < b.n := by
  obtain ⟨x, y⟩ := q
  unfold sqs cols col
  simp only [List.mem_flatMap, List.mem_map, List.mem_range, Prod.mk.injEq]
  constructor
  · rintro ⟨i, hi, j, hj, rfl, rfl⟩
    omega
  · rintro ⟨h1, h2, h3, h4⟩
    exact ⟨(x - b.w).toNat, by omega, (y - b.s).toNat, by omega, by omega, by omega⟩
theorem cols_length (b : Bx) (is : List Nat) : (cols b is).length = is.length * (b.n - b.s).toNat := by
  induction is with
  | nil => simp [cols]
  | cons i is ih =>
    have e : cols b (i :: is) = col b i ++ cols b is := by simp [cols]
    rw [e, List.length_append, ih, List.length_cons]
    simp [col]
    rw [Nat.add_mul]; omega
theorem sqs_length {b : Bx} (S : Sb b) : (sqs b).length ≤ 3600 := by
  unfold sqs
  rw [cols_length, List.length_range]
  have h1 : (b.e - b.w).toNat ≤ 60 := by have := S.x2; omega
  have h2 : (b.n - b.s).toNat ≤ 60 := by have := S.y2; omega
  exact Nat.mul_le_mul h1 h2
theorem r2_e {f g : MX} {E E1 E2 : En} {i j : Int} (h1 : f E = some (.int i, E1)) (h2 : g E1 = some (.int j, E2)) (hi : -(2 ^ 62) ≤ i ∧ i < 2 ^ 62 ∧ -(2 ^ 62) ≤ j ∧ j < 2 ^ 62) : iR2 (mCons f (mCons g mNil)) E = some (rangeD i (j - i).toNat, E2) := by
  unfold iR2
  rw [cons_e h1 (cons_e h2 rfl)]
  show (if _ then _ else _) = _
  rw [if_pos hi]
theorem squares_ok {b : Bx} (S : Sb b) : mf__law_squares [.dat (bx b)] = some (.list ((sqs b).map sqd), [.dat (bx b)]) := by
  have := S.x0; have := S.x1; have := S.x2; have := S.x3; have := S.y0; have := S.y1; have := S.y2; have := S.y3
  have hl := sqs_length S
  have L := loopF_split (t := gN 2) (f := sAsg 1 (mOp2 gAdd (mVar 1) (mOf (oLc (iR2 (mCons (mOp2 gIx (mVar 0) (mC (.int 2))) (mCons (mOp2 gIx (mVar 0) (mC (.int 3))) mNil))) (gN 3) mYes (mTup (mCons (mVar 2) (mCons (mVar 3) mNil))) [3]))))
    (fun k : Nat => PyData.int (b.w + (k : Int))) (fun pre E => ∃ x : Sl, E = [.dat (bx b), .dat (.list ((cols b pre).map sqd)), x, .no]) (List.range (b.e - b.w).toNat) (List.range (b.e - b.w).toNat) [] [.dat (bx b), .dat (.list []), .no, .no] rfl ⟨.no, rfl⟩
    (fun pre a post E hz ⟨x, hE⟩ => by
      subst hE
      obtain ⟨ea, ha, hp⟩ := range_at hz
      have hc : compF (gN 3) mYes (mTup (mCons (mVar 2) (mCons (mVar 3) mNil))) [3] (rangeD b.s (b.n - b.s).toNat) [.dat (bx b), .dat (.list ((cols b pre).map sqd)), .dat (.int (b.w + (a : Int))), .no]
          = some ((List.range (b.n - b.s).toNat).map (fun j : Nat => sqd (b.w + (a : Int), b.s + (j : Int))), [.dat (bx b), .dat (.list ((cols b pre).map sqd)), .dat (.int (b.w + (a : Int))), .no]) :=
        compF_all (fun j : Nat => PyData.int (b.s + (j : Int))) _ _ fun j _ => rfl
      refine ⟨[.dat (bx b), .dat (.list ((cols b pre).map sqd)), .dat (.int (b.w + (a : Int))), .no], [.dat (bx b), .dat (.list ((cols b (pre ++ [a])).map sqd)), .dat (.int (b.w + (a : Int))), .no], rfl, .inl ?_, _, rfl⟩
      have e1 : (cols b (pre ++ [a])).map sqd = (cols b pre).map sqd ++ (List.range (b.n - b.s).toNat).map (fun j : Nat => sqd (b.w + (a : Int), b.s + (j : Int))) := by
        simp [cols, col, List.map_map, Function.comp_def]
      rw [e1]
      refine asg_x (op2_e rfl (of_e (lc_e (r2_e rfl rfl ⟨by omega, by omega, by omega, by omega⟩) hc ?_)) ?_) rfl
      · rw [List.length_map, List.length_range]
        exact Nat.le_trans (show (b.n - b.s).toNat ≤ 60 by omega) (by decide)
      · show (if _ then _ else _) = _
        rw [if_pos]
        rw [List.length_map, List.length_map, List.length_range, cols_length]
        have h1 : pre.length * (b.n - b.s).toNat ≤ 60 * 60 := Nat.mul_le_mul (by omega) (by omega)
        exact Nat.le_trans (show pre.length * (b.n - b.s).toNat + (b.n - b.s).toNat ≤ 3660 by omega) (by decide))
  obtain ⟨E', e1, x, rfl⟩ := L
  exact fn_e (seq_e (asg_e (of_e (lst_e rfl (Nat.zero_le _)))) (seq_e (for_e (r2_e rfl rfl ⟨by omega, by omega, by omega, by omega⟩) e1) (ret_e rfl)))
def nr1 (q : Sq) : List Sq := [(q.1, q.2), (q.1 + 1, q.2), (q.1 - 1, q.2), (q.1, q.2 + 1), (q.1, q.2 - 1)]
def nrs (l : List Sq) : List Sq := l.flatMap nr1
def near (b : Bx) : List Sq := nrs (sqs b)
theorem nrs_length (l : List Sq) : (nrs l).length = l.length * 5 := by
  induction l with
  | nil => rfl
  | cons q l ih =>
    have e : nrs (q :: l) = nr1 q ++ nrs l := by simp [nrs]
    rw [e, List.length_append, ih, List.length_cons]
    simp [nr1]
    omega
theorem callB {fh : MF} {i : Nat} {E : En} {b : Bx} {d : PyData} (h0 : E[i]? = some (.dat (bx b))) (h : fh [.dat (bx b)] = some (d, [.dat (bx b)])) : mCall fh (aD (mVar i) aNil) E = some (d, E) := by
  have e : mVar i E = some (bx b, E) := by unfold mVar; rw [h0]
  have e2 : aD (mVar i) aNil E = some ([.d (bx b)], E) := by unfold aD; rw [e]; rfl
  exact call_e (Ec := [.dat (bx b)]) e2 (by simp [slotsOf]) h
theorem callBB {fh : MF} {i j : Nat} {E : En} {a b : Bx} {d : PyData} (h0 : E[i]? = some (.dat (bx a))) (h1 : E[j]? = some (.dat (bx b))) (h : fh [.dat (bx a), .dat (bx b)] = some (d, [.dat (bx a), .dat (bx b)])) : mCall fh (aD (mVar i) (aD (mVar j) aNil)) E = some (d, E) := by
  have e : mVar i E = some (bx a, E) := by unfold mVar; rw [h0]
  have e' : mVar j E = some (bx b, E) := by unfold mVar; rw [h1]
  have e2 : aD (mVar i) (aD (mVar j) aNil) E = some ([.d (bx a), .d (bx b)], E) := by
    unfold aD; rw [e]; show (((mVar j E).bind _).bind _) = _; rw [e']; rfl
  exact call_e (Ec := [.dat (bx a), .dat (bx b)]) e2 (by simp [slotsOf]) h
theorem near_ok {b : Bx} (S : Sb b) : mf__law_near [.dat (bx b)] = some (.list ((near b).map sqd), [.dat (bx b)]) := by
  have hl := sqs_length S
  have L := loopF_split (t := gTp 2 (gsCons (gN 2) (gsCons (gN 3) gsNil))) (f := sAsg 1 (mOp2 gAdd (mVar 1) (mOf (oLst (mCons (mTup (mCons (mVar 2) (mCons (mVar 3) mNil))) (mCons (mTup (mCons (mOp2 gAdd (mVar 2) (mC (.int 1))) (mCons (mVar 3) mNil))) (mCons (mTup (mCons (mOp2 gSub (mVar 2) (mC (.int 1))) (mCons (mVar 3) mNil))) (mCons (mTup (mCons (mVar 2) (mCons (mOp2 gAdd (mVar 3) (mC (.int 1))) mNil))) (mCons (mTup (mCons (mVar 2) (mCons (mOp2 gSub (mVar 3) (mC (.int 1))) mNil))) mNil)))))))))
    sqd (fun pre E => ∃ x y : Sl, E = [.dat (bx b), .dat (.list ((nrs pre).map sqd)), x, y]) (sqs b) (sqs b) [] [.dat (bx b), .dat (.list []), .no, .no] rfl ⟨.no, .no, rfl⟩
    (fun pre q post E hz ⟨x, y, hE⟩ => by
      subst hE
      refine ⟨[.dat (bx b), .dat (.list ((nrs pre).map sqd)), .dat (.int q.1), .dat (.int q.2)], [.dat (bx b), .dat (.list ((nrs (pre ++ [q])).map sqd)), .dat (.int q.1), .dat (.int q.2)], rfl, .inl ?_, _, _, rfl⟩
      have e1 : (nrs (pre ++ [q])).map sqd = (nrs pre).map sqd ++ (nr1 q).map sqd := by simp [nrs]
      rw [e1]
      have z : (2 : Nat) ≤ sizeLine := by decide
      refine asg_x (op2_e rfl (of_e (w := .lst ((nr1 q).map sqd)) (lst_e (cons_e (tup_e rfl z) (cons_e (tup_e (cons_e (op2_e rfl rfl rfl) rfl) z) (cons_e (tup_e (cons_e (op2_e rfl rfl rfl) rfl) z) (cons_e (tup_e (cons_e rfl (cons_e (op2_e rfl rfl rfl) rfl)) z) (cons_e (tup_e (cons_e rfl (cons_e (op2_e rfl rfl rfl) rfl)) z) rfl))))) (show (5 : Nat) ≤ sizeLine by decide))) ?_) rfl
      show (if _ then _ else _) = _
      rw [if_pos]
      have hp : pre.length ≤ 3600 := by
        have := congrArg List.length hz
        rw [List.length_append] at this
        omega
      rw [List.length_map, nrs_length]
      exact Nat.le_trans (show pre.length * 5 + 5 ≤ 20000 by omega) (by decide))
  obtain ⟨E', e1, x, y, rfl⟩ := L
  refine fn_e (seq_e (asg_e (of_e (lst_e rfl (Nat.zero_le _)))) (seq_e (for_e (E1 := [.dat (bx b), .dat (.list []), .no, .no]) (xs := (sqs b).map sqd) ?_ e1) (ret_e rfl)))
  unfold iSq
  rw [callB rfl (squares_ok S)]
  rfl
/-! ### squares counted -/
theorem eqv_sq (p q : Sq) : PyData.eqv (sqd p) (sqd q) = decide (p = q) := by
  obtain ⟨a, b⟩ := p
  obtain ⟨c, d⟩ := q
  show ((a == c) && ((b == d) && true)) = _
  by_cases h1 : a = c <;> by_cases h2 : b = d <;> simp [h1, h2]
theorem plain_sqs (l : List Sq) : PyData.plainAll (l.map sqd) = true := by
  induction l with
  | nil => rfl
  | cons q l ih => rw [List.map_cons, PyData.plainAll, ih]; rfl
theorem inOk_sq (q : Sq) (l : List Sq) : inOk (sqd q) (l.map sqd) = true := by
  unfold inOk
  rw [plain_sqs]
  rfl
theorem inD_sq (q : Sq) (l : List Sq) : inD (sqd q) (l.map sqd) = decide (q ∈ l) := by
  unfold inD
  rw [List.any_map, Bool.eq_iff_iff, decide_eq_true_eq, List.any_eq_true]
  simp only [Function.comp, eqv_sq, decide_eq_true_eq]
  exact ⟨fun ⟨z, h1, h2⟩ => h2 ▸ h1, fun h => ⟨q, h, rfl⟩⟩
theorem in_sq (q : Sq) (l : List Sq) : gInA (sqd q) (.list (l.map sqd)) = some (.bool (decide (q ∈ l))) := by
  show (if inOk _ _ = true then _ else _) = _
  rw [if_pos (inOk_sq q l), inD_sq]
theorem notIn_sq (q : Sq) (l : List Sq) : gNotInA (sqd q) (.list (l.map sqd)) = some (.bool (!decide (q ∈ l))) := by
  show (if inOk _ _ = true then _ else _) = _
  rw [if_pos (inOk_sq q l), inD_sq]
section
variable {E : En} {v : Nat} {fa fb : MX} {la lb : List Sq}
theorem set_no {E : En} {v : Nat} (hv : E[v]? = some .no) : E.set v .no = E := by
  apply List.ext_getElem?
  intro j
  rw [List.getElem?_set]
  by_cases h : v = j
  · subst h
    rw [if_pos rfl, if_pos (List.getElem?_eq_some_iff.mp hv).1, hv]
  · rw [if_neg h]
theorem restE_no {E : En} {v : Nat} (hv : E[v]? = some .no) : restE E E [v] = E := by
  show E.set v (match E[v]? with | some (Sl.dat d) => .dat d | _ => .no) = E
  rw [hv]
  exact set_no hv
/-- the squares of the one that the test lets through -/
theorem cross_o {c : MT} {p : Sq → Bool} (hv : E[v]? = some .no) (ha : fa E = some (.list (la.map sqd), E)) (hc : ∀ q, c (E.set v (.dat (sqd q))) = some (p q, E.set v (.dat (sqd q)))) (hl : la.length ≤ sizeLine) :
    oLc (iSq fa) (gN v) c (mVar v) [v] E = some (.lst ((la.filter p).map sqd), E) := by
  have hlt := (List.getElem?_eq_some_iff.mp hv).1
  have w : wipeE E [v] = E := set_no hv
  have h1 : iSq fa E = some (la.map sqd, E) := by unfold iSq; rw [ha]; rfl
  have h2 : compF (gN v) c (mVar v) [v] (la.map sqd) (wipeE E [v]) = some ((la.filter p).map sqd, wipeE E [v]) := by
    rw [w]
    refine compF_filter sqd p sqd la fun q _ => ?_
    have s0 : (E.set v (.dat (sqd q))).set v .no = E := by rw [List.set_set]; exact set_no hv
    unfold comp1
    show (c (E.set v (.dat (sqd q)))).bind _ = _
    rw [hc q, Option.bind_some]
    cases hp : p q with
    | true =>
      have e : mVar v (E.set v (.dat (sqd q))) = some (sqd q, E.set v (.dat (sqd q))) := by
        unfold mVar
        rw [List.getElem?_set_self hlt]
      show (mVar v _).bind _ = _
      rw [e, Option.bind_some]
      show some (some (sqd q), (E.set v (.dat (sqd q))).set v .no) = _
      rw [s0]; simp
    | false =>
      show some (none, (E.set v (.dat (sqd q))).set v .no) = _
      rw [s0]; simp
  rw [lc_e h1 h2 (by rw [List.length_map]; exact Nat.le_trans (List.length_filter_le _ _) hl), w, restE_no hv]
theorem cross_in (hv : E[v]? = some .no) (ha : fa E = some (.list (la.map sqd), E)) (hb : ∀ d, fb (E.set v (.dat d)) = some (.list (lb.map sqd), E.set v (.dat d))) (hl : la.length ≤ sizeLine) :
    mCb gLen (mCons (mOf (oLc (iSq fa) (gN v) (mTst (mOp2 gInA (mVar v) fb)) (mVar v) [v])) mNil) E = some (.int ((la.filter fun q => decide (q ∈ lb)).length : Int), E) := by
  have hlt := (List.getElem?_eq_some_iff.mp hv).1
  refine cb_e (cons_e (of_e (cross_o hv ha (fun q => tst_e (op2_e (d := sqd q) ?_ (hb _) (in_sq q lb))) hl)) rfl) ?_
  · unfold mVar; rw [List.getElem?_set_self hlt]
  · show some (PyData.int (((la.filter fun q => decide (q ∈ lb)).map sqd).length : Int)) = _
    rw [List.length_map]
theorem cross_out (hv : E[v]? = some .no) (ha : fa E = some (.list (la.map sqd), E)) (hb : ∀ d, fb (E.set v (.dat d)) = some (.list (lb.map sqd), E.set v (.dat d))) (hl : la.length ≤ sizeLine) :
    mCb gLen (mCons (mOf (oLc (iSq fa) (gN v) (mTst (mOp2 gNotInA (mVar v) fb)) (mVar v) [v])) mNil) E = some (.int ((la.filter fun q => !decide (q ∈ lb)).length : Int), E) := by
  have hlt := (List.getElem?_eq_some_iff.mp hv).1
  refine cb_e (cons_e (of_e (cross_o hv ha (fun q => tst_e (op2_e (d := sqd q) ?_ (hb _) (notIn_sq q lb))) hl)) rfl) ?_
  · unfold mVar; rw [List.getElem?_set_self hlt]
  · show some (PyData.int (((la.filter fun q => !decide (q ∈ lb)).map sqd).length : Int)) = _
    rw [List.length_map]
theorem more0 {f : MX} {l : List Sq} {b : Bool} (h : f E = some (.int (l.length : Int), E)) (hb : (∃ q, q ∈ l) ↔ b = true) : mOp2 gGt f (mC (.int 0)) E = some (.bool b, E) := by
  refine op2_e h rfl ?_
  show some (PyData.bool (decide ((0 : Int) < (l.length : Int)))) = _
  have : decide ((0 : Int) < (l.length : Int)) = b := by
    rw [Bool.eq_iff_iff, decide_eq_true_eq, ← hb]
    cases l with
    | nil => simp
    | cons q l => simp <;> omega
  rw [this]
theorem none0 {f : MX} {l : List Sq} {b : Bool} (h : f E = some (.int (l.length : Int), E)) (hb : (∃ q, q ∈ l) ↔ b = false) : mOp2 gEqA f (mC (.int 0)) E = some (.bool b, E) := by
  refine op2_e h rfl ?_
  show some (PyData.bool ((l.length : Int) == 0)) = _
  have : ((l.length : Int) == 0) = b := by
    cases l with
    | nil =>
      cases b with
      | true => rfl
      | false => exact absurd (hb.mpr rfl) (by simp)
    | cons q l =>
      cases b with
      | true => exact absurd (hb.mp ⟨q, by simp⟩) (by simp)
      | false => rw [beq_eq_false_iff_ne]; simp <;> omega
  rw [this]
end
theorem ovl_iff {a b : Bx} (A : Sb a) (B : Sb b) : (∃ q, q ∈ (sqs a).filter fun q => decide (q ∈ sqs b)) ↔ ovl a b = true := by
  have := A.x1; have := A.y1; have := B.x1; have := B.y1
  simp only [List.mem_filter, decide_eq_true_eq, mem_sqs, ovl, Bool.and_eq_true]
  constructor
  · rintro ⟨q, h1, h2⟩; omega
  · rintro ⟨h1, h2, h3, h4⟩
    exact ⟨(max a.w b.w, max a.s b.s), by dsimp only; omega, by dsimp only; omega⟩
theorem wth_iff {a b : Bx} (A : Sb a) (B : Sb b) : (∃ q, q ∈ (sqs a).filter fun q => !decide (q ∈ sqs b)) ↔ wth a b = false := by
  have := A.x1; have := A.y1; have := B.x1; have := B.y1
  rw [← Bool.not_eq_true]
  simp only [List.mem_filter, Bool.not_eq_true', decide_eq_false_iff_not, mem_sqs, wth, Bool.and_eq_true, decide_eq_true_eq]
  constructor
  · rintro ⟨q, h1, h2⟩; omega
  · intro h
    by_cases h1 : b.w ≤ a.w
    · by_cases h2 : a.e ≤ b.e
      · by_cases h3 : b.s ≤ a.s
        · exact ⟨(a.w, a.n - 1), by dsimp only; omega, by dsimp only; omega⟩
        · exact ⟨(a.w, a.s), by dsimp only; omega, by dsimp only; omega⟩
      · exact ⟨(a.e - 1, a.s), by dsimp only; omega, by dsimp only; omega⟩
    · exact ⟨(a.w, a.s), by dsimp only; omega, by dsimp only; omega⟩
theorem mem_near {b : Bx} {q : Sq} : q ∈ near b ↔ (b.w ≤ q.1 ∧ q.1 < b.e ∧ b.s ≤ q.2 ∧ q.2 < b.n) ∨ (b.w ≤ q.1 - 1 ∧ q.1 - 1 < b.e ∧ b.s ≤ q.2 ∧ q.2 < b.n) ∨ (b.w ≤ q.1 + 1 ∧ q.1 + 1 < b.e ∧ b.s ≤ q.2 ∧ q.2 < b.n) ∨
    (b.w ≤ q.1 ∧ q.1 < b.e ∧ b.s ≤ q.2 - 1 ∧ q.2 - 1 < b.n) ∨ (b.w ≤ q.1 ∧ q.1 < b.e ∧ b.s ≤ q.2 + 1 ∧ q.2 + 1 < b.n) := by
  obtain ⟨x, y⟩ := q
  unfold near nrs nr1
  simp only [List.mem_flatMap, mem_sqs, List.mem_cons, List.not_mem_nil, or_false, Prod.mk.injEq]
  constructor
  · rintro ⟨⟨x', y'⟩, h, h2⟩
    dsimp only at h h2
    omega
  · intro h
    rcases h with h | h | h | h | h
    · exact ⟨(x, y), h, .inl ⟨rfl, rfl⟩⟩
    · exact ⟨(x - 1, y), h, .inr (.inl ⟨by dsimp only; omega, rfl⟩)⟩
    · exact ⟨(x + 1, y), h, .inr (.inr (.inl ⟨by dsimp only; omega, rfl⟩))⟩
    · exact ⟨(x, y - 1), h, .inr (.inr (.inr (.inl ⟨rfl, by dsimp only; omega⟩)))⟩
    · exact ⟨(x, y + 1), h, .inr (.inr (.inr (.inr ⟨rfl, by dsimp only; omega⟩)))⟩
theorem near_iff {a b : Bx} (A : Sb a) (B : Sb b) : (∃ q, q ∈ (sqs b).filter fun q => decide (q ∈ near a)) ↔ (ovl a b || tch a b) = true := by
  have := A.x1; have := A.y1; have := B.x1; have := B.y1
  simp only [List.mem_filter, decide_eq_true_eq, mem_sqs, mem_near, ovl, tch, Bool.and_eq_true, Bool.or_eq_true, beq_iff_eq]
  constructor
  · rintro ⟨⟨x, y⟩, h1, h2⟩; dsimp only at h1 h2; omega
  · rintro (h | (h | h))
    · exact ⟨(max a.w b.w, max a.s b.s), by dsimp only; omega, by dsimp only; omega⟩
    · by_cases h2 : a.e = b.w
      · exact ⟨(b.w, max a.s b.s), by dsimp only; omega, by dsimp only; omega⟩
      · exact ⟨(b.e - 1, max a.s b.s), by dsimp only; omega, by dsimp only; omega⟩
    · by_cases h2 : a.n = b.s
      · exact ⟨(max a.w b.w, b.s), by dsimp only; omega, by dsimp only; omega⟩
      · exact ⟨(max a.w b.w, b.n - 1), by dsimp only; omega, by dsimp only; omega⟩
theorem le36 {b : Bx} (S : Sb b) : (sqs b).length ≤ sizeLine := Nat.le_trans (sqs_length S) (by decide)
theorem holds_ok {a b : Bx} (A : Sb a) (B : Sb b) : mf__law_holds [.dat (bx a), .dat (bx b)] = some (.bool (wth b a), [.dat (bx a), .dat (bx b)]) := by
  refine fn_e (E' := [.dat (bx a), .dat (bx b), .no]) (ret_e (none0 (cross_out (la := sqs b) (lb := sqs a) rfl (callB rfl (squares_ok B)) (fun d => ?_) (le36 B)) (wth_iff B A)))
  exact callB (b := a) rfl (squares_ok A)
end Bo

namespace Bo
open PySem PySem.Spec PyProof.Rows L2 Dm DmP
/-! overlap -/
/-! ### names and boxes -/
abbrev Nb := Str × Bx
def kvs (bs : List Nb) : List (PyData × PyData) := bs.map fun p => (.str p.1, bx p.2)
def bxs (bs : List Nb) : PyData := .dict (kvs bs)
structure Mb (b : Bx) : Prop where
  x0 : -100 ≤ b.w
  x1 : b.w < b.e
  x2 : b.e ≤ b.w + 60
  x3 : b.w ≤ 100
  y0 : -100 ≤ b.s
  y1 : b.s < b.n
  y2 : b.n ≤ b.s + 60
  y3 : b.s ≤ 100
theorem Mb.sb {b : Bx} (M : Mb b) : Sb b := by
  obtain ⟨h1, h2, h3, h4, h5, h6, h7, h8⟩ := M
  exact ⟨by omega, h2, h3, by omega, by omega, h6, h7, by omega⟩
structure Gb (bs : List Nb) : Prop where
  nd : (bs.map (·.1)).Nodup
  mb : ∀ p ∈ bs, Mb p.2
  nm : ∀ p ∈ bs, 1 ≤ p.1.length ∧ p.1.length ≤ 10
  ln : bs.length ≤ 10
theorem isTag_kvs (bs : List Nb) : isTag (kvs bs) = false := by cases bs <;> rfl
theorem look_kvs : ∀ {bs : List Nb}, (bs.map (·.1)).Nodup → ∀ {p : Nb}, p ∈ bs → look (kvs bs) (.str p.1) = some (bx p.2)
  | [], _, _, h => by cases h
  | b :: bs, nd, p, h => by
    rw [List.map_cons, List.nodup_cons] at nd
    unfold look kvs
    rw [List.map_cons, List.find?_cons]
    by_cases e : b.1 = p.1
    · have : p = b := by
        rcases List.mem_cons.mp h with z | z
        · exact z
        · exact absurd (List.mem_map.mpr ⟨p, z, e.symm⟩) nd.1
      subst this
      show ((match (p.1 == p.1) with | true => _ | false => _) : Option _).map _ = _
      rw [beq_self_eq_true]; rfl
    · have hp : p ∈ bs := by
        rcases List.mem_cons.mp h with z | z
        · subst z; exact absurd rfl e
        · exact z
      show ((match (b.1 == p.1) with | true => _ | false => _) : Option _).map _ = _
      rw [beq_eq_false_iff_ne.mpr e]
      exact look_kvs nd.2 hp
theorem ix_kvs {bs : List Nb} (G : Gb bs) {p : Nb} (h : p ∈ bs) : gIx (bxs bs) (.str p.1) = some (bx p.2) := by
  show (dAsk (kvs bs) (.str p.1)).bind id = _
  unfold dAsk
  show (if (true && !isTag (kvs bs)) = true then _ else _ : Option _).bind id = _
  rw [isTag_kvs, if_pos (show (true && !false) = true from rfl), look_kvs G.nd h]
  rfl
def nbd (p : Nb) : PyData := .tuple [.str p.1, bx p.2]
theorem sortOk_nb (bs : List Nb) : sortOk (bs.map nbd) = true := by
  have h1 : alikes (bs.map nbd) = true := by
    unfold alikes
    simp only [List.all_map, List.all_eq_true, Function.comp]
    exact fun p _ q _ => rfl
  have h2 : sortable (bs.map nbd) = true := by
    unfold sortable
    rw [Bool.or_eq_true]
    left
    simp only [List.all_map, List.all_eq_true, Function.comp]
    exact fun p _ => rfl
  have h3 : ((bs.map nbd).all fun d => decide (d.depth ≤ 50)) = true := by
    simp only [List.all_map, List.all_eq_true, Function.comp]
    exact fun p _ => rfl
  have h4 : PyData.plainAll (bs.map nbd) = true := by
    induction bs with
    | nil => rfl
    | cons q l ih =>
      rw [List.map_cons, PyData.plainAll, ih]
      · rfl
      · unfold alikes
        simp only [List.all_map, List.all_eq_true, Function.comp]
        exact fun p _ q _ => rfl
      · unfold sortable
        rw [Bool.or_eq_true]
        left
        simp only [List.all_map, List.all_eq_true, Function.comp]
        exact fun p _ => rfl
      · simp only [List.all_map, List.all_eq_true, Function.comp]
        exact fun p _ => rfl
  unfold sortOk
  rw [h1, h2, h3, h4]
  rfl
theorem sortD_nb (bs : List Nb) : ∃ ys : List Nb, ys.Perm bs ∧ sortD (bs.map nbd) = ys.map nbd := by
  refine ⟨bs.mergeSort fun p q => PySem.W.dataLe false id (nbd p) (nbd q), List.mergeSort_perm _ _, ?_⟩
  unfold sortD
  rw [List.map_mergeSort (r := fun p q => PySem.W.dataLe false id (nbd p) (nbd q)) (s := PySem.W.dataLe false id) (f := nbd) (fun a _ b _ => rfl)]
theorem sitems_nb {bs : List Nb} : ∃ ys : List Nb, ys.Perm bs ∧ ∀ (f : MX) (E : En), f E = some (bxs bs, E) → mSItems f E = some (.list (ys.map nbd), E) := by
  obtain ⟨ys, h1, h2⟩ := sortD_nb bs
  refine ⟨ys, h1, fun f E h => ?_⟩
  have e : pairsD (kvs bs) = bs.map nbd := by unfold pairsD kvs; rw [List.map_map]; rfl
  unfold mSItems
  rw [h]
  show (if isTag (kvs bs) = false ∧ sortOk (pairsD (kvs bs)) = true then some (PyData.list (sortD (pairsD (kvs bs))), E) else none) = _
  rw [e, if_pos ⟨isTag_kvs bs, sortOk_nb bs⟩, h2]
/-! ### places -/
abbrev Pd := Str × Bx
def pd (p : Pd) : PyData := .tuple [.str p.1, bx p.2]
def hit (bs : List Nb) (nm : Str) (own b : Bx) : Bool := bs.any fun q => !decide (q.1 = nm) && !wth own q.2 && (ovl b q.2 || tch b q.2)
def spt (bs : List Nb) (wd : Bx) (p : Nb) : List Pd := (sides.filter fun f => wth (f.2 p.2 p.1.length) wd && !hit bs p.1 p.2 (f.2 p.2 p.1.length)).map fun f => (f.1, f.2 p.2 p.1.length)
theorem comp1_e {t : MTg} {c : MT} {el : MX} {vs : List Nat} {x y : PyData} {W E1 : En} {b : Bool} (h1 : t x W = some E1) (h2 : c E1 = some (b, E1)) (h3 : b = true → el E1 = some (y, E1)) (h4 : wipeE E1 vs = W) : comp1 t c el vs x W = some (if b then some y else none, W) := by
  unfold comp1
  rw [h1, Option.bind_some, h2, Option.bind_some]
  cases b with
  | true =>
    show (el E1).bind _ = _
    rw [h3 rfl, Option.bind_some]
    show some (some y, wipeE E1 vs) = _
    rw [h4]; rfl
  | false =>
    show some (none, wipeE E1 vs) = _
    rw [h4]; rfl
theorem comp1_y {t : MTg} {el : MX} {vs : List Nat} {x y : PyData} {W E1 : En} (h1 : t x W = some E1) (h3 : el E1 = some (y, E1)) (h4 : wipeE E1 vs = W) : comp1 t mYes el vs x W = some (some y, W) := by
  have := comp1_e (c := mYes) (b := true) h1 rfl (fun _ => h3) h4
  exact this
theorem asB_map {α : Type} (g : α → Bool) : ∀ l : List α, asB (l.map fun a => PyData.bool (g a)) = some (l.map g)
  | [] => rfl
  | a :: l => by
    rw [List.map_cons, List.map_cons]
    show (asB (l.map fun a => PyData.bool (g a))).bind _ = _
    rw [asB_map g l]; rfl
theorem any_map {α : Type} (g : α → Bool) (l : List α) : gAny [.list (l.map fun a => PyData.bool (g a))] = some (.bool (l.any g)) := by
  show (asB _).bind _ = _
  rw [asB_map]
  show some (PyData.bool ((l.map g).any id)) = _
  rw [List.any_map]; rfl
theorem len_str {x : Str} (h : x.length ≤ 10) : gLen [.str x] = some (.int x.length) := by
  show (if _ then _ else _) = _
  rw [if_pos (Nat.le_trans h (by decide))]
theorem lb_ovl {b : Bx} (M : Mb b) {k : Int} {x : Str} {f : Bx → Int → Bx} (h : (x, f) ∈ sides) : ovl (f b k) b = false := by
  have := M.x1; have := M.y1
  simp only [sides, List.mem_cons, List.not_mem_nil, or_false, Prod.mk.injEq] at h
  rw [← Bool.not_eq_true]
  intro hh
  simp only [ovl, Bool.and_eq_true, decide_eq_true_eq] at hh
  rcases h with ⟨rfl, rfl⟩ | ⟨rfl, rfl⟩ | ⟨rfl, rfl⟩ | ⟨rfl, rfl⟩ <;> simp only [lbE, lbW, lbN, lbS] at hh <;> omega
theorem lb_sb {b : Bx} (M : Mb b) {k : Int} (k0 : 1 ≤ k) (k1 : k ≤ 10) {x : Str} {f : Bx → Int → Bx} (h : (x, f) ∈ sides) : Sb (f b k) := by
  obtain ⟨h1, h2, h3, h4, h5, h6, h7, h8⟩ := M
  simp only [sides, List.mem_cons, List.not_mem_nil, or_false, Prod.mk.injEq] at h
  rcases h with ⟨rfl, rfl⟩ | ⟨rfl, rfl⟩ | ⟨rfl, rfl⟩ | ⟨rfl, rfl⟩ <;> constructor <;> simp only [lbE, lbW, lbN, lbS] <;> omega
/-- the label box at a place of the slots -/
theorem call_label {E : En} {i j k : Nat} {b : Bx} {x nm : Str} {f : Bx → Int → Bx} (h : (x, f) ∈ sides) (hi : E[i]? = some (.dat (bx b))) (hj : E[j]? = some (.dat (.str x))) (hk : E[k]? = some (.dat (.str nm))) (hn : nm.length ≤ 10) :
    mCall mf_label_box (aD (mVar i) (aD (mVar j) (aD (mCb gLen (mCons (mVar k) mNil)) aNil))) E = some (bx (f b nm.length), E) := by
  have e1 : mVar i E = some (bx b, E) := by unfold mVar; rw [hi]
  have e2 : mVar j E = some (.str x, E) := by unfold mVar; rw [hj]
  have e3 : mCb gLen (mCons (mVar k) mNil) E = some (.int nm.length, E) := cb_e (cons_e (d := .str nm) (by unfold mVar; rw [hk]) rfl) (len_str hn)
  have e4 : aD (mVar i) (aD (mVar j) (aD (mCb gLen (mCons (mVar k) mNil)) aNil)) E = some ([.d (bx b), .d (.str x), .d (.int nm.length)], E) := by
    unfold aD; rw [e1, Option.bind_some]; dsimp only; rw [e2, Option.bind_some]; dsimp only; rw [e3]; rfl
  exact call_e (Ec := [.dat (bx b), .dat (.str x), .dat (.int nm.length)]) e4 (by simp [slotsOf]) (label_ok b nm.length h)
theorem places_ok {bs : List Nb} (G : Gb bs) {p : Nb} (hp : p ∈ bs) (wd : Bx) : mf_places_for [.dat (.str p.1), .dat (bxs bs), .dat (bx wd)] = some (.list ((spt bs wd p).map pd), [.dat (.str p.1), .dat (bxs bs), .dat (bx wd)]) := by
  obtain ⟨nm, own⟩ := p
  have M := G.mb _ hp
  have hn := G.nm _ hp
  dsimp only at M hn ⊢
  obtain ⟨ys, hy1, hy2⟩ := sitems_nb (bs := bs)
  have hyl : ys.length ≤ 10 := by rw [hy1.length_eq]; exact G.ln
  let ob : List Bx := (ys.filter fun q => !decide (q.1 = nm) && !wth own q.2).map (·.2)
  have hob : (ys.filter fun q => !decide (q.1 = nm) && !wth own q.2).map (fun q => bx q.2) = ob.map bx := by show _ = (List.map _ _).map bx; rw [List.map_map]; rfl
  have hol : ob.length ≤ 10 := by
    show (List.map _ _).length ≤ 10
    rw [List.length_map]; exact Nat.le_trans (List.length_filter_le _ _) hyl
  have hany : ∀ b : Bx, ob.any (fun o => ovl b o || tch b o) = hit bs nm own b := by
    intro b
    unfold hit
    rw [← hy1.any_eq]
    show ((ys.filter _).map _).any _ = _
    rw [List.any_map, List.any_filter]
    rfl
  -- others
  have s1 : mOf (oLc (iSq (mSItems (mVar 1))) (gTp 2 (gsCons (gN 9) (gsCons (gN 7) gsNil))) (mAndT (mTst (mOp2 gNeA (mVar 9) (mVar 0))) (mNotT (mTru (mCall mf_within (aD (mVar 3) (aD (mVar 7) aNil)))))) (mVar 7) [9, 7]) [.dat (.str nm), .dat (bxs bs), .dat (bx wd), .dat (bx own), .no, .no, .no, .no, .no, .no]
      = some (.list (ob.map bx), [.dat (.str nm), .dat (bxs bs), .dat (bx wd), .dat (bx own), .no, .no, .no, .no, .no, .no]) := by
    have c1 : compF (gTp 2 (gsCons (gN 9) (gsCons (gN 7) gsNil))) (mAndT (mTst (mOp2 gNeA (mVar 9) (mVar 0))) (mNotT (mTru (mCall mf_within (aD (mVar 3) (aD (mVar 7) aNil)))))) (mVar 7) [9, 7] (ys.map nbd) [.dat (.str nm), .dat (bxs bs), .dat (bx wd), .dat (bx own), .no, .no, .no, .no, .no, .no]
        = some ((ys.filter fun q => !decide (q.1 = nm) && !wth own q.2).map (fun q => bx q.2), [.dat (.str nm), .dat (bxs bs), .dat (bx wd), .dat (bx own), .no, .no, .no, .no, .no, .no]) :=
      compF_filter nbd _ _ ys fun q _ => comp1_e (E1 := [.dat (.str nm), .dat (bxs bs), .dat (bx wd), .dat (bx own), .no, .no, .no, .dat (bx q.2), .no, .dat (.str q.1)]) rfl
        (andT_e (tst_e (op2_e rfl rfl (neS _ _))) fun _ => notT_e (tru_e (callBB (a := own) (b := q.2) rfl rfl (within_ok own q.2)) rfl)) (fun _ => rfl) rfl
    rw [hob] at c1
    have e1 : iSq (mSItems (mVar 1)) [.dat (.str nm), .dat (bxs bs), .dat (bx wd), .dat (bx own), .no, .no, .no, .no, .no, .no] = some (ys.map nbd, [.dat (.str nm), .dat (bxs bs), .dat (bx wd), .dat (bx own), .no, .no, .no, .no, .no, .no]) := by
      unfold iSq; rw [hy2 (mVar 1) _ rfl]; rfl
    exact of_e (lc_e e1 c1 (by rw [List.length_map]; exact Nat.le_trans hol (by decide)))
  -- the sides
  let fdl : List (Str × (Bx → Int → Bx)) → List Pd := fun l => (l.filter fun f => wth (f.2 own nm.length) wd && !hit bs nm own (f.2 own nm.length)).map fun f => (f.1, f.2 own nm.length)
  have L := loopF_split (t := gN 6) (f := (sSeq (sAsg 7 (mCall mf_label_box (aD (mVar 3) (aD (mVar 6) (aD (mCb gLen (mCons (mVar 0) mNil)) aNil)))))
      (sSeq (sAsg 8 (mNotV (mCb gAny (mCons (mOf (oLc (iSq (mVar 4)) (gN 9) mYes (mOrV (mCall mf_overlap (aD (mVar 7) (aD (mVar 9) aNil))) (mCall mf_touch (aD (mVar 7) (aD (mVar 9) aNil)))) [9])) mNil))))
      (sIf (mAndT (mTru (mCall mf_within (aD (mVar 7) (aD (mVar 2) aNil)))) (mAndT (mTru (mVar 8)) (mNotT (mTru (mCall mf_overlap (aD (mVar 7) (aD (mVar 3) aNil))))))) (sApp 5 (mTup (mCons (mVar 6) (mCons (mVar 7) mNil)))) sNx))))
    (fun f : Str × (Bx → Int → Bx) => PyData.str f.1) (fun pre E => ∃ x y z : Sl, E = [.dat (.str nm), .dat (bxs bs), .dat (bx wd), .dat (bx own), .dat (.list (ob.map bx)), .own (.lst ((fdl pre).map pd)), x, y, z, .no])
    sides sides [] [.dat (.str nm), .dat (bxs bs), .dat (bx wd), .dat (bx own), .dat (.list (ob.map bx)), .own (.lst []), .no, .no, .no, .no] rfl ⟨.no, .no, .no, rfl⟩ ?_
  · obtain ⟨E', e1, x, y, z, rfl⟩ := L
    refine fn_e (seq_e (asg_e (op2_e rfl rfl (ix_kvs G hp))) (seq_e (asg_e s1) (seq_e (asgO_e (lst_e rfl (Nat.zero_le _))) (seq_e (for_e (E1 := [.dat (.str nm), .dat (bxs bs), .dat (bx wd), .dat (bx own), .dat (.list (ob.map bx)), .own (.lst []), .no, .no, .no, .no]) rfl e1) (ret_e rfl)))))
  · rintro pre ⟨sx, sf⟩ post E hz ⟨x, y, z, rfl⟩
    have hs : (sx, sf) ∈ sides := by rw [hz]; simp
    have hpl : pre.length ≤ 4 := by
      have := congrArg List.length hz
      rw [List.length_append] at this
      have h4 : sides.length = 4 := rfl
      omega
    have hfl : (fdl pre).length ≤ 4 := by
      show (List.map _ _).length ≤ 4
      rw [List.length_map]
      exact Nat.le_trans (List.length_filter_le _ _) hpl
    have hap : fdl (pre ++ [(sx, sf)]) = if wth (sf own nm.length) wd && !hit bs nm own (sf own nm.length) then fdl pre ++ [(sx, sf own nm.length)] else fdl pre := by
      show (List.filter _ (pre ++ [(sx, sf)])).map _ = _
      rw [List.filter_append, List.map_append]
      by_cases hq : (wth (sf own nm.length) wd && !hit bs nm own (sf own nm.length)) = true
      · rw [if_pos hq, List.filter_cons, if_pos hq]; rfl
      · rw [if_neg hq, List.filter_cons, if_neg hq]; simp [fdl]
    generalize fdl pre = fd at hfl hap ⊢
    rw [hap]
    have hc : compF (gN 9) mYes (mOrV (mCall mf_overlap (aD (mVar 7) (aD (mVar 9) aNil))) (mCall mf_touch (aD (mVar 7) (aD (mVar 9) aNil)))) [9] (ob.map bx) [.dat (.str nm), .dat (bxs bs), .dat (bx wd), .dat (bx own), .dat (.list (ob.map bx)), .own (.lst (fd.map pd)), .dat (.str sx), .dat (bx (sf own nm.length)), z, .no]
        = some (ob.map (fun o => PyData.bool (ovl (sf own nm.length) o || tch (sf own nm.length) o)), [.dat (.str nm), .dat (bxs bs), .dat (bx wd), .dat (bx own), .dat (.list (ob.map bx)), .own (.lst (fd.map pd)), .dat (.str sx), .dat (bx (sf own nm.length)), z, .no]) :=
      compF_all bx _ ob fun o _ => comp1_y (E1 := [.dat (.str nm), .dat (bxs bs), .dat (bx wd), .dat (bx own), .dat (.list (ob.map bx)), .own (.lst (fd.map pd)), .dat (.str sx), .dat (bx (sf own nm.length)), z, .dat (bx o)]) rfl
        (orV_e (callBB (a := sf own nm.length) (b := o) rfl rfl (overlap_ok _ _)) (callBB (a := sf own nm.length) (b := o) rfl rfl (touch_ok _ _))) rfl
    have h8 : mNotV (mCb gAny (mCons (mOf (oLc (iSq (mVar 4)) (gN 9) mYes (mOrV (mCall mf_overlap (aD (mVar 7) (aD (mVar 9) aNil))) (mCall mf_touch (aD (mVar 7) (aD (mVar 9) aNil)))) [9])) mNil)) [.dat (.str nm), .dat (bxs bs), .dat (bx wd), .dat (bx own), .dat (.list (ob.map bx)), .own (.lst (fd.map pd)), .dat (.str sx), .dat (bx (sf own nm.length)), z, .no]
        = some (.bool (!hit bs nm own (sf own nm.length)), [.dat (.str nm), .dat (bxs bs), .dat (bx wd), .dat (bx own), .dat (.list (ob.map bx)), .own (.lst (fd.map pd)), .dat (.str sx), .dat (bx (sf own nm.length)), z, .no]) := by
      refine notV_e (cb_e (cons_e (of_e (lc_e (E1 := [.dat (.str nm), .dat (bxs bs), .dat (bx wd), .dat (bx own), .dat (.list (ob.map bx)), .own (.lst (fd.map pd)), .dat (.str sx), .dat (bx (sf own nm.length)), z, .no]) rfl hc ?_)) rfl) ?_)
      · rw [List.length_map]; exact Nat.le_trans hol (by decide)
      · rw [← hany]; exact any_map _ ob
    refine ⟨[.dat (.str nm), .dat (bxs bs), .dat (bx wd), .dat (bx own), .dat (.list (ob.map bx)), .own (.lst (fd.map pd)), .dat (.str sx), y, z, .no], _, rfl, .inl (seq_e (asg_e (call_label hs rfl rfl rfl hn.2)) (seq_e (asg_e h8) (if_b (r := some (.nx [.dat (.str nm), .dat (bxs bs), .dat (bx wd), .dat (bx own), .dat (.list (ob.map bx)), .own (.lst ((if wth (sf own nm.length) wd && !hit bs nm own (sf own nm.length) then fd ++ [(sx, sf own nm.length)] else fd).map pd)), .dat (.str sx), .dat (bx (sf own nm.length)), .dat (.bool (!hit bs nm own (sf own nm.length))), .no]))
      (andT_e (tru_e (callBB (a := sf own nm.length) (b := wd) rfl rfl (within_ok _ _)) rfl) fun _ => andT_e (tru_e rfl rfl) fun _ => notT_e (tru_e (callBB (a := sf own nm.length) (b := own) rfl rfl (overlap_ok _ _)) rfl)) (fun hb => ?_) (fun hb => ?_)))), _, _, _, rfl⟩
    · rw [lb_ovl M hs] at hb
      have hb' : (wth (sf own nm.length) wd && !hit bs nm own (sf own nm.length)) = true := by simpa using hb
      rw [if_pos hb', List.map_append]
      exact app_x rfl (tup_e rfl (show (2 : Nat) ≤ sizeLine by decide)) rfl rfl (by rw [List.length_map]; exact Nat.lt_of_le_of_lt hfl (by decide))
    · rw [lb_ovl M hs] at hb
      have hb' : ¬ (wth (sf own nm.length) wd && !hit bs nm own (sf own nm.length)) = true := by simpa using hb
      rw [if_neg hb']
      rfl
/-! ### the law's own places -/
theorem keys_kvs (bs : List Nb) : keysD (kvs bs) = some (bs.map fun p => PyData.str p.1) := by
  unfold keysD
  rw [isTag_kvs]
  show some ((kvs bs).map (·.1)) = _
  unfold kvs
  rw [List.map_map]; rfl
theorem ix2 {E : En} {i j : Nat} {bs : List Nb} (G : Gb bs) {p : Nb} (h : p ∈ bs) (hi : E[i]? = some (.dat (bxs bs))) (hj : E[j]? = some (.dat (.str p.1))) : mOp2 gIx (mVar i) (mVar j) E = some (bx p.2, E) := by
  refine op2_e (E1 := E) (d := bxs bs) (d' := .str p.1) ?_ ?_ (ix_kvs G h)
  · unfold mVar; rw [hi]
  · unfold mVar; rw [hj]
theorem callHH {E : En} {f g : MX} {a b : Bx} (hf : f E = some (bx a, E)) (hg : g E = some (bx b, E)) (A : Sb a) (B : Sb b) : mCall mf__law_holds (aD f (aD g aNil)) E = some (.bool (wth b a), E) := by
  have e2 : aD f (aD g aNil) E = some ([.d (bx a), .d (bx b)], E) := by
    unfold aD; rw [hf]; show (((g E).bind _).bind _) = _; rw [hg]; rfl
  exact call_e (Ec := [.dat (bx a), .dat (bx b)]) e2 (by simp [slotsOf]) (holds_ok A B)
theorem callF {fh : MF} {E : En} {f : MX} {d r : PyData} (hf : f E = some (d, E)) (h : fh [.dat d] = some (r, [.dat d])) : mCall fh (aD f aNil) E = some (r, E) := by
  have e2 : aD f aNil E = some ([.d d], E) := by
    unfold aD; rw [hf]; rfl
  exact call_e (Ec := [.dat d]) e2 (by simp [slotsOf]) h
theorem asgT_e {E E' E1 : En} {f : MX} {t : MTg} {d : PyData} (h : f E = some (d, E1)) (h2 : t d E1 = some E') : sAsgT t f E = some (.nx E') := asgT4 h h2
theorem spots_ok {bs : List Nb} (G : Gb bs) {p : Nb} (hp : p ∈ bs) {wd : Bx} (W : Sb wd) : mf__law_spots [.dat (bxs bs), .dat (bx wd), .dat (.str p.1)] = some (.list ((spt bs wd p).map pd), [.dat (bxs bs), .dat (bx wd), .dat (.str p.1)]) := by
  obtain ⟨nm, own⟩ := p
  have M := G.mb _ hp
  have hn := G.nm _ hp
  dsimp only at M hn ⊢
  have k0 : (1 : Int) ≤ nm.length := by omega
  have k1 : (nm.length : Int) ≤ 10 := by omega
  let fdl : List (Str × (Bx → Int → Bx)) → List Pd := fun l => (l.filter fun f => wth (f.2 own nm.length) wd && !hit bs nm own (f.2 own nm.length)).map fun f => (f.1, f.2 own nm.length)
  let rows : List PyData := sides.map fun f => .tuple [.str f.1, .int (f.2 own nm.length).w, .int (f.2 own nm.length).s]
  have L := loopF_split (t := gTp 3 (gsCons (gN 10) (gsCons (gN 11) (gsCons (gN 12) gsNil)))) (f := (sSeq (sAsg 13 (mTup (mCons (mVar 11) (mCons (mOp2 gAdd (mVar 11) (mVar 7)) (mCons (mVar 12) (mCons (mOp2 gAdd (mVar 12) (mC (.int 1))) mNil))))))
  (sSeq (sAsg 14 (mCall mf__law_holds (aD (mVar 1) (aD (mVar 13) aNil))))
  (sSeq (sForD 0 keysD (gN 15) (sIf (mAndT (mTst (mOp2 gNeA (mVar 15) (mVar 2))) (mNotT (mTru (mCall mf__law_holds (aD (mOp2 gIx (mVar 0) (mVar 15)) (aD (mOp2 gIx (mVar 0) (mVar 2)) aNil)))))) (sIf (mTst (mOp2 gGt (mCb gLen (mCons (mOf (oLc (iSq (mCall mf__law_squares (aD (mOp2 gIx (mVar 0) (mVar 15)) aNil))) (gN 16) (mTst (mOp2 gInA (mVar 16) (mCall mf__law_near (aD (mVar 13) aNil)))) (mVar 16) [16])) mNil)) (mC (.int 0)))) (sAsg 14 (mC (.bool false))) sNx) sNx))
  (sIf (mTru (mVar 14)) (sApp 9 (mTup (mCons (mVar 10) (mCons (mVar 13) mNil)))) sNx)))))
    (fun f : Str × (Bx → Int → Bx) => .tuple [.str f.1, .int (f.2 own nm.length).w, .int (f.2 own nm.length).s])
    (fun pre E => ∃ a b c d e g : Sl, E = [.dat (bxs bs), .dat (bx wd), .dat (.str nm), .dat (.int own.w), .dat (.int own.e), .dat (.int own.s), .dat (.int own.n), .dat (.int nm.length), .dat (.list rows), .own (.lst ((fdl pre).map pd)), a, b, c, d, e, g, .no])
    sides sides [] [.dat (bxs bs), .dat (bx wd), .dat (.str nm), .dat (.int own.w), .dat (.int own.e), .dat (.int own.s), .dat (.int own.n), .dat (.int nm.length), .dat (.list rows), .own (.lst []), .no, .no, .no, .no, .no, .no, .no] rfl ⟨.no, .no, .no, .no, .no, .no, rfl⟩ ?_
  · obtain ⟨E', e1, a, b, c, d, e, g, rfl⟩ := L
    have z3 : (3 : Nat) ≤ sizeLine := by decide
    refine fn_e (seq_e (asgT_e (E' := [.dat (bxs bs), .dat (bx wd), .dat (.str nm), .dat (.int own.w), .dat (.int own.e), .dat (.int own.s), .dat (.int own.n), .no, .no, .no, .no, .no, .no, .no, .no, .no, .no]) (ix2 G hp rfl rfl) rfl) (seq_e (asg_e (cb_e (cons_e rfl rfl) (len_str hn.2))) (seq_e (asg_e (of_e (w := .lst rows) (lst_e (cons_e (tup_e (cons_e rfl (cons_e rfl rfl)) z3) (cons_e (tup_e (cons_e rfl (cons_e rfl rfl)) z3) (cons_e (tup_e (cons_e rfl (cons_e (op2_e rfl rfl rfl) rfl)) z3) (cons_e (tup_e (cons_e rfl (cons_e rfl (cons_e (op2_e rfl rfl rfl) rfl))) z3) rfl)))) (show (4 : Nat) ≤ sizeLine by decide))))
      (seq_e (asgO_e (lst_e rfl (Nat.zero_le _))) (seq_e (for_e (E1 := [.dat (bxs bs), .dat (bx wd), .dat (.str nm), .dat (.int own.w), .dat (.int own.e), .dat (.int own.s), .dat (.int own.n), .dat (.int nm.length), .dat (.list rows), .own (.lst []), .no, .no, .no, .no, .no, .no, .no]) rfl e1) (ret_e rfl))))))
  · rintro pre ⟨sx, sf⟩ post E hz ⟨a, b, c, d, e, g, rfl⟩
    have hs : (sx, sf) ∈ sides := by rw [hz]; simp
    have hpl : pre.length ≤ 4 := by
      have := congrArg List.length hz
      rw [List.length_append] at this
      have h4 : sides.length = 4 := rfl
      omega
    have hfl : (fdl pre).length ≤ 4 := by
      show (List.map _ _).length ≤ 4
      rw [List.length_map]
      exact Nat.le_trans (List.length_filter_le _ _) hpl
    have hap : fdl (pre ++ [(sx, sf)]) = if wth (sf own nm.length) wd && !hit bs nm own (sf own nm.length) then fdl pre ++ [(sx, sf own nm.length)] else fdl pre := by
      show (List.filter _ (pre ++ [(sx, sf)])).map _ = _
      rw [List.filter_append, List.map_append]
      by_cases hq : (wth (sf own nm.length) wd && !hit bs nm own (sf own nm.length)) = true
      · rw [if_pos hq, List.filter_cons, if_pos hq]; rfl
      · rw [if_neg hq, List.filter_cons, if_neg hq]; simp [fdl]
    generalize fdl pre = fd at hfl hap ⊢
    rw [hap]
    have B := lb_sb M k0 k1 hs
    have hbx : (⟨(sf own nm.length).w, (sf own nm.length).w + nm.length, (sf own nm.length).s, (sf own nm.length).s + 1⟩ : Bx) = sf own nm.length := by
      simp only [sides, List.mem_cons, List.not_mem_nil, or_false, Prod.mk.injEq] at hs
      rcases hs with ⟨_, rfl⟩ | ⟨_, rfl⟩ | ⟨_, rfl⟩ | ⟨_, rfl⟩ <;> simp only [lbE, lbW, lbN, lbS, Bx.mk.injEq, true_and, and_true] <;> omega
    dsimp only at B hbx hap ⊢
    generalize sf own nm.length = lb at B hbx hap ⊢
    -- the boxes, one by one
    have L2 := loopF_split (t := gN 15) (f := sIf (mAndT (mTst (mOp2 gNeA (mVar 15) (mVar 2))) (mNotT (mTru (mCall mf__law_holds (aD (mOp2 gIx (mVar 0) (mVar 15)) (aD (mOp2 gIx (mVar 0) (mVar 2)) aNil)))))) (sIf (mTst (mOp2 gGt (mCb gLen (mCons (mOf (oLc (iSq (mCall mf__law_squares (aD (mOp2 gIx (mVar 0) (mVar 15)) aNil))) (gN 16) (mTst (mOp2 gInA (mVar 16) (mCall mf__law_near (aD (mVar 13) aNil)))) (mVar 16) [16])) mNil)) (mC (.int 0)))) (sAsg 14 (mC (.bool false))) sNx) sNx)
      (fun p : Nb => PyData.str p.1)
      (fun pr E => ∃ x : Sl, E = [.dat (bxs bs), .dat (bx wd), .dat (.str nm), .dat (.int own.w), .dat (.int own.e), .dat (.int own.s), .dat (.int own.n), .dat (.int nm.length), .dat (.list rows), .own (.lst (fd.map pd)), .dat (.str sx), .dat (.int lb.w), .dat (.int lb.s), .dat (bx lb), .dat (.bool (wth lb wd && !hit pr nm own lb)), x, .no])
      bs bs [] [.dat (bxs bs), .dat (bx wd), .dat (.str nm), .dat (.int own.w), .dat (.int own.e), .dat (.int own.s), .dat (.int own.n), .dat (.int nm.length), .dat (.list rows), .own (.lst (fd.map pd)), .dat (.str sx), .dat (.int lb.w), .dat (.int lb.s), .dat (bx lb), .dat (.bool (wth lb wd)), g, .no] rfl ⟨g, by simp [hit]⟩ ?_
    · obtain ⟨E2, e2, x, rfl⟩ := L2
      refine ⟨[.dat (bxs bs), .dat (bx wd), .dat (.str nm), .dat (.int own.w), .dat (.int own.e), .dat (.int own.s), .dat (.int own.n), .dat (.int nm.length), .dat (.list rows), .own (.lst (fd.map pd)), .dat (.str sx), .dat (.int lb.w), .dat (.int lb.s), d, e, g, .no], _, rfl, .inl (seq_e (E1 := [.dat (bxs bs), .dat (bx wd), .dat (.str nm), .dat (.int own.w), .dat (.int own.e), .dat (.int own.s), .dat (.int own.n), .dat (.int nm.length), .dat (.list rows), .own (.lst (fd.map pd)), .dat (.str sx), .dat (.int lb.w), .dat (.int lb.s), .dat (bx lb), e, g, .no]) (asg_x (E1 := [.dat (bxs bs), .dat (bx wd), .dat (.str nm), .dat (.int own.w), .dat (.int own.e), .dat (.int own.s), .dat (.int own.n), .dat (.int nm.length), .dat (.list rows), .own (.lst (fd.map pd)), .dat (.str sx), .dat (.int lb.w), .dat (.int lb.s), d, e, g, .no]) (d := bx lb) ?_ rfl) (seq_e (asg_e (callHH (a := wd) (b := lb) rfl rfl W B)) (seq_e (E1 := [.dat (bxs bs), .dat (bx wd), .dat (.str nm), .dat (.int own.w), .dat (.int own.e), .dat (.int own.s), .dat (.int own.n), .dat (.int nm.length), .dat (.list rows), .own (.lst (fd.map pd)), .dat (.str sx), .dat (.int lb.w), .dat (.int lb.s), .dat (bx lb), .dat (.bool (wth lb wd && !hit bs nm own lb)), x, .no]) ?_
        (if_b (r := some (.nx [.dat (bxs bs), .dat (bx wd), .dat (.str nm), .dat (.int own.w), .dat (.int own.e), .dat (.int own.s), .dat (.int own.n), .dat (.int nm.length), .dat (.list rows), .own (.lst ((if wth lb wd && !hit bs nm own lb then fd ++ [(sx, lb)] else fd).map pd)), .dat (.str sx), .dat (.int lb.w), .dat (.int lb.s), .dat (bx lb), .dat (.bool (wth lb wd && !hit bs nm own lb)), x, .no])) (tru_e rfl rfl) (fun hb => ?_) (fun hb => ?_))))), _, _, _, _, _, _, rfl⟩
      · have hb2 : bx lb = .tuple [.int lb.w, .int (lb.w + nm.length), .int lb.s, .int (lb.s + 1)] := by rw [← congrArg bx hbx]; rfl
        rw [hb2]
        exact tup_e (cons_e rfl (cons_e (op2_e rfl rfl rfl) (cons_e rfl (cons_e (op2_e rfl rfl rfl) rfl)))) (show (4 : Nat) ≤ sizeLine by decide)
      · unfold sForD dictAt
        show (keysD (kvs bs)).bind _ = _
        rw [keys_kvs, Option.bind_some]
        exact e2
      · rw [if_pos hb, List.map_append]
        exact app_x rfl (tup_e rfl (show (2 : Nat) ≤ sizeLine by decide)) rfl rfl (by rw [List.length_map]; exact Nat.lt_of_le_of_lt hfl (by decide))
      · rw [if_neg (by rw [hb]; exact Bool.false_ne_true)]
        rfl
    · rintro pr q po E hq ⟨x, rfl⟩
      have hqm : q ∈ bs := by rw [hq]; simp
      have Q := (G.mb _ hqm).sb
      have hh : hit (pr ++ [q]) nm own lb = (hit pr nm own lb || (!decide (q.1 = nm) && !wth own q.2 && (ovl lb q.2 || tch lb q.2))) := by simp [hit]
      rw [hh]
      refine ⟨[.dat (bxs bs), .dat (bx wd), .dat (.str nm), .dat (.int own.w), .dat (.int own.e), .dat (.int own.s), .dat (.int own.n), .dat (.int nm.length), .dat (.list rows), .own (.lst (fd.map pd)), .dat (.str sx), .dat (.int lb.w), .dat (.int lb.s), .dat (bx lb), .dat (.bool (wth lb wd && !hit pr nm own lb)), .dat (.str q.1), .no], _, rfl, .inl (if_b (r := some (.nx [.dat (bxs bs), .dat (bx wd), .dat (.str nm), .dat (.int own.w), .dat (.int own.e), .dat (.int own.s), .dat (.int own.n), .dat (.int nm.length), .dat (.list rows), .own (.lst (fd.map pd)), .dat (.str sx), .dat (.int lb.w), .dat (.int lb.s), .dat (bx lb), .dat (.bool (wth lb wd && !(hit pr nm own lb || (!decide (q.1 = nm) && !wth own q.2 && (ovl lb q.2 || tch lb q.2))))), .dat (.str q.1), .no]))
        (andT_e (tst_e (op2_e rfl rfl (neS _ _))) fun _ => notT_e (tru_e (callHH (a := q.2) (b := own) (ix2 G hqm rfl rfl) (ix2 G hp rfl rfl) Q M.sb) rfl)) (fun hb => ?_) (fun hb => ?_)), _, rfl⟩
      · rw [hb]
        refine if_b (tst_e (more0 (cross_in (la := sqs q.2) (lb := near lb) rfl (callF (ix2 G hqm rfl rfl) (squares_ok Q)) (fun d => callB (b := lb) rfl (near_ok B)) (le36 Q)) (near_iff B Q))) (fun h2 => ?_) (fun h2 => ?_)
        · rw [h2]
          refine asg_x rfl ?_
          simp
        · rw [h2]
          simp
          rfl
      · rw [hb]
        simp
        rfl
end Bo

namespace Bo
open PySem PySem.Spec PyProof.Rows L2 Dm DmP
/-! overlap -/
/-! ### dicts by names -/
def dv (f : Nb → PyData) (bs : List Nb) : List (PyData × PyData) := bs.map fun p => (.str p.1, f p)
theorem isTag_dv (f : Nb → PyData) (bs : List Nb) : isTag (dv f bs) = false := by cases bs <;> rfl
theorem look_dv (f : Nb → PyData) : ∀ {bs : List Nb}, (bs.map (·.1)).Nodup → ∀ {p : Nb}, p ∈ bs → look (dv f bs) (.str p.1) = some (f p)
  | [], _, _, h => by cases h
  | b :: bs, nd, p, h => by
    rw [List.map_cons, List.nodup_cons] at nd
    unfold look dv
    rw [List.map_cons, List.find?_cons]
    by_cases e : b.1 = p.1
    · have : p = b := by
        rcases List.mem_cons.mp h with z | z
        · exact z
        · exact absurd (List.mem_map.mpr ⟨p, z, e.symm⟩) nd.1
      subst this
      show ((match (p.1 == p.1) with | true => _ | false => _) : Option _).map _ = _
      rw [beq_self_eq_true]; rfl
    · have hp : p ∈ bs := by
        rcases List.mem_cons.mp h with z | z
        · subst z; exact absurd rfl e
        · exact z
      show ((match (b.1 == p.1) with | true => _ | false => _) : Option _).map _ = _
      rw [beq_eq_false_iff_ne.mpr e]
      exact look_dv f nd.2 hp
theorem ix_dv {f : Nb → PyData} {bs : List Nb} (nd : (bs.map (·.1)).Nodup) {p : Nb} (h : p ∈ bs) : gIx (.dict (dv f bs)) (.str p.1) = some (f p) := by
  show (dAsk (dv f bs) (.str p.1)).bind id = _
  unfold dAsk
  show (if (true && !isTag (dv f bs)) = true then _ else _ : Option _).bind id = _
  rw [isTag_dv, if_pos (show (true && !false) = true from rfl), look_dv f nd h]
  rfl
theorem keys_dv (f : Nb → PyData) (bs : List Nb) : keysD (dv f bs) = some (bs.map fun p => PyData.str p.1) := by
  unfold keysD
  rw [isTag_dv]
  show some ((dv f bs).map (·.1)) = _
  unfold dv
  rw [List.map_map]; rfl
theorem putD_new (f : Nb → PyData) (bs : List Nb) {x : Str} (v : PyData) (h : x ∉ bs.map (·.1)) : putD (dv f bs) (.str x) v = dv f bs ++ [(.str x, v)] := by
  unfold putD
  rw [if_neg]
  rw [List.any_eq_true]
  rintro ⟨q, h1, h2⟩
  unfold dv at h1
  obtain ⟨p, h3, rfl⟩ := List.mem_map.mp h1
  have : (p.1 == x) = true := h2
  exact h (List.mem_map.mpr ⟨p, h3, by simpa using this⟩)
theorem put_dv (f : Nb → PyData) (bs : List Nb) (p : Nb) (h : p.1 ∉ bs.map (·.1)) (hl : bs.length < 1000) : ownPut (.dK (dv f bs)) (.str p.1) (f p) = some (.dK (dv f (bs ++ [p]))) := by
  show (if isKD (.str p.1) = true ∧ (dv f bs).length < sizeLine then some (Own.dK (putD (dv f bs) (.str p.1) (f p))) else none) = _
  rw [if_pos ⟨rfl, by unfold dv; rw [List.length_map]; exact Nat.lt_of_lt_of_le hl (by decide)⟩, putD_new f bs _ h]
  unfold dv
  rw [List.map_append]; rfl
/-- the lists that stand under names -/
def lv (f : Nb → List Pd) (p : Nb) : PyData := .list ((f p).map pd)
theorem plain_pds (l : List Pd) : PyData.plainAll (l.map pd) = true := by
  induction l with
  | nil => rfl
  | cons q l ih => rw [List.map_cons, PyData.plainAll, ih]; rfl
theorem depth_pds (l : List Pd) : PyData.depthAll (l.map pd) ≤ 2 := by
  induction l with
  | nil => exact Nat.zero_le _
  | cons q l ih =>
    rw [List.map_cons]
    show max (PyData.depth (pd q)) (PyData.depthAll (l.map pd)) ≤ 2
    exact Nat.max_le.mpr ⟨Nat.le_refl 2, ih⟩
theorem depth_lv (f : Nb → List Pd) (p : Nb) : (lv f p).depth ≤ 3 := Nat.succ_le_succ (depth_pds _)
theorem plain_lv (f : Nb → List Pd) (p : Nb) : (lv f p).plain = true := plain_pds _
theorem eqOk_lv (f : Nb → List Pd) (p : Nb) : eqOk (lv f p) (lv f p) = true := by
  unfold eqOk
  rw [plain_lv, Nat.min_self, decide_eq_true (Nat.le_trans (depth_lv f p) (by decide))]
  rfl
theorem valsOk_dv (f : Nb → List Pd) (bs : List Nb) : Dm.valsOk (dv (lv f) bs) = true := by
  unfold Dm.valsOk dv
  rw [List.all_map, List.all_eq_true]
  intro p _
  show ((lv f p).plain && decide ((lv f p).depth ≤ 50)) = true
  rw [plain_lv, decide_eq_true (Nat.le_trans (depth_lv f p) (by decide))]
  rfl
theorem hits_dv (f : Nb → List Pd) {bs : List Nb} (nd : (bs.map (·.1)).Nodup) : ∀ ys : List Nb, (∀ p ∈ ys, p ∈ bs) → hitsD (dv (lv f) bs) (dv (lv f) ys) = true
  | [], _ => rfl
  | p :: ys, h => by
    unfold dv
    rw [List.map_cons]
    unfold Dm.hitsD
    have := look_dv (lv f) nd (h p (by simp))
    unfold dv at this
    dsimp only at this ⊢
    rw [this]
    dsimp only
    rw [PySem.SeqAt.eqv_refl_plain _ (plain_lv f p), Bool.true_and]
    exact hits_dv f nd ys fun q hq => h q (by simp [hq])
theorem ne_dv (f : Nb → List Pd) {bs ys : List Nb} (nd : (bs.map (·.1)).Nodup) (hp : ys.Perm bs) : gNeA (.dict (dv (lv f) ys)) (.dict (dv (lv f) bs)) = some (.bool false) := by
  show (if dictOk _ _ = true then some (PyData.bool (!eqDict _ _)) else none) = _
  have h1 : dictOk (dv (lv f) ys) (dv (lv f) bs) = true := by
    unfold dictOk
    rw [isTag_dv, isTag_dv, valsOk_dv, valsOk_dv]; rfl
  have h2 : eqDict (dv (lv f) ys) (dv (lv f) bs) = true := by
    unfold eqDict
    rw [hits_dv f nd ys fun p h => hp.mem_iff.mp h]
    unfold dv
    rw [List.length_map, List.length_map, hp.length_eq]
    simp
  rw [if_pos h1, h2]; rfl
/-- names in order -/
theorem sorted_nb {bs : List Nb} (G : Gb bs) : ∃ ys : List Nb, ys.Perm bs ∧ gSortedA [bxs bs] = some (.list (ys.map fun p => PyData.str p.1)) := by
  refine ⟨bs.mergeSort fun p q => leS p.1 q.1, List.mergeSort_perm _ _, ?_⟩
  show (if isTag (kvs bs) = true then none else (allS ((kvs bs).map (·.1))).bind _) = _
  rw [isTag_kvs, if_neg Bool.false_ne_true]
  have e : (kvs bs).map (·.1) = (bs.map (·.1)).map PyData.str := by unfold kvs; rw [List.map_map, List.map_map]; rfl
  rw [e, allS_of, Option.bind_some, if_pos (by rw [List.length_map]; exact Nat.lt_of_le_of_lt G.ln (by decide))]
  rw [← List.map_mergeSort (r := fun p q : Nb => leS p.1 q.1) (s := leS) (f := fun p : Nb => p.1) (fun a _ b _ => rfl), List.map_map]
  rfl
section
variable {α : Type} {t : MTg} {ek ev : MX} {vs : List Nat} {W : En}
theorem compD_new (φ : α → PyData) (k : α → Nb) (f : Nb → PyData) : ∀ (ys : List α) (pre : List Nb), (pre ++ ys.map k).length < 1000 → ((pre ++ ys.map k).map (·.1)).Nodup → (∀ a ∈ ys, ∃ E1, t (φ a) W = some E1 ∧ ek E1 = some (.str (k a).1, E1) ∧ ev E1 = some (f (k a), E1) ∧ wipeE E1 vs = W) →
    compD t mYes ek ev vs (ys.map φ) W (dv f pre) = some (dv f (pre ++ ys.map k), W)
  | [], pre, _, _, _ => by simp [compD]
  | a :: ys, pre, hl, nd, h => by
    obtain ⟨E1, e1, e2, e3, e4⟩ := h a (by simp)
    rw [List.map_cons]
    unfold compD
    rw [e1, Option.bind_some]
    show (ek E1).bind _ = _
    rw [e2, Option.bind_some]
    show (ev E1).bind _ = _
    rw [e3, Option.bind_some]
    have hn : (k a).1 ∉ pre.map (·.1) := by
      rw [List.map_cons, List.map_append, List.map_cons] at nd
      have := (List.nodup_append.mp nd).2.2
      intro z
      exact this _ z _ (by simp) rfl
    have hlp : pre.length < 1000 := by rw [List.length_append] at hl; omega
    rw [if_pos ⟨rfl, by unfold dv; rw [List.length_map]; exact Nat.lt_of_lt_of_le hlp (by decide)⟩]
    show compD t mYes ek ev vs (ys.map φ) (wipeE E1 vs) (putD (dv f pre) (.str (k a).1) (f (k a))) = _
    rw [e4, putD_new f pre _ hn]
    have e5 : dv f pre ++ [(.str (k a).1, f (k a))] = dv f (pre ++ [k a]) := by unfold dv; rw [List.map_append]; rfl
    rw [e5, compD_new φ k f ys (pre ++ [k a]) (by simpa using hl) (by simpa using nd) fun b hb => h b (by simp [hb])]
    simp
end
theorem all_ok {bs : List Nb} (G : Gb bs) (wd : Bx) : ∃ ys : List Nb, ys.Perm bs ∧ mf_all_places [.dat (bxs bs), .dat (bx wd)] = some (.dict (dv (lv (spt bs wd)) ys), [.dat (bxs bs), .dat (bx wd)]) := by
  obtain ⟨ys, h1, h2⟩ := sorted_nb G
  refine ⟨ys, h1, fn_e (E' := [.dat (bxs bs), .dat (bx wd), .no]) (ret_e (of_e (w := .dK (dv (lv (spt bs wd)) ys)) ?_))⟩
  have c := compD_new (t := gN 2) (ek := mVar 2) (ev := mCall mf_places_for (aD (mVar 2) (aD (mVar 0) (aD (mVar 1) aNil)))) (vs := [2]) (W := [.dat (bxs bs), .dat (bx wd), .no]) (fun p : Nb => PyData.str p.1) id (lv (spt bs wd)) ys []
    (by rw [List.nil_append, List.map_id, h1.length_eq]; exact Nat.lt_of_le_of_lt G.ln (by decide)) (by rw [List.nil_append, List.map_id]; exact (h1.map _).nodup_iff.mpr G.nd) (fun p hp => ⟨[.dat (bxs bs), .dat (bx wd), .dat (.str p.1)], rfl, rfl, call_e (as := [.d (.str p.1), .d (bxs bs), .d (bx wd)]) rfl (by simp [slotsOf]) (places_ok G (h1.mem_iff.mp hp) wd), rfl⟩)
  rw [List.nil_append, List.map_id] at c
  have i1 : iSq (mCb gSortedA (mCons (mVar 0) mNil)) [.dat (bxs bs), .dat (bx wd), .no] = some (ys.map fun p => PyData.str p.1, [.dat (bxs bs), .dat (bx wd), .no]) := sq_l (cb_e (cons_e rfl rfl) h2)
  show oDc _ _ _ _ _ _ [.dat (bxs bs), .dat (bx wd), .no] = _
  unfold oDc
  rw [i1, Option.bind_some]
  show (compD _ _ _ _ [2] (ys.map fun p => PyData.str p.1) [.dat (bxs bs), .dat (bx wd), .no] []).bind _ = _
  rw [show ([] : List (PyData × PyData)) = dv (lv (spt bs wd)) [] from rfl, c]
  rfl
/-! ### two boxes together -/
theorem lawtog_ok {a b : Bx} (A : Sb a) (B : Sb b) (ha : a.n - a.s = 1) (hb : b.n - b.s = 1) : mf__law_together [.dat (bx a), .dat (bx b)] = some (.bool (tog a b), [.dat (bx a), .dat (bx b)]) := by
  have t1 : mTst (mOp2 gGt (mCb gLen (mCons (mOf (oLc (iSq (mCall mf__law_squares (aD (mVar 0) aNil))) (gN 2) (mTst (mOp2 gInA (mVar 2) (mCall mf__law_squares (aD (mVar 1) aNil)))) (mVar 2) [2])) mNil)) (mC (.int 0))) [.dat (bx a), .dat (bx b), .no]
      = some (ovl a b, [.dat (bx a), .dat (bx b), .no]) := tst_e (more0 (cross_in (la := sqs a) (lb := sqs b) rfl (callB rfl (squares_ok A)) (fun d => callB (b := b) rfl (squares_ok B)) (le36 A)) (ovl_iff A B))
  cases ho : ovl a b with
  | true =>
    rw [ho] at t1
    have : tog a b = false := by unfold tog; rw [ho]; rfl
    rw [this]
    exact fn_e (seq_rt (o := .nx []) (if_t t1 (ret_e rfl)))
  | false =>
    rw [ho] at t1
    have e : tog a b = (!(a.s == b.s) || (!(a.e == b.w) && !(b.e == a.w))) := by
      unfold tog
      rw [ho]
      have : (a.n == b.n) = (a.s == b.s) := by
        rw [Bool.eq_iff_iff, beq_iff_eq, beq_iff_eq]; omega
      rw [this]
      generalize (a.s == b.s) = x
      generalize (a.e == b.w) = y
      generalize (b.e == a.w) = z
      cases x <;> cases y <;> cases z <;> rfl
    rw [e]
    exact fn_e (seq_e (if_f t1 rfl) (ret_e (orV_e (op2_e rfl rfl rfl) (andV_e (op2_e rfl rfl rfl) (op2_e rfl rfl rfl)))))
/-! ### drawn boxes -/
def words : List Str := ["a", "bay", "elm", "fort", "go", "hill", "inn"]
theorem words_at {k : Nat} (h : k < 7) : ∃ x, words[k]? = some x ∧ 1 ≤ x.length ∧ x.length ≤ 10 := by
  have : ∀ k : Fin 7, ∃ x, words[k.val]? = some x ∧ 1 ≤ x.length ∧ x.length ≤ 10 := by
    intro k
    match k with
    | ⟨0, _⟩ => exact ⟨_, rfl, by decide +kernel, by decide +kernel⟩
    | ⟨1, _⟩ => exact ⟨_, rfl, by decide +kernel, by decide +kernel⟩
    | ⟨2, _⟩ => exact ⟨_, rfl, by decide +kernel, by decide +kernel⟩
    | ⟨3, _⟩ => exact ⟨_, rfl, by decide +kernel, by decide +kernel⟩
    | ⟨4, _⟩ => exact ⟨_, rfl, by decide +kernel, by decide +kernel⟩
    | ⟨5, _⟩ => exact ⟨_, rfl, by decide +kernel, by decide +kernel⟩
    | ⟨6, _⟩ => exact ⟨_, rfl, by decide +kernel, by decide +kernel⟩
  exact this ⟨k, h⟩
theorem words_nd : words.Nodup := by decide +kernel
theorem lake_out : ("lake" : Str) ∉ words := by decide +kernel
def lakeB : Nb := ("lake", ⟨0, 9, 0, 7⟩)
theorem boxes_ok {ns : List Int} (S : Sc ns) {m : Nat} {o : Own} (P : Pl ns m o) (hm : m ≤ 800000) {many : Nat} (h7 : many ≤ 7) : ∃ bs o', mf__law_boxes [.own o, .dat (.int many)] = some (bxs bs, [.own o', .dat (.int many)]) ∧ Gb bs ∧ Pl ns (m + 50) o' := by
  have L := loopF_split (t := gN 4) (f := (sSeq (sDrop (mCall mf__law_next (aSl 0 aNil)))
  (sSeq (sAsg 5 (mCall mf__law_draw (aSl 0 (aD (mC (.int 7)) aNil))))
  (sSeq (sAsg 6 (mCall mf__law_draw (aSl 0 (aD (mC (.int 5)) aNil))))
  (sPut 2 (mOp2 gIx (mVar 3) (mVar 4)) (mTup (mCons (mVar 5) (mCons (mOp2 gAdd (mOp2 gAdd (mVar 5) (mC (.int 1))) (mCall mf__law_draw (aSl 0 (aD (mC (.int 2)) aNil)))) (mCons (mVar 6) (mCons (mOp2 gAdd (mOp2 gAdd (mVar 6) (mC (.int 1))) (mCall mf__law_draw (aSl 0 (aD (mC (.int 2)) aNil)))) mNil))))))))))
    (fun k : Nat => PyData.int (0 + (k : Int)))
    (fun pre E => ∃ (w : Own) (bs : List Nb) (x y z : Sl), E = [.own w, .dat (.int many), .own (.dK (dv (fun p => bx p.2) bs)), .dat (.list (words.map PyData.str)), x, y, z] ∧ Pl ns (m + 5 * pre.length) w ∧ bs.map (·.1) = words.take pre.length ∧ (∀ p ∈ bs, Mb p.2) ∧ (∀ p ∈ bs, 1 ≤ p.1.length ∧ p.1.length ≤ 10))
    (List.range many) (List.range many) [] [.own o, .dat (.int many), .own (.dK []), .dat (.list (words.map PyData.str)), .no, .no, .no] rfl ⟨o, [], .no, .no, .no, rfl, P, rfl, by simp, by simp⟩ ?_
  · obtain ⟨E', e1, w, bs, x, y, z, rfl, P1, hk, hmb, hnm⟩ := L
    rw [List.length_range] at P1 hk
    have hbl : bs.length ≤ 7 := by
      have := congrArg List.length hk
      rw [List.length_map, List.length_take] at this
      omega
    have nd : (bs.map (·.1)).Nodup := by rw [hk]; exact words_nd.sublist (List.take_sublist _ _)
    obtain ⟨r, o', d1, r0, r1, P2⟩ := call_draw (E := [.own w, .dat (.int many), .own (.dK (dv (fun p => bx p.2) bs)), .dat (.list (words.map PyData.str)), x, y, z]) (i := 0) (l := 3) rfl S P1 (by omega) (by decide) (by decide)
    have pre : ∀ {tl : MS} {r : Option Out}, tl [.own w, .dat (.int many), .own (.dK (dv (fun p => bx p.2) bs)), .dat (.list (words.map PyData.str)), x, y, z] = r → (sSeq (sAsgO 2 oDK) (sSeq (sAsg 3 (mOf (oLst (mCons (mC (.str "a")) (mCons (mC (.str "bay")) (mCons (mC (.str "elm")) (mCons (mC (.str "fort")) (mCons (mC (.str "go")) (mCons (mC (.str "hill")) (mCons (mC (.str "inn")) mNil))))))))))
        (sSeq (sFor (iR1 (mCons (mVar 1) mNil)) (gN 4) (sSeq (sDrop (mCall mf__law_next (aSl 0 aNil)))
        (sSeq (sAsg 5 (mCall mf__law_draw (aSl 0 (aD (mC (.int 7)) aNil))))
        (sSeq (sAsg 6 (mCall mf__law_draw (aSl 0 (aD (mC (.int 5)) aNil))))
        (sPut 2 (mOp2 gIx (mVar 3) (mVar 4)) (mTup (mCons (mVar 5) (mCons (mOp2 gAdd (mOp2 gAdd (mVar 5) (mC (.int 1))) (mCall mf__law_draw (aSl 0 (aD (mC (.int 2)) aNil)))) (mCons (mVar 6) (mCons (mOp2 gAdd (mOp2 gAdd (mVar 6) (mC (.int 1))) (mCall mf__law_draw (aSl 0 (aD (mC (.int 2)) aNil)))) mNil))))))))))
        tl))) [.own o, .dat (.int many), .no, .no, .no, .no, .no] = r := fun {tl r} h => by
      refine seq_e (asgO_e rfl) (seq_e (asg_e (of_e (w := .lst (words.map PyData.str)) (lst_e rfl (show (7 : Nat) ≤ sizeLine by decide)))) (seq_e (for_e (E1 := [.own o, .dat (.int many), .own (.dK []), .dat (.list (words.map PyData.str)), .no, .no, .no]) (r1_e rfl ⟨by omega, by omega⟩) ?_) h))
      exact e1
    by_cases hr : r = 0
    · refine ⟨bs ++ [lakeB], o', fn_e (E' := [.own o', .dat (.int many), .dat (bxs (bs ++ [lakeB])), .dat (.list (words.map PyData.str)), x, y, z]) (pre (seq_e (E1 := [.own o', .dat (.int many), .own (.dK (dv (fun p => bx p.2) (bs ++ [lakeB]))), .dat (.list (words.map PyData.str)), x, y, z]) (if_t (tst_e (b := true) (op2_e d1 rfl ?_)) (put_x (v := bx ⟨0, 9, 0, 7⟩) (k := .str "lake") (E1 := [.own o', .dat (.int many), .own (.dK (dv (fun p => bx p.2) bs)), .dat (.list (words.map PyData.str)), x, y, z]) (E2 := [.own o', .dat (.int many), .own (.dK (dv (fun p => bx p.2) bs)), .dat (.list (words.map PyData.str)), x, y, z]) rfl rfl rfl rfl (put_dv (fun p => bx p.2) bs lakeB ?_ (by omega)) rfl)) (ret_e rfl))), ⟨?_, ?_, ?_, ?_⟩, P2.le (by omega)⟩
      · subst hr; rfl
      · rw [hk]; exact fun z => lake_out (List.mem_of_mem_take z)
      · rw [List.map_append, List.nodup_append]
        refine ⟨nd, by simp, fun a ha b hb => ?_⟩
        simp at hb
        subst hb
        rw [hk] at ha
        rintro rfl
        exact lake_out (List.mem_of_mem_take ha)
      · intro p hp
        rcases List.mem_append.mp hp with z | z
        · exact hmb p z
        · simp at z; subst z; constructor <;> decide
      · intro p hp
        rcases List.mem_append.mp hp with z | z
        · exact hnm p z
        · simp at z; subst z; exact ⟨by decide +kernel, by decide +kernel⟩
      · rw [List.length_append]; simp; omega
    · refine ⟨bs, o', fn_e (E' := [.own o', .dat (.int many), .dat (bxs bs), .dat (.list (words.map PyData.str)), x, y, z]) (pre (seq_e (if_f (tst_e (b := false) (op2_e d1 rfl ?_)) rfl) (ret_e rfl))), ⟨nd, hmb, hnm, by omega⟩, P2.le (by omega)⟩
      show some (PyData.bool (r == 0)) = _
      rw [beq_eq_false_iff_ne.mpr hr]
  · rintro pre a post E hz ⟨w, bs, x, y, z, rfl, P1, hk, hmb, hnm⟩
    obtain ⟨ea, ha, hp⟩ := range_at hz
    have hbl : bs.length ≤ 7 := by
      have := congrArg List.length hk
      rw [List.length_map, List.length_take] at this
      omega
    obtain ⟨wx, hwx, hw1, hw2⟩ := words_at (k := a) (by omega)
    obtain ⟨o1, d1, P2⟩ := call_next (E := [.own w, .dat (.int many), .own (.dK (dv (fun p => bx p.2) bs)), .dat (.list (words.map PyData.str)), .dat (.int (0 + (a : Int))), y, z]) (i := 0) rfl S P1 (by omega)
    obtain ⟨r2, o2, d2, r20, r21, P3⟩ := call_draw (E := [.own o1, .dat (.int many), .own (.dK (dv (fun p => bx p.2) bs)), .dat (.list (words.map PyData.str)), .dat (.int (0 + (a : Int))), y, z]) (i := 0) (l := 7) rfl S P2 (by omega) (by decide) (by decide)
    obtain ⟨r3, o3, d3, r30, r31, P4⟩ := call_draw (E := [.own o2, .dat (.int many), .own (.dK (dv (fun p => bx p.2) bs)), .dat (.list (words.map PyData.str)), .dat (.int (0 + (a : Int))), .dat (.int r2), z]) (i := 0) (l := 5) rfl S P3 (by omega) (by decide) (by decide)
    obtain ⟨r4, o4, d4, r40, r41, P5⟩ := call_draw (E := [.own o3, .dat (.int many), .own (.dK (dv (fun p => bx p.2) bs)), .dat (.list (words.map PyData.str)), .dat (.int (0 + (a : Int))), .dat (.int r2), .dat (.int r3)]) (i := 0) (l := 2) rfl S P4 (by omega) (by decide) (by decide)
    obtain ⟨r5, o5, d5, r50, r51, P6⟩ := call_draw (E := [.own o4, .dat (.int many), .own (.dK (dv (fun p => bx p.2) bs)), .dat (.list (words.map PyData.str)), .dat (.int (0 + (a : Int))), .dat (.int r2), .dat (.int r3)]) (i := 0) (l := 2) rfl S P5 (by omega) (by decide) (by decide)
    have hnew : wx ∉ bs.map (·.1) := by
      rw [hk]
      intro z
      obtain ⟨j, hj⟩ := List.mem_iff_getElem?.mp z
      rw [List.getElem?_take] at hj
      split at hj
      · rename_i hlt
        have h1 := (List.getElem?_eq_some_iff.mp hj)
        have h2 := (List.getElem?_eq_some_iff.mp hwx)
        obtain ⟨g1, g2⟩ := h1
        obtain ⟨g3, g4⟩ := h2
        have := (List.getElem_inj (h₀ := g1) (h₁ := g3) words_nd).mp (g2.trans g4.symm)
        omega
      · cases hj
    have hix : gIx (.list (words.map PyData.str)) (.int (0 + (a : Int))) = some (.str wx) := by
      show L2.atI _ _ = _
      rw [Int.zero_add]
      exact Dm.atI_nat (by rw [List.getElem?_map, hwx]; rfl)
    refine ⟨[.own w, .dat (.int many), .own (.dK (dv (fun p => bx p.2) bs)), .dat (.list (words.map PyData.str)), .dat (.int (0 + (a : Int))), y, z], [.own o5, .dat (.int many), .own (.dK (dv (fun p => bx p.2) (bs ++ [(wx, ⟨r2, r2 + 1 + r4, r3, r3 + 1 + r5⟩)]))), .dat (.list (words.map PyData.str)), .dat (.int (0 + (a : Int))), .dat (.int r2), .dat (.int r3)], rfl, .inl ?_, o5, bs ++ [(wx, ⟨r2, r2 + 1 + r4, r3, r3 + 1 + r5⟩)], _, _, _, rfl, ?_, ?_, ?_, ?_⟩
    · refine seq_e (drop_e d1) (seq_e (asg_e d2) (seq_e (asg_e d3) (put_x (v := bx ⟨r2, r2 + 1 + r4, r3, r3 + 1 + r5⟩) (k := .str wx) (tup_e (cons_e rfl (cons_e (op2_e (op2_e rfl rfl rfl) d4 rfl) (cons_e rfl (cons_e (op2_e (op2_e rfl rfl rfl) d5 rfl) rfl)))) (show (4 : Nat) ≤ sizeLine by decide)) (op2_e rfl rfl hix) rfl rfl (put_dv (fun p => bx p.2) bs (wx, ⟨r2, r2 + 1 + r4, r3, r3 + 1 + r5⟩) hnew (by omega)) rfl)))
    · rw [List.length_append]; exact P6.le (by simp; omega)
    · rw [List.map_append, hk, List.length_append]
      show words.take pre.length ++ [wx] = words.take (pre.length + 1)
      rw [List.take_add_one, ← ea, hwx]; rfl
    · intro p hp
      rcases List.mem_append.mp hp with z | z
      · exact hmb p z
      · simp at z; subst z; constructor <;> dsimp only <;> omega
    · intro p hp
      rcases List.mem_append.mp hp with z | z
      · exact hnm p z
      · simp at z; subst z; exact ⟨hw1, hw2⟩
end Bo

namespace Tr
open PySem PySem.Spec PyProof.Rows L2 Dm DmP Bo
/-! is_free -/
def ms_is_free : MS := (sSeq (sAsg 4 (mOp2 gIx (mOp2 gIx (mOp2 gIx (mVar 0) (mVar 2)) (mVar 3)) (mC (.int 1))))
  (sRet (mCb gAll (mCons (mOf (oLc (iSq (mVar 1)) (gTp 2 (gsCons (gN 5) (gsCons (gN 6) gsNil))) mYes (mCall mf_together (aD (mVar 4) (aD (mOp2 gIx (mOp2 gIx (mOp2 gIx (mVar 0) (mVar 5)) (mVar 6)) (mC (.int 1))) aNil))) [5, 6])) mNil))))
def mf_is_free : MF := mFn 4 7 [] ms_is_free
/-! first_placed -/
def ms_first_placed (self_ : MF) : MS := (sSeq (sIf (mNotT (mTru (mVar 1))) (sRet (mVar 2)) sNx)
  (sSeq (sFor (iR1 (mCons (mCb gLen (mCons (mOp2 gIx (mVar 0) (mOp2 gIx (mVar 1) (mC (.int 0)))) mNil)) mNil)) (gN 3) (sIf (mTru (mCall mf_is_free (aD (mVar 0) (aD (mVar 2) (aD (mOp2 gIx (mVar 1) (mC (.int 0))) (aD (mVar 3) aNil)))))) (sSeq (sAsg 4 (mCall self_ (aD (mVar 0) (aD (mSl (mVar 1) (pSo (mC (.int 1))) pNo) (aD (mOp2 gAdd (mVar 2) (mTup (mCons (mTup (mCons (mOp2 gIx (mVar 1) (mC (.int 0))) (mCons (mVar 3) mNil))) mNil))) aNil)))))
  (sIf (mTst (mOp2 gNotN (mVar 4) (mC .none))) (sRet (mVar 4)) sNx)) sNx))
  (sRet (mC .none))))
def mf_first_placed : Nat → MF
  | 0 => fun _ => none
  | n + 1 => mFn 3 5 [] (ms_first_placed (mf_first_placed n))
/-! clash -/
def ms_clash : MS := (sSeq (sAsg 4 (mOp2 gIx (mOp2 gIx (mOp2 gIx (mVar 0) (mVar 2)) (mVar 3)) (mC (.int 1))))
  (sRet (mOp2 gIx (mOf (oLc (iSq (mVar 1)) (gN 5) (mNotT (mTru (mCall mf_together (aD (mVar 4) (aD (mOp2 gIx (mOp2 gIx (mOp2 gIx (mVar 0) (mOp2 gIx (mVar 5) (mC (.int 0)))) (mOp2 gIx (mVar 5) (mC (.int 1)))) (mC (.int 1))) aNil))))) (mVar 5) [5])) (mC (.int 0)))))
def mf_clash : MF := mFn 4 6 [] ms_clash
/-! tree -/
def ms_tree (self_ : MF) : MS := (sSeq (sAsg 3 (mOp2 gIx (mVar 1) (mC (.int 0))))
  (sSeq (sAsgO 4 (oLst mNil))
  (sSeq (sFor (iR1 (mCons (mCb gLen (mCons (mOp2 gIx (mVar 0) (mVar 3)) mNil)) mNil)) (gN 5) (sIf (mTru (mCall mf_is_free (aD (mVar 0) (aD (mVar 2) (aD (mVar 3) (aD (mVar 5) aNil)))))) (sApp 4 (mCall self_ (aD (mVar 0) (aD (mSl (mVar 1) (pSo (mC (.int 1))) pNo) (aD (mOp2 gAdd (mVar 2) (mTup (mCons (mTup (mCons (mVar 3) (mCons (mVar 5) mNil))) mNil))) aNil))))) (sApp 4 (mTup (mCons (mC (.str "over")) (mCons (mCall mf_clash (aD (mVar 0) (aD (mVar 2) (aD (mVar 3) (aD (mVar 5) aNil))))) mNil))))))
  (sRet (mTup (mCons (mC (.str "name")) (mCons (mVar 3) (mCons (mCb gTupOf (mCons (mFrz 4) mNil)) mNil))))))))
def mf_tree : Nat → MF
  | 0 => fun _ => none
  | n + 1 => mFn 3 6 [] (ms_tree (mf_tree n))
/-! placed -/
def ms_placed : MS := (sSeq (sAsg 2 (mCall (mf_first_placed 12) (aD (mVar 0) (aD (mCb gTupOf (mCons (mVar 1) mNil)) (aD (mTup mNil) aNil)))))
  (sRet (mIf (mTst (mOp2 gIsN (mVar 2) (mC .none))) (mTup (mCons (mC (.str "none")) (mCons (mCall (mf_tree 12) (aD (mVar 0) (aD (mCb gTupOf (mCons (mVar 1) mNil)) (aD (mTup mNil) aNil)))) mNil))) (mTup (mCons (mC (.str "placed")) (mCons (mVar 2) mNil))))))
def mf_placed : MF := mFn 2 3 [] ms_placed
/-! fault_of_tree -/
def ms_fault_of_tree (self_ : MF) : MS := (sSeq (sIf (mOrT (mTst (mOp2 gNeA (mOp2 gIx (mVar 2) (mC (.int 0))) (mC (.str "name")))) (mOrT (mNotT (mTru (mVar 1))) (mTst (mOp2 gNotInA (mOp2 gIx (mVar 2) (mC (.int 1))) (mVar 1))))) (sRet (mC (.str "name"))) sNx)
  (sSeq (sIf (mTst (mOp2 gNeA (mCb gLen (mCons (mOp2 gIx (mVar 2) (mC (.int 2))) mNil)) (mCb gLen (mCons (mOp2 gIx (mVar 0) (mOp2 gIx (mVar 2) (mC (.int 1)))) mNil)))) (sRet (mC (.str "branches"))) sNx)
  (sSeq (sAsg 4 (mCb gTupOf (mCons (mOf (oLc (iSq (mVar 1)) (gN 9) (mTst (mOp2 gNeA (mVar 9) (mOp2 gIx (mVar 2) (mC (.int 1))))) (mVar 9) [9])) mNil)))
  (sSeq (sFor (iEn (mCons (mOp2 gIx (mVar 2) (mC (.int 2))) mNil)) (gTp 2 (gsCons (gN 5) (gsCons (gN 6) gsNil))) (sIf (mTst (mOp2 gEqA (mOp2 gIx (mVar 6) (mC (.int 0))) (mC (.str "over")))) (sSeq (sAsg 7 (mOp2 gIx (mVar 6) (mC (.int 1))))
  (sIf (mOrT (mTst (mOp2 gNotInA (mVar 7) (mVar 3))) (mTru (mCall mf_together (aD (mOp2 gIx (mOp2 gIx (mOp2 gIx (mVar 0) (mOp2 gIx (mVar 7) (mC (.int 0)))) (mOp2 gIx (mVar 7) (mC (.int 1)))) (mC (.int 1))) (aD (mOp2 gIx (mOp2 gIx (mOp2 gIx (mVar 0) (mOp2 gIx (mVar 2) (mC (.int 1)))) (mVar 5)) (mC (.int 1))) aNil))))) (sRet (mC (.str "over"))) sNx)) (sSeq (sAsg 8 (mCall self_ (aD (mVar 0) (aD (mVar 4) (aD (mVar 6) (aD (mOp2 gAdd (mVar 3) (mTup (mCons (mTup (mCons (mOp2 gIx (mVar 2) (mC (.int 1))) (mCons (mVar 5) mNil))) mNil))) aNil))))))
  (sIf (mTst (mOp2 gNotN (mVar 8) (mC .none))) (sRet (mVar 8)) sNx))))
  (sRet (mC .none))))))
def mf_fault_of_tree : Nat → MF
  | 0 => fun _ => none
  | n + 1 => mFn 4 10 [] (ms_fault_of_tree (mf_fault_of_tree n))
/-! _law_placed -/
def ms__law_placed : MS := (sSeq (sAsg 2 (mOf (oLst (mCons (mTup mNil) mNil))))
  (sSeq (sFor (iSq (mVar 1)) (gN 3) (sSeq (sAsgO 4 (oLst mNil))
  (sSeq (sFor (iSq (mVar 2)) (gN 5) (sFor (iR1 (mCons (mCb gLen (mCons (mOp2 gIx (mVar 0) (mVar 3)) mNil)) mNil)) (gN 6) (sSeq (sAsg 7 (mOp2 gIx (mOp2 gIx (mOp2 gIx (mVar 0) (mVar 3)) (mVar 6)) (mC (.int 1))))
  (sIf (mTst (mOp2 gEqA (mCb gLen (mCons (mOf (oLc (iSq (mVar 5)) (gN 8) (mNotT (mTru (mCall mf__law_together (aD (mOp2 gIx (mOp2 gIx (mOp2 gIx (mVar 0) (mOp2 gIx (mVar 8) (mC (.int 0)))) (mOp2 gIx (mVar 8) (mC (.int 1)))) (mC (.int 1))) (aD (mVar 7) aNil))))) (mVar 8) [8])) mNil)) (mC (.int 0)))) (sApp 4 (mOp2 gAdd (mVar 5) (mTup (mCons (mTup (mCons (mVar 3) (mCons (mVar 6) mNil))) mNil)))) sNx))))
  (sAsg 2 (mFrz 4)))))
  (sRet (mVar 2))))
def mf__law_placed : MF := mFn 2 9 [] ms__law_placed
/-! _law_shows -/
def ms__law_shows (self_ : MF) : MS := (sSeq (sIf (mOrT (mTst (mOp2 gNeA (mOp2 gIx (mVar 2) (mC (.int 0))) (mC (.str "name")))) (mOrT (mTst (mOp2 gNotInA (mOp2 gIx (mVar 2) (mC (.int 1))) (mVar 1))) (mTst (mOp2 gNeA (mCb gLen (mCons (mOp2 gIx (mVar 2) (mC (.int 2))) mNil)) (mCb gLen (mCons (mOp2 gIx (mVar 0) (mOp2 gIx (mVar 2) (mC (.int 1)))) mNil)))))) (sRet (mC (.bool false))) sNx)
  (sSeq (sAsg 4 (mOf (oLc (iSq (mVar 1)) (gN 8) (mTst (mOp2 gNeA (mVar 8) (mOp2 gIx (mVar 2) (mC (.int 1))))) (mVar 8) [8])))
  (sSeq (sFor (iR1 (mCons (mCb gLen (mCons (mOp2 gIx (mVar 2) (mC (.int 2))) mNil)) mNil)) (gN 5) (sSeq (sAsg 6 (mOp2 gIx (mOp2 gIx (mVar 2) (mC (.int 2))) (mVar 5)))
  (sIf (mTst (mOp2 gEqA (mOp2 gIx (mVar 6) (mC (.int 0))) (mC (.str "over")))) (sSeq (sAsg 7 (mOp2 gIx (mVar 6) (mC (.int 1))))
  (sIf (mOrT (mTst (mOp2 gNotInA (mVar 7) (mVar 3))) (mTru (mCall mf__law_together (aD (mOp2 gIx (mOp2 gIx (mOp2 gIx (mVar 0) (mOp2 gIx (mVar 7) (mC (.int 0)))) (mOp2 gIx (mVar 7) (mC (.int 1)))) (mC (.int 1))) (aD (mOp2 gIx (mOp2 gIx (mOp2 gIx (mVar 0) (mOp2 gIx (mVar 2) (mC (.int 1)))) (mVar 5)) (mC (.int 1))) aNil))))) (sRet (mC (.bool false))) sNx)) (sIf (mNotT (mTru (mCall self_ (aD (mVar 0) (aD (mVar 4) (aD (mVar 6) (aD (mOp2 gAdd (mVar 3) (mOf (oLst (mCons (mTup (mCons (mOp2 gIx (mVar 2) (mC (.int 1))) (mCons (mVar 5) mNil))) mNil)))) aNil))))))) (sRet (mC (.bool false))) sNx))))
  (sRet (mC (.bool true))))))
def mf__law_shows : Nat → MF
  | 0 => fun _ => none
  | n + 1 => mFn 4 9 [] (ms__law_shows (mf__law_shows n))
/-! _law_bent -/
def ms__law_bent : MS := (sSeq (sAsg 2 (mCall mf__law_draw (aSl 0 (aD (mC (.int 4)) aNil))))
  (sSeq (sIf (mOrT (mTst (mOp2 gEqA (mVar 2) (mC (.int 0)))) (mTst (mOp2 gEqA (mOp2 gIx (mVar 1) (mC (.int 2))) (mTup mNil)))) (sRet (mTup (mCons (mC (.str "name")) (mCons (mC (.str "zoo")) (mCons (mOp2 gIx (mVar 1) (mC (.int 2))) mNil))))) sNx)
  (sSeq (sAsg 3 (mCall mf__law_draw (aSl 0 (aD (mCb gLen (mCons (mOp2 gIx (mVar 1) (mC (.int 2))) mNil)) aNil))))
  (sSeq (sAsg 4 (mOp2 gIx (mOp2 gIx (mVar 1) (mC (.int 2))) (mVar 3)))
  (sSeq (sIf (mTst (mOp2 gEqA (mVar 2) (mC (.int 1)))) (sRet (mTup (mCons (mC (.str "name")) (mCons (mOp2 gIx (mVar 1) (mC (.int 1))) (mCons (mOp2 gAdd (mSl (mOp2 gIx (mVar 1) (mC (.int 2))) pNo (pSo (mVar 3))) (mSl (mOp2 gIx (mVar 1) (mC (.int 2))) (pSo (mOp2 gAdd (mVar 3) (mC (.int 1)))) pNo)) mNil))))) sNx)
  (sSeq (sIf (mTst (mOp2 gEqA (mOp2 gIx (mVar 4) (mC (.int 0))) (mC (.str "over")))) (sRet (mTup (mCons (mC (.str "name")) (mCons (mOp2 gIx (mVar 1) (mC (.int 1))) (mCons (mOp2 gAdd (mOp2 gAdd (mSl (mOp2 gIx (mVar 1) (mC (.int 2))) pNo (pSo (mVar 3))) (mTup (mCons (mTup (mCons (mC (.str "over")) (mCons (mTup (mCons (mOp2 gIx (mOp2 gIx (mVar 4) (mC (.int 1))) (mC (.int 0))) (mCons (mOp2 gAdd (mOp2 gIx (mOp2 gIx (mVar 4) (mC (.int 1))) (mC (.int 1))) (mC (.int 1))) mNil))) mNil))) mNil))) (mSl (mOp2 gIx (mVar 1) (mC (.int 2))) (pSo (mOp2 gAdd (mVar 3) (mC (.int 1)))) pNo)) mNil))))) sNx)
  (sRet (mTup (mCons (mC (.str "name")) (mCons (mOp2 gIx (mVar 1) (mC (.int 1))) (mCons (mOp2 gAdd (mOp2 gAdd (mSl (mOp2 gIx (mVar 1) (mC (.int 2))) pNo (pSo (mVar 3))) (mTup (mCons (mTup (mCons (mC (.str "over")) (mCons (mTup (mCons (mOp2 gIx (mVar 1) (mC (.int 1))) (mCons (mVar 3) mNil))) mNil))) mNil))) (mSl (mOp2 gIx (mVar 1) (mC (.int 2))) (pSo (mOp2 gAdd (mVar 3) (mC (.int 1)))) pNo)) mNil)))))))))))
def mf__law_bent : MF := mFn 2 5 [0] ms__law_bent
/-! ### places by names -/
abbrev Row := Str × Nat
def rd (r : Row) : PyData := .tuple [.str r.1, .int (r.2 : Int)]
def tk (l : List Row) : PyData := .tuple (l.map rd)
def nmT (l : List Str) : PyData := .tuple (l.map .str)
structure Pls (D : PyData) (ks : List Str) (F : Str → List Pd) : Prop where
  ix : ∀ x ∈ ks, gIx D (.str x) = some (.list ((F x).map pd))
  sb : ∀ x ∈ ks, ∀ q ∈ F x, Sb q.2 ∧ q.2.n - q.2.s = 1
  cn : ∀ x ∈ ks, (F x).length ≤ 4
def bk (F : Str → List Pd) (r : Row) : Bx := ((F r.1)[r.2]?.map (·.2)).getD ⟨0, 0, 0, 0⟩
structure Vr (ks : List Str) (F : Str → List Pd) (r : Row) : Prop where
  k : r.1 ∈ ks
  l : r.2 < (F r.1).length
def fit (F : Str → List Pd) (taken : List Row) (r : Row) : Bool := taken.all fun q => tog (bk F r) (bk F q)
theorem tog_comm (a b : Bx) : tog a b = tog b a := by
  unfold tog ovl
  have h1 : (a.s == b.s) = (b.s == a.s) := Bool.eq_iff_iff.mpr (by simp only [beq_iff_eq]; omega)
  have h2 : (a.n == b.n) = (b.n == a.n) := Bool.eq_iff_iff.mpr (by simp only [beq_iff_eq]; omega)
  rw [h1, h2]
  generalize decide (a.w < b.e) = x1
  generalize decide (b.w < a.e) = x2
  generalize decide (a.s < b.n) = x3
  generalize decide (b.s < a.n) = x4
  generalize (b.s == a.s) = x5
  generalize (b.n == a.n) = x6
  generalize (a.e == b.w) = x7
  generalize (b.e == a.w) = x8
  cases x1 <;> cases x2 <;> cases x3 <;> cases x4 <;> cases x5 <;> cases x6 <;> cases x7 <;> cases x8 <;> rfl
section
variable {D : PyData} {ks : List Str} {F : Str → List Pd} (S : Pls D ks F)
include S
theorem Pls.get {r : Row} (V : Vr ks F r) : ∃ q, (F r.1)[r.2]? = some q ∧ q.2 = bk F r := by
  refine ⟨(F r.1)[r.2]'V.l, by simp [V.l], ?_⟩
  unfold bk
  rw [List.getElem?_eq_getElem V.l]; rfl
theorem Pls.bkS {r : Row} (V : Vr ks F r) : Sb (bk F r) ∧ (bk F r).n - (bk F r).s = 1 := by
  obtain ⟨q, h1, h2⟩ := S.get V
  rw [← h2]
  exact S.sb _ V.k q (List.mem_of_getElem? h1)
theorem Pls.two {r : Row} (V : Vr ks F r) {E : En} {f g h : MX} (hf : f E = some (D, E)) (hg : g E = some (.str r.1, E)) (hh : h E = some (.int (r.2 : Int), E)) :
    mOp2 gIx (mOp2 gIx (mOp2 gIx f g) h) (mC (.int 1)) E = some (bx (bk F r), E) := by
  obtain ⟨q, h1, h2⟩ := S.get V
  refine op2_e (d := pd q) (op2_e (op2_e hf hg (S.ix _ V.k)) hh ?_) rfl ?_
  · exact Dm.atI_nat (by rw [List.getElem?_map, h1]; rfl)
  · rw [← h2]; rfl
theorem Pls.len {x : Str} (hx : x ∈ ks) {E : En} {f g : MX} (hf : f E = some (D, E)) (hg : g E = some (.str x, E)) :
    mCb gLen (mCons (mOp2 gIx f g) mNil) E = some (.int ((F x).length : Int), E) := by
  refine cb_e (cons_e (op2_e hf hg (S.ix _ hx)) rfl) ?_
  show some (PyData.int (((F x).map pd).length : Int)) = _
  rw [List.length_map]
end
theorem sq_t {E E1 : En} {f : MX} {ds : List PyData} (h : f E = some (.tuple ds, E1)) : iSq f E = some (ds, E1) := by unfold iSq; rw [h]; rfl
theorem all_map {α : Type} (g : α → Bool) (l : List α) : gAll [.list (l.map fun a => PyData.bool (g a))] = some (.bool (l.all g)) := by
  show (asB _).bind _ = _
  rw [asB_map]
  show some (PyData.bool ((l.map g).all id)) = _
  rw [List.all_map]; rfl
theorem callTT {fh : MF} {f g : MX} {E : En} {a b : Bx} {d : PyData} (h0 : f E = some (bx a, E)) (h1 : g E = some (bx b, E)) (h : fh [.dat (bx a), .dat (bx b)] = some (d, [.dat (bx a), .dat (bx b)])) : mCall fh (aD f (aD g aNil)) E = some (d, E) :=
  call_e (as := [.d (bx a), .d (bx b)]) (Ec := [.dat (bx a), .dat (bx b)]) (aD_e h0 (aD_e h1 rfl)) (by simp [slotsOf]) h
theorem var_e {E : En} {i : Nat} {d : PyData} (h : E[i]? = some (.dat d)) : mVar i E = some (d, E) := by unfold mVar; rw [h]
section
variable {D : PyData} {ks : List Str} {F : Str → List Pd} (S : Pls D ks F)
include S
theorem is_free_ok {taken : List Row} {r : Row} (V : Vr ks F r) (T : ∀ q ∈ taken, Vr ks F q) (hl : taken.length ≤ 1000) :
    mf_is_free [.dat D, .dat (tk taken), .dat (.str r.1), .dat (.int (r.2 : Int))] = some (.bool (fit F taken r), [.dat D, .dat (tk taken), .dat (.str r.1), .dat (.int (r.2 : Int))]) := by
  have c : compF (gTp 2 (gsCons (gN 5) (gsCons (gN 6) gsNil))) mYes (mCall mf_together (aD (mVar 4) (aD (mOp2 gIx (mOp2 gIx (mOp2 gIx (mVar 0) (mVar 5)) (mVar 6)) (mC (.int 1))) aNil))) [5, 6] (taken.map rd) [.dat D, .dat (tk taken), .dat (.str r.1), .dat (.int (r.2 : Int)), .dat (bx (bk F r)), .no, .no]
      = some (taken.map (fun q => PyData.bool (tog (bk F r) (bk F q))), [.dat D, .dat (tk taken), .dat (.str r.1), .dat (.int (r.2 : Int)), .dat (bx (bk F r)), .no, .no]) :=
    compF_all rd _ taken fun q hq => comp1_y (E1 := [.dat D, .dat (tk taken), .dat (.str r.1), .dat (.int (r.2 : Int)), .dat (bx (bk F r)), .dat (.str q.1), .dat (.int (q.2 : Int))]) rfl (callTT (a := bk F r) (b := bk F q) rfl (S.two (T q hq) rfl rfl rfl) (together_ok _ _)) rfl
  refine fn_e (seq_e (asg_e (S.two V rfl rfl rfl)) (ret_e (cb_e (cons_e (of_e (lc_e (sq_t rfl) c ?_)) rfl) (all_map _ taken))))
  rw [List.length_map]; exact Nat.le_trans hl (by decide)
/-- all ways to go on -/
def comp (F : Str → List Pd) : List Str → List Row → List (List Row)
  | [], taken => [taken]
  | x :: names, taken => ((List.range (F x).length).filter fun k => fit F taken (x, k)).flatMap fun k => comp F names (taken ++ [(x, k)])
omit S in
theorem head_flatMap {α β : Type} (l : List α) (p : α → Bool) (g : α → List β) : ((l.filter p).flatMap g).head? = l.findSome? fun a => if p a then (g a).head? else none := by
  induction l with
  | nil => rfl
  | cons a l ih =>
    rw [List.filter_cons, List.findSome?_cons]
    by_cases h : p a = true
    · rw [if_pos h, if_pos h, List.flatMap_cons, List.head?_append, ih]
      cases (g a).head? <;> rfl
    · rw [if_neg h, if_neg h, ih]
omit S in
theorem loopF_find {α : Type} {t : MTg} {f : MS} (φ : α → PyData) (P : En → Prop) (g : α → Option PyData) (R : PyData → En → Prop) : ∀ (ys : List α) (E : En), P E →
    (∀ a ∈ ys, ∀ E, P E → ∃ E1, t (φ a) E = some E1 ∧ ((g a = none ∧ ∃ E2, (f E1 = some (.nx E2) ∨ f E1 = some (.ct E2)) ∧ P E2) ∨ ∃ d E2, g a = some d ∧ f E1 = some (.rt d E2) ∧ R d E2)) →
    (ys.findSome? g = none ∧ ∃ E', loopF t f (ys.map φ) E = some (.nx E') ∧ P E') ∨ ∃ d E', ys.findSome? g = some d ∧ loopF t f (ys.map φ) E = some (.rt d E') ∧ R d E'
  | [], E, hP, _ => .inl ⟨rfl, E, rfl, hP⟩
  | a :: ys, E, hP, h => by
    obtain ⟨E1, e1, h1⟩ := h a (by simp) E hP
    rcases h1 with ⟨hg, E2, e2, hP2⟩ | ⟨d, E2, hg, e2, hr⟩
    · have ih := loopF_find φ P g R ys E2 hP2 fun b hb => h b (by simp [hb])
      have st : loopF t f ((a :: ys).map φ) E = loopF t f (ys.map φ) E2 := by
        rw [List.map_cons]
        conv => lhs; unfold loopF
        rw [e1]; show (f E1).bind _ = _
        rcases e2 with e2 | e2 <;> (rw [e2]; rfl)
      rw [st, List.findSome?_cons, hg]
      exact ih
    · refine .inr ⟨d, E2, by rw [List.findSome?_cons, hg], ?_, hr⟩
      rw [List.map_cons]
      unfold loopF
      rw [e1]; show (f E1).bind _ = _
      rw [e2]; rfl
omit S in
theorem cut1 {d : PyData} {r : List PyData} : Dm.cutD (d :: r) (some 1) none = r := by
  unfold Dm.cutD
  have h1 : HT.sIx (d :: r).length 0 (some 1) = 1 := by
    show (if (1 : Int) < 0 then ((1 : Int) + ((d :: r).length : Int)).toNat else min (1 : Int).toNat (d :: r).length) = 1
    rw [if_neg (by decide), List.length_cons]
    show min 1 (r.length + 1) = 1
    omega
  have h2 : HT.sIx (d :: r).length (d :: r).length none = (d :: r).length := rfl
  rw [h1, h2, List.drop_succ_cons, List.drop_zero, List.length_cons]
  exact List.take_of_length_le (by omega)
omit S in
theorem add_tk {taken : List Row} {r : Row} (hl : taken.length ≤ 1000) : gAdd (tk taken) (.tuple [rd r]) = some (tk (taken ++ [r])) := by
  show (if (taken.map rd).length + 1 ≤ sizeLine then _ else _) = _
  rw [if_pos (by rw [List.length_map]; exact Nat.le_trans (Nat.succ_le_succ hl) (by decide))]
  unfold tk
  rw [List.map_append]; rfl
omit S in
theorem rest_e {E : En} {i : Nat} {x : Str} {names : List Str} (h : E[i]? = some (.dat (nmT (x :: names)))) : mSl (mVar i) (pSo (mC (.int 1))) pNo E = some (nmT names, E) := by
  unfold mSl
  rw [var_e h, Option.bind_some]
  have p1 : pSo (mC (.int 1)) E = some (some 1, E) := rfl
  show (pSo (mC (.int 1)) E).bind _ = _
  rw [p1, Option.bind_some]
  have p2 : pNo E = some (none, E) := rfl
  show (pNo E).bind _ = _
  rw [p2, Option.bind_some]
  show (some (PyData.tuple (Dm.cutD (PyData.str x :: names.map .str) (some 1) none))).bind (fun z => some (z, E)) = _
  rw [cut1]; rfl
omit S in
theorem first_e {E : En} {i : Nat} {x : Str} {names : List Str} (h : E[i]? = some (.dat (nmT (x :: names)))) : mOp2 gIx (mVar i) (mC (.int 0)) E = some (.str x, E) :=
  op2_e (var_e h) rfl (Dm.atI_nat (i := 0) rfl)
omit S in
theorem row_e {E : En} {f g : MX} {r : Row} (hf : f E = some (.str r.1, E)) (hg : g E = some (.int (r.2 : Int), E)) : mTup (mCons (mTup (mCons f (mCons g mNil))) mNil) E = some (.tuple [rd r], E) :=
  tup_e (cons_e (tup_e (cons_e hf (cons_e hg rfl)) (show (2 : Nat) ≤ sizeLine by decide)) rfl) (show (1 : Nat) ≤ sizeLine by decide)
theorem vr_new {x : Str} {k : Nat} (hx : x ∈ ks) (hk : k < (F x).length) : Vr ks F (x, k) := ⟨hx, hk⟩
theorem callFree {E : En} {f g h i : MX} {taken : List Row} {r : Row} (V : Vr ks F r) (T : ∀ q ∈ taken, Vr ks F q) (hl : taken.length ≤ 1000) (h1 : f E = some (D, E)) (h2 : g E = some (tk taken, E)) (h3 : h E = some (.str r.1, E)) (h4 : i E = some (.int (r.2 : Int), E)) :
    mCall mf_is_free (aD f (aD g (aD h (aD i aNil)))) E = some (.bool (fit F taken r), E) :=
  call_e (as := [.d D, .d (tk taken), .d (.str r.1), .d (.int (r.2 : Int))]) (Ec := [.dat D, .dat (tk taken), .dat (.str r.1), .dat (.int (r.2 : Int))]) (aD_e h1 (aD_e h2 (aD_e h3 (aD_e h4 rfl)))) (by simp [slotsOf]) (is_free_ok S V T hl)
def optD (o : Option (List Row)) : PyData := match o with
  | none => .none
  | some l => tk l
theorem first_ok : ∀ (n : Nat) (names : List Str) (taken : List Row), names.length < n → (∀ x ∈ names, x ∈ ks) → (∀ q ∈ taken, Vr ks F q) → taken.length + names.length ≤ 1000 →
    mf_first_placed n [.dat D, .dat (nmT names), .dat (tk taken)] = some (optD (comp F names taken).head?, [.dat D, .dat (nmT names), .dat (tk taken)])
  | 0, _, _, h, _, _, _ => by omega
  | n + 1, [], taken, _, _, _, _ => by
    refine fn_e (seq_rt (o := .nx []) (if_t (E1 := [.dat D, .dat (nmT []), .dat (tk taken), .no, .no]) rfl (ret_e rfl)))
  | n + 1, x :: names, taken, hn, hk, T, hl => by
    rw [List.length_cons] at hn hl
    have L := loopF_find (t := gN 3) (f := sIf (mTru (mCall mf_is_free (aD (mVar 0) (aD (mVar 2) (aD (mOp2 gIx (mVar 1) (mC (.int 0))) (aD (mVar 3) aNil)))))) (sSeq (sAsg 4 (mCall (mf_first_placed n) (aD (mVar 0) (aD (mSl (mVar 1) (pSo (mC (.int 1))) pNo) (aD (mOp2 gAdd (mVar 2) (mTup (mCons (mTup (mCons (mOp2 gIx (mVar 1) (mC (.int 0))) (mCons (mVar 3) mNil))) mNil))) aNil)))))
        (sIf (mTst (mOp2 gNotN (mVar 4) (mC .none))) (sRet (mVar 4)) sNx)) sNx) (fun k : Nat => PyData.int (0 + (k : Int))) (fun E => ∃ a b : Sl, E = [.dat D, .dat (nmT (x :: names)), .dat (tk taken), a, b])
      (fun k => if fit F taken (x, k) then ((comp F names (taken ++ [(x, k)])).head?).map tk else none) (fun _ _ => True) (List.range (F x).length) [.dat D, .dat (nmT (x :: names)), .dat (tk taken), .no, .no] ⟨_, _, rfl⟩ (fun k hk2 E ⟨a, b, hE⟩ => by
        subst hE
        have hkl : k < (F x).length := List.mem_range.mp hk2
        have V : Vr ks F (x, k) := ⟨hk x (by simp), hkl⟩
        have e0 : (0 : Int) + (k : Int) = (k : Int) := Int.zero_add _
        rw [e0]
        refine ⟨[.dat D, .dat (nmT (x :: names)), .dat (tk taken), .dat (.int (k : Int)), b], rfl, ?_⟩
        have c1 : mTru (mCall mf_is_free (aD (mVar 0) (aD (mVar 2) (aD (mOp2 gIx (mVar 1) (mC (.int 0))) (aD (mVar 3) aNil))))) [.dat D, .dat (nmT (x :: names)), .dat (tk taken), .dat (.int (k : Int)), b] = some (fit F taken (x, k), [.dat D, .dat (nmT (x :: names)), .dat (tk taken), .dat (.int (k : Int)), b]) :=
          tru_e (callFree S V T (by omega) rfl rfl (first_e rfl) rfl) rfl
        cases hf : fit F taken (x, k) with
        | false =>
          rw [hf] at c1
          exact .inl ⟨by simp, _, .inl (if_f c1 rfl), _, _, rfl⟩
        | true =>
          rw [hf] at c1
          have ih := first_ok n names (taken ++ [(x, k)]) (by omega) (fun y hy => hk y (by simp [hy])) (fun q hq => by
            rcases List.mem_append.mp hq with z | z
            · exact T q z
            · simp at z; subst z; exact V) (by rw [List.length_append]; simp; omega)
          have a4 : mCall (mf_first_placed n) (aD (mVar 0) (aD (mSl (mVar 1) (pSo (mC (.int 1))) pNo) (aD (mOp2 gAdd (mVar 2) (mTup (mCons (mTup (mCons (mOp2 gIx (mVar 1) (mC (.int 0))) (mCons (mVar 3) mNil))) mNil))) aNil))) [.dat D, .dat (nmT (x :: names)), .dat (tk taken), .dat (.int (k : Int)), b]
              = some (optD (comp F names (taken ++ [(x, k)])).head?, [.dat D, .dat (nmT (x :: names)), .dat (tk taken), .dat (.int (k : Int)), b]) :=
            call_e (as := [.d D, .d (nmT names), .d (tk (taken ++ [(x, k)]))]) (aD_e rfl (aD_e (rest_e rfl) (aD_e (op2_e rfl (row_e (r := (x, k)) (first_e rfl) rfl) (add_tk (by omega))) rfl))) (by simp [slotsOf]) ih
          cases hh : (comp F names (taken ++ [(x, k)])).head? with
          | none =>
            rw [hh] at a4
            exact .inl ⟨by simp, _, .inl (if_t c1 (seq_e (asg_e a4) (if_f (E1 := [.dat D, .dat (nmT (x :: names)), .dat (tk taken), .dat (.int (k : Int)), .dat .none]) rfl rfl))), _, _, rfl⟩
          | some l =>
            rw [hh] at a4
            exact .inr ⟨tk l, _, by simp, if_t c1 (seq_e (asg_e a4) (if_t (E1 := [.dat D, .dat (nmT (x :: names)), .dat (tk taken), .dat (.int (k : Int)), .dat (tk l)]) rfl (ret_e rfl))), trivial⟩)
    have hr : ∀ (r : Option Out), loopF (gN 3) (sIf (mTru (mCall mf_is_free (aD (mVar 0) (aD (mVar 2) (aD (mOp2 gIx (mVar 1) (mC (.int 0))) (aD (mVar 3) aNil)))))) (sSeq (sAsg 4 (mCall (mf_first_placed n) (aD (mVar 0) (aD (mSl (mVar 1) (pSo (mC (.int 1))) pNo) (aD (mOp2 gAdd (mVar 2) (mTup (mCons (mTup (mCons (mOp2 gIx (mVar 1) (mC (.int 0))) (mCons (mVar 3) mNil))) mNil))) aNil)))))
        (sIf (mTst (mOp2 gNotN (mVar 4) (mC .none))) (sRet (mVar 4)) sNx)) sNx) ((List.range (F x).length).map fun k : Nat => PyData.int (0 + (k : Int))) [.dat D, .dat (nmT (x :: names)), .dat (tk taken), .no, .no] = r →
        sFor (iR1 (mCons (mCb gLen (mCons (mOp2 gIx (mVar 0) (mOp2 gIx (mVar 1) (mC (.int 0)))) mNil)) mNil)) (gN 3) (sIf (mTru (mCall mf_is_free (aD (mVar 0) (aD (mVar 2) (aD (mOp2 gIx (mVar 1) (mC (.int 0))) (aD (mVar 3) aNil)))))) (sSeq (sAsg 4 (mCall (mf_first_placed n) (aD (mVar 0) (aD (mSl (mVar 1) (pSo (mC (.int 1))) pNo) (aD (mOp2 gAdd (mVar 2) (mTup (mCons (mTup (mCons (mOp2 gIx (mVar 1) (mC (.int 0))) (mCons (mVar 3) mNil))) mNil))) aNil)))))
        (sIf (mTst (mOp2 gNotN (mVar 4) (mC .none))) (sRet (mVar 4)) sNx)) sNx) [.dat D, .dat (nmT (x :: names)), .dat (tk taken), .no, .no] = r := fun r h => by
      have hc := S.cn x (hk x (by simp))
      refine for_e (r1_e (S.len (hk x (by simp)) rfl (first_e rfl)) ⟨by omega, by omega⟩) ?_
      rw [Int.toNat_natCast]
      exact h
    have hh : (comp F (x :: names) taken).head? = (List.range (F x).length).findSome? fun k => if fit F taken (x, k) then (comp F names (taken ++ [(x, k)])).head? else none := head_flatMap _ _ _
    have hm : ((List.range (F x).length).findSome? fun k => if fit F taken (x, k) then (comp F names (taken ++ [(x, k)])).head? else none).map tk = (List.range (F x).length).findSome? fun k => if fit F taken (x, k) then ((comp F names (taken ++ [(x, k)])).head?).map tk else none := by
      induction List.range (F x).length with
      | nil => rfl
      | cons k l ih =>
        rw [List.findSome?_cons, List.findSome?_cons]
        cases fit F taken (x, k) with
        | false => exact ih
        | true =>
          cases (comp F names (taken ++ [(x, k)])).head? with
          | none => exact ih
          | some l => rfl
    rw [hh]
    rcases L with ⟨h1, E', h2, a, b, rfl⟩ | ⟨d, E', h1, h2, _⟩
    · rw [h1] at hm
      have : ((List.range (F x).length).findSome? fun k => if fit F taken (x, k) then (comp F names (taken ++ [(x, k)])).head? else none) = none := by
        cases z : ((List.range (F x).length).findSome? fun k => if fit F taken (x, k) then (comp F names (taken ++ [(x, k)])).head? else none) with
        | none => rfl
        | some l => rw [z] at hm; cases hm
      rw [this]
      exact fn_e (seq_e (E1 := [.dat D, .dat (nmT (x :: names)), .dat (tk taken), .no, .no]) (if_f (E1 := [.dat D, .dat (nmT (x :: names)), .dat (tk taken), .no, .no]) rfl rfl) (seq_e (hr _ h2) (ret_e rfl)))
    · rw [h1] at hm
      obtain ⟨l, z1, z2⟩ := Option.map_eq_some_iff.mp hm
      rw [z1]
      subst z2
      exact fn_e (seq_e (E1 := [.dat D, .dat (nmT (x :: names)), .dat (tk taken), .no, .no]) (if_f (E1 := [.dat D, .dat (nmT (x :: names)), .dat (tk taken), .no, .no]) rfl rfl) (seq_rt (o := .nx []) (hr _ h2)))
end
/-! ### the law's own ways -/
theorem none0' {α : Type} {E : En} {f : MX} {l : List α} {b : Bool} (h : f E = some (.int (l.length : Int), E)) (hb : b = l.isEmpty) : mOp2 gEqA f (mC (.int 0)) E = some (.bool b, E) := by
  refine op2_e h rfl ?_
  show some (PyData.bool ((l.length : Int) == 0)) = _
  rw [hb]
  cases l with
  | nil => rfl
  | cons q l =>
    have : ((q :: l).length : Int) ≠ 0 := by rw [List.length_cons]; omega
    rw [beq_eq_false_iff_ne.mpr this]; rfl
def exts (F : Str → List Pd) (x : Str) (rows : List Row) : List (List Row) := ((List.range (F x).length).filter fun k => fit F rows (x, k)).map fun k => rows ++ [(x, k)]
theorem comp_snoc (F : Str → List Pd) (x : Str) : ∀ (names : List Str) (taken : List Row), comp F (names ++ [x]) taken = (comp F names taken).flatMap (exts F x)
  | [], taken => by
    show ((List.range (F x).length).filter _).flatMap (fun k => [taken ++ [(x, k)]]) = exts F x taken ++ []
    rw [List.append_nil]
    unfold exts
    induction (List.range (F x).length).filter fun k => fit F taken (x, k) with
    | nil => rfl
    | cons k l ih => rw [List.flatMap_cons, ih]; rfl
  | y :: ys, taken => by
    show ((List.range (F y).length).filter _).flatMap (fun k => comp F (ys ++ [x]) (taken ++ [(y, k)])) = _
    have : (fun k => comp F (ys ++ [x]) (taken ++ [(y, k)])) = fun k => (comp F ys (taken ++ [(y, k)])).flatMap (exts F x) := funext fun k => comp_snoc F x ys _
    rw [this, ← List.flatMap_assoc]
    rfl
theorem exts_len {F : Str → List Pd} {x : Str} (h : (F x).length ≤ 4) (rows : List Row) : (exts F x rows).length ≤ 4 := by
  unfold exts
  rw [List.length_map]
  exact Nat.le_trans (List.length_filter_le _ _) (by rw [List.length_range]; exact h)
theorem flat4 {α β : Type} (g : α → List β) (h : ∀ a, (g a).length ≤ 4) (l : List α) : (l.flatMap g).length ≤ 4 * l.length := by
  induction l with
  | nil => simp
  | cons a l ih => rw [List.flatMap_cons, List.length_append, List.length_cons]; have := h a; omega
section
variable {D : PyData} {ks : List Str} {F : Str → List Pd} (S : Pls D ks F)
include S
theorem comp_len : ∀ (names : List Str), (∀ x ∈ names, x ∈ ks) → ∀ taken, (comp F names taken).length ≤ 4 ^ names.length
  | [], _, _ => Nat.le_refl _
  | x :: names, hk, taken => by
    show (List.flatMap _ _).length ≤ _
    have ih := comp_len names fun y hy => hk y (by simp [hy])
    have c := S.cn x (hk x (by simp))
    have : ∀ l : List Nat, (l.flatMap fun k => comp F names (taken ++ [(x, k)])).length ≤ l.length * 4 ^ names.length := by
      intro l
      induction l with
      | nil => simp
      | cons k l ih2 =>
        have := ih (taken ++ [(x, k)])
        rw [List.flatMap_cons, List.length_append, List.length_cons, Nat.add_mul]
        omega
    refine Nat.le_trans (this _) ?_
    rw [List.length_cons, Nat.pow_succ, Nat.mul_comm (4 ^ names.length)]
    exact Nat.mul_le_mul_right _ (Nat.le_trans (List.length_filter_le _ _) (by rw [List.length_range]; exact c))
theorem comp_valid : ∀ (names : List Str), (∀ x ∈ names, x ∈ ks) → ∀ taken, (∀ q ∈ taken, Vr ks F q) → ∀ l ∈ comp F names taken, (∀ q ∈ l, Vr ks F q) ∧ l.length = taken.length + names.length
  | [], _, taken, T, l, hl => by
    have : l = taken := by simpa [comp] using hl
    subst this
    exact ⟨T, rfl⟩
  | x :: names, hk, taken, T, l, hl => by
    obtain ⟨k, h1, h2⟩ := List.mem_flatMap.mp (show l ∈ List.flatMap _ _ from hl)
    have hkl : k < (F x).length := List.mem_range.mp (List.mem_filter.mp h1).1
    have := comp_valid names (fun y hy => hk y (by simp [hy])) (taken ++ [(x, k)]) (fun q hq => by
      rcases List.mem_append.mp hq with z | z
      · exact T q z
      · simp at z; subst z; exact ⟨hk x (by simp), hkl⟩) l h2
    refine ⟨this.1, ?_⟩
    rw [this.2, List.length_append, List.length_cons]; simp; omega
theorem callLT {E : En} {f g : MX} {q r : Row} (Q : Vr ks F q) (R : Vr ks F r) (h1 : f E = some (bx (bk F q), E)) (h2 : g E = some (bx (bk F r), E)) : mCall mf__law_together (aD f (aD g aNil)) E = some (.bool (tog (bk F q) (bk F r)), E) :=
  callTT h1 h2 (lawtog_ok (S.bkS Q).1 (S.bkS R).1 (S.bkS Q).2 (S.bkS R).2)
theorem lawplaced_ok {names : List Str} (hk : ∀ x ∈ names, x ∈ ks) (hl : names.length ≤ 10) : mf__law_placed [.dat D, .dat (.list (names.map .str))] = some (.list ((comp F names []).map tk), [.dat D, .dat (.list (names.map .str))]) := by
  have L := loopF_split (t := gN 3) (f := (sSeq (sAsgO 4 (oLst mNil))
  (sSeq (sFor (iSq (mVar 2)) (gN 5) (sFor (iR1 (mCons (mCb gLen (mCons (mOp2 gIx (mVar 0) (mVar 3)) mNil)) mNil)) (gN 6) (sSeq (sAsg 7 (mOp2 gIx (mOp2 gIx (mOp2 gIx (mVar 0) (mVar 3)) (mVar 6)) (mC (.int 1))))
  (sIf (mTst (mOp2 gEqA (mCb gLen (mCons (mOf (oLc (iSq (mVar 5)) (gN 8) (mNotT (mTru (mCall mf__law_together (aD (mOp2 gIx (mOp2 gIx (mOp2 gIx (mVar 0) (mOp2 gIx (mVar 8) (mC (.int 0)))) (mOp2 gIx (mVar 8) (mC (.int 1)))) (mC (.int 1))) (aD (mVar 7) aNil))))) (mVar 8) [8])) mNil)) (mC (.int 0)))) (sApp 4 (mOp2 gAdd (mVar 5) (mTup (mCons (mTup (mCons (mVar 3) (mCons (mVar 6) mNil))) mNil)))) sNx))))
  (sAsg 2 (mFrz 4))))) PyData.str (fun pre E => ∃ a b c d e : Sl, E = [.dat D, .dat (.list (names.map .str)), .dat (.list ((comp F pre []).map tk)), a, b, c, d, e, .no])
    names names [] [.dat D, .dat (.list (names.map .str)), .dat (.list [.tuple []]), .no, .no, .no, .no, .no, .no] rfl ⟨_, _, _, _, _, rfl⟩ ?_
  · obtain ⟨E', e1, a, b, c, d, e, rfl⟩ := L
    exact fn_e (seq_e (asg_e (of_e (lst_e (cons_e (tup_e rfl (Nat.zero_le _)) rfl) (show (1 : Nat) ≤ sizeLine by decide)))) (seq_e (for_e (sq_l rfl) e1) (ret_e rfl)))
  · rintro pre x post E hz ⟨a, b, c, d, e, rfl⟩
    have hx : x ∈ ks := hk x (by rw [hz]; simp)
    have hpk : ∀ y ∈ pre, y ∈ ks := fun y hy => hk y (by rw [hz]; simp [hy])
    have hpl : pre.length ≤ 9 := by
      have := congrArg List.length hz
      rw [List.length_append, List.length_cons] at this
      omega
    have hfl : (comp F pre []).length ≤ 262144 := Nat.le_trans (comp_len S pre hpk []) (Nat.le_trans (Nat.pow_le_pow_right (by decide) hpl) (by decide))
    have hc := S.cn x hx
    have L2 := loopF_split (t := gN 5) (f := sFor (iR1 (mCons (mCb gLen (mCons (mOp2 gIx (mVar 0) (mVar 3)) mNil)) mNil)) (gN 6) (sSeq (sAsg 7 (mOp2 gIx (mOp2 gIx (mOp2 gIx (mVar 0) (mVar 3)) (mVar 6)) (mC (.int 1))))
      (sIf (mTst (mOp2 gEqA (mCb gLen (mCons (mOf (oLc (iSq (mVar 5)) (gN 8) (mNotT (mTru (mCall mf__law_together (aD (mOp2 gIx (mOp2 gIx (mOp2 gIx (mVar 0) (mOp2 gIx (mVar 8) (mC (.int 0)))) (mOp2 gIx (mVar 8) (mC (.int 1)))) (mC (.int 1))) (aD (mVar 7) aNil))))) (mVar 8) [8])) mNil)) (mC (.int 0)))) (sApp 4 (mOp2 gAdd (mVar 5) (mTup (mCons (mTup (mCons (mVar 3) (mCons (mVar 6) mNil))) mNil)))) sNx)))
      tk (fun pr E => ∃ c d e : Sl, E = [.dat D, .dat (.list (names.map .str)), .dat (.list ((comp F pre []).map tk)), .dat (.str x), .own (.lst ((pr.flatMap (exts F x)).map tk)), c, d, e, .no]) (comp F pre []) (comp F pre []) []
      [.dat D, .dat (.list (names.map .str)), .dat (.list ((comp F pre []).map tk)), .dat (.str x), .own (.lst []), c, d, e, .no] rfl ⟨_, _, _, rfl⟩ ?_
    · obtain ⟨E2, l2, c2, d2, e2, rfl⟩ := L2
      rw [comp_snoc]
      exact ⟨_, _, rfl, .inl (seq_e (asgO_e (lst_e rfl (Nat.zero_le _))) (seq_e (for_e (sq_l rfl) l2) (asg_x rfl rfl))), _, _, _, _, _, rfl⟩
    · rintro pr rows po E hr ⟨c, d, e, rfl⟩
      have hrm : rows ∈ comp F pre [] := by rw [hr]; simp
      obtain ⟨T, hTl⟩ := comp_valid S pre hpk [] (by simp) rows hrm
      have hrl : rows.length ≤ 1000 := by rw [hTl]; simp; omega
      have hprl : pr.length ≤ 262144 := by
        have := congrArg List.length hr
        rw [List.length_append] at this
        omega
      have hal : (pr.flatMap (exts F x)).length ≤ 1048576 := Nat.le_trans (flat4 _ (exts_len hc) pr) (by omega)
      let par : List Nat → List (List Row) := fun js => pr.flatMap (exts F x) ++ (js.filter fun k => fit F rows (x, k)).map fun k => rows ++ [(x, k)]
      have L3 := loopF_split (t := gN 6) (f := (sSeq (sAsg 7 (mOp2 gIx (mOp2 gIx (mOp2 gIx (mVar 0) (mVar 3)) (mVar 6)) (mC (.int 1))))
        (sIf (mTst (mOp2 gEqA (mCb gLen (mCons (mOf (oLc (iSq (mVar 5)) (gN 8) (mNotT (mTru (mCall mf__law_together (aD (mOp2 gIx (mOp2 gIx (mOp2 gIx (mVar 0) (mOp2 gIx (mVar 8) (mC (.int 0)))) (mOp2 gIx (mVar 8) (mC (.int 1)))) (mC (.int 1))) (aD (mVar 7) aNil))))) (mVar 8) [8])) mNil)) (mC (.int 0)))) (sApp 4 (mOp2 gAdd (mVar 5) (mTup (mCons (mTup (mCons (mVar 3) (mCons (mVar 6) mNil))) mNil)))) sNx)))
        (fun k : Nat => PyData.int (0 + (k : Int))) (fun js E => ∃ d e : Sl, E = [.dat D, .dat (.list (names.map .str)), .dat (.list ((comp F pre []).map tk)), .dat (.str x), .own (.lst ((par js).map tk)), .dat (tk rows), d, e, .no]) (List.range (F x).length) (List.range (F x).length) []
        [.dat D, .dat (.list (names.map .str)), .dat (.list ((comp F pre []).map tk)), .dat (.str x), .own (.lst ((pr.flatMap (exts F x)).map tk)), .dat (tk rows), d, e, .no] rfl ⟨d, e, by simp [par]⟩ ?_
      · obtain ⟨E3, l3, d3, e3, rfl⟩ := L3
        have hp : par (List.range (F x).length) = (pr ++ [rows]).flatMap (exts F x) := by
          rw [List.flatMap_append]
          simp [par, exts]
        rw [hp] at l3
        refine ⟨[.dat D, .dat (.list (names.map .str)), .dat (.list ((comp F pre []).map tk)), .dat (.str x), .own (.lst ((pr.flatMap (exts F x)).map tk)), .dat (tk rows), d, e, .no], [.dat D, .dat (.list (names.map .str)), .dat (.list ((comp F pre []).map tk)), .dat (.str x), .own (.lst (((pr ++ [rows]).flatMap (exts F x)).map tk)), .dat (tk rows), d3, e3, .no], rfl, .inl (for_e (r1_e (S.len hx rfl rfl) ⟨by omega, by omega⟩) ?_), _, _, _, rfl⟩
        rw [Int.toNat_natCast]
        exact l3
      · rintro js k jo E hj ⟨d, e, rfl⟩
        obtain ⟨_, hkl, _⟩ := range_at hj
        have hjl : js.length ≤ 4 := by
          have := congrArg List.length hj
          rw [List.length_range, List.length_append] at this
          omega
        have V : Vr ks F (x, k) := ⟨hx, hkl⟩
        have e0 : (0 : Int) + (k : Int) = (k : Int) := Int.zero_add _
        rw [e0]
        have hpa : par (js ++ [k]) = if fit F rows (x, k) then par js ++ [rows ++ [(x, k)]] else par js := by
          show _ ++ (List.filter _ (js ++ [k])).map _ = _
          rw [List.filter_append, List.map_append, ← List.append_assoc]
          by_cases hq : fit F rows (x, k) = true
          · rw [if_pos hq, List.filter_cons, if_pos hq]; rfl
          · rw [if_neg hq, List.filter_cons, if_neg hq]; simp [par]
        have hpj : (par js).length ≤ 2000000 := by
          have h1 : (par js).length = (pr.flatMap (exts F x)).length + (js.filter fun k => fit F rows (x, k)).length := by simp only [par, List.length_append, List.length_map]
          have := List.length_filter_le (fun k => fit F rows (x, k)) js
          omega
        rw [hpa]
        generalize par js = pj at hpj ⊢
        have cf : compF (gN 8) (mNotT (mTru (mCall mf__law_together (aD (mOp2 gIx (mOp2 gIx (mOp2 gIx (mVar 0) (mOp2 gIx (mVar 8) (mC (.int 0)))) (mOp2 gIx (mVar 8) (mC (.int 1)))) (mC (.int 1))) (aD (mVar 7) aNil))))) (mVar 8) [8] (rows.map rd) [.dat D, .dat (.list (names.map .str)), .dat (.list ((comp F pre []).map tk)), .dat (.str x), .own (.lst (pj.map tk)), .dat (tk rows), .dat (.int (k : Int)), .dat (bx (bk F (x, k))), .no]
            = some ((rows.filter fun q => !tog (bk F q) (bk F (x, k))).map rd, [.dat D, .dat (.list (names.map .str)), .dat (.list ((comp F pre []).map tk)), .dat (.str x), .own (.lst (pj.map tk)), .dat (tk rows), .dat (.int (k : Int)), .dat (bx (bk F (x, k))), .no]) :=
          compF_filter rd _ rd rows fun q hq => comp1_e (E1 := [.dat D, .dat (.list (names.map .str)), .dat (.list ((comp F pre []).map tk)), .dat (.str x), .own (.lst (pj.map tk)), .dat (tk rows), .dat (.int (k : Int)), .dat (bx (bk F (x, k))), .dat (rd q)]) rfl
            (notT_e (tru_e (callLT S (T q hq) V (S.two (T q hq) rfl (op2_e rfl rfl rfl) (op2_e rfl rfl rfl)) rfl) rfl)) (fun _ => rfl) rfl
        have hem : fit F rows (x, k) = ((rows.filter fun q => !tog (bk F q) (bk F (x, k))).map rd).isEmpty := by
          rw [List.isEmpty_map]
          unfold fit
          rw [Bool.eq_iff_iff, List.all_eq_true, List.isEmpty_iff, List.filter_eq_nil_iff]
          refine ⟨fun h q hq => ?_, fun h q hq => ?_⟩
          · rw [tog_comm, h q hq]; simp
          · have := h q hq
            rw [tog_comm]
            simpa using this
        have ln : mCb gLen (mCons (mOf (oLc (iSq (mVar 5)) (gN 8) (mNotT (mTru (mCall mf__law_together (aD (mOp2 gIx (mOp2 gIx (mOp2 gIx (mVar 0) (mOp2 gIx (mVar 8) (mC (.int 0)))) (mOp2 gIx (mVar 8) (mC (.int 1)))) (mC (.int 1))) (aD (mVar 7) aNil))))) (mVar 8) [8])) mNil) [.dat D, .dat (.list (names.map .str)), .dat (.list ((comp F pre []).map tk)), .dat (.str x), .own (.lst (pj.map tk)), .dat (tk rows), .dat (.int (k : Int)), .dat (bx (bk F (x, k))), .no]
            = some (.int (((rows.filter fun q => !tog (bk F q) (bk F (x, k))).map rd).length : Int), [.dat D, .dat (.list (names.map .str)), .dat (.list ((comp F pre []).map tk)), .dat (.str x), .own (.lst (pj.map tk)), .dat (tk rows), .dat (.int (k : Int)), .dat (bx (bk F (x, k))), .no]) :=
          cb_e (cons_e (of_e (lc_e (sq_t rfl) cf (by rw [List.length_map]; exact Nat.le_trans (List.length_filter_le _ _) (Nat.le_trans hrl (by decide))))) rfl) rfl
        refine ⟨[.dat D, .dat (.list (names.map .str)), .dat (.list ((comp F pre []).map tk)), .dat (.str x), .own (.lst (pj.map tk)), .dat (tk rows), .dat (.int (k : Int)), e, .no], [.dat D, .dat (.list (names.map .str)), .dat (.list ((comp F pre []).map tk)), .dat (.str x), .own (.lst ((if fit F rows (x, k) then pj ++ [rows ++ [(x, k)]] else pj).map tk)), .dat (tk rows), .dat (.int (k : Int)), .dat (bx (bk F (x, k))), .no], rfl, .inl (seq_e (asg_e (S.two V rfl rfl rfl)) (if_b (tst_e (none0' ln hem)) (fun hb => ?_) fun hb => ?_)), _, _, rfl⟩
        · rw [if_pos hb, List.map_append]
          exact app_x rfl (op2_e rfl (row_e (r := (x, k)) rfl rfl) (add_tk hrl)) rfl rfl (by rw [List.length_map]; exact Nat.lt_of_le_of_lt hpj (by decide))
        · rw [if_neg (by rw [hb]; exact Bool.false_ne_true)]
          rfl
end
/-! ### trees -/
inductive Tn where
  | over (r : Row)
  | node (x : Str) (bs : List Tn)
mutual
def Tn.d : Tn → PyData
  | .over r => .tuple [.str "over", rd r]
  | .node x bs => .tuple [.str "name", .str x, .tuple (Tn.ds bs)]
def Tn.ds : List Tn → List PyData
  | [] => []
  | b :: bs => Tn.d b :: Tn.ds bs
end
theorem ds_map : ∀ bs : List Tn, Tn.ds bs = bs.map Tn.d
  | [] => rfl
  | b :: bs => by rw [Tn.ds, ds_map bs]; rfl
theorem d_node (x : Str) (bs : List Tn) : (Tn.node x bs).d = .tuple [.str "name", .str x, .tuple (bs.map Tn.d)] := by rw [Tn.d, ds_map]
theorem d_over (r : Row) : (Tn.over r).d = .tuple [.str "over", rd r] := by rw [Tn.d]
/-- what a tree must be -/
def brOk (F : Str → List Pd) (x : Str) (taken : List Row) (rec : Tn → List Row → Bool) (i : Nat) : Tn → Bool
  | .over r => decide (r ∈ taken) && !tog (bk F r) (bk F (x, i))
  | b => rec b (taken ++ [(x, i)])
def okT (F : Str → List Pd) : Nat → List Str → Tn → List Row → Bool
  | 0, _, _, _ => false
  | _ + 1, _, .over _, _ => false
  | n + 1, names, .node x bs, taken => decide (x ∈ names) && (decide (bs.length = (F x).length) && (List.range bs.length).all fun i => match bs[i]? with
    | some b => brOk F x taken (fun b t => okT F n (names.filter fun y => !decide (y = x)) b t) i b
    | none => true)
def clashR (F : Str → List Pd) (taken : List Row) (r : Row) : Row := ((taken.filter fun q => !tog (bk F r) (bk F q)).head?).getD ("", 0)
def treeT (F : Str → List Pd) : List Str → List Row → Tn
  | [], _ => .over ("", 0)
  | x :: names, taken => .node x ((List.range (F x).length).map fun k => if fit F taken (x, k) then treeT F names (taken ++ [(x, k)]) else .over (clashR F taken (x, k)))
theorem clash_in {F : Str → List Pd} {taken : List Row} {r : Row} (h : fit F taken r = false) : clashR F taken r ∈ taken ∧ tog (bk F (clashR F taken r)) (bk F r) = false ∧ ∃ l, (taken.filter fun q => !tog (bk F r) (bk F q)) = clashR F taken r :: l := by
  unfold clashR
  cases e : taken.filter fun q => !tog (bk F r) (bk F q) with
  | nil =>
    exfalso
    rw [List.filter_eq_nil_iff] at e
    have : fit F taken r = true := List.all_eq_true.mpr fun q hq => by simpa using e q hq
    rw [this] at h
    cases h
  | cons q l =>
    have hq : q ∈ taken.filter fun q => !tog (bk F r) (bk F q) := by rw [e]; simp
    obtain ⟨h1, h2⟩ := List.mem_filter.mp hq
    refine ⟨h1, ?_, l, rfl⟩
    show tog (bk F q) (bk F r) = false
    rw [tog_comm]
    simpa using h2
theorem okT_tree (F : Str → List Pd) : ∀ (n : Nat) (names : List Str) (taken : List Row), names.length < n → names.Nodup → comp F names taken = [] → okT F n names (treeT F names taken) taken = true
  | 0, _, _, h, _, _ => by omega
  | n + 1, [], taken, _, _, h => by simp [comp] at h
  | n + 1, x :: names, taken, hn, nd, hc => by
    rw [List.length_cons] at hn
    have nd' := List.nodup_cons.mp nd
    have hf : ((x :: names).filter fun y => !decide (y = x)) = names := by
      rw [List.filter_cons, if_neg (by simp), List.filter_eq_self]
      intro y hy
      have : y ≠ x := fun z => nd'.1 (z ▸ hy)
      simp [this]
    unfold treeT okT
    rw [hf]
    simp only [List.length_map, List.length_range, List.mem_cons, true_or, decide_true, Bool.true_and]
    rw [List.all_eq_true]
    intro i hi
    have hi' : i < (F x).length := List.mem_range.mp hi
    rw [List.getElem?_map, List.getElem?_range hi', Option.map_some]
    dsimp only
    cases hfit : fit F taken (x, i) with
    | true =>
      rw [if_pos rfl]
      have hc' : comp F names (taken ++ [(x, i)]) = [] := by
        have h1 : List.flatMap _ _ = [] := hc
        rw [List.flatMap_eq_nil_iff] at h1
        exact h1 i (List.mem_filter.mpr ⟨hi, hfit⟩)
      have ih := okT_tree F n names (taken ++ [(x, i)]) (by omega) nd'.2 hc'
      cases names with
      | nil => simp [comp] at hc'
      | cons y ys =>
        unfold treeT at ih ⊢
        exact ih
    | false =>
      rw [if_neg (by simp)]
      obtain ⟨h1, h2, _⟩ := clash_in hfit
      show (decide _ && !tog _ _) = true
      rw [h2, decide_eq_true h1]; rfl
section
variable {D : PyData} {ks : List Str} {F : Str → List Pd} (S : Pls D ks F)
include S
theorem clash_ok {taken : List Row} {r : Row} (V : Vr ks F r) (T : ∀ q ∈ taken, Vr ks F q) (hl : taken.length ≤ 1000) (hf : fit F taken r = false) :
    mf_clash [.dat D, .dat (tk taken), .dat (.str r.1), .dat (.int (r.2 : Int))] = some (rd (clashR F taken r), [.dat D, .dat (tk taken), .dat (.str r.1), .dat (.int (r.2 : Int))]) := by
  have c : compF (gN 5) (mNotT (mTru (mCall mf_together (aD (mVar 4) (aD (mOp2 gIx (mOp2 gIx (mOp2 gIx (mVar 0) (mOp2 gIx (mVar 5) (mC (.int 0)))) (mOp2 gIx (mVar 5) (mC (.int 1)))) (mC (.int 1))) aNil))))) (mVar 5) [5] (taken.map rd) [.dat D, .dat (tk taken), .dat (.str r.1), .dat (.int (r.2 : Int)), .dat (bx (bk F r)), .no]
      = some ((taken.filter fun q => !tog (bk F r) (bk F q)).map rd, [.dat D, .dat (tk taken), .dat (.str r.1), .dat (.int (r.2 : Int)), .dat (bx (bk F r)), .no]) :=
    compF_filter rd _ rd taken fun q hq => comp1_e (E1 := [.dat D, .dat (tk taken), .dat (.str r.1), .dat (.int (r.2 : Int)), .dat (bx (bk F r)), .dat (rd q)]) rfl (notT_e (tru_e (callTT (a := bk F r) (b := bk F q) rfl (S.two (T q hq) rfl (op2_e rfl rfl rfl) (op2_e rfl rfl rfl)) (together_ok _ _)) rfl)) (fun _ => rfl) rfl
  obtain ⟨_, _, l, hll⟩ := clash_in hf
  refine fn_e (seq_e (asg_e (S.two V rfl rfl rfl)) (ret_e (op2_e (of_e (lc_e (sq_t rfl) c ?_)) rfl ?_)))
  · rw [List.length_map]; exact Nat.le_trans (List.length_filter_le _ _) (Nat.le_trans hl (by decide))
  · rw [hll]; exact Dm.atI_nat (i := 0) rfl
theorem tree_ok : ∀ (n : Nat) (names : List Str) (taken : List Row), names.length < n → (∀ x ∈ names, x ∈ ks) → (∀ q ∈ taken, Vr ks F q) → taken.length + names.length ≤ 1000 → comp F names taken = [] →
    mf_tree n [.dat D, .dat (nmT names), .dat (tk taken)] = some ((treeT F names taken).d, [.dat D, .dat (nmT names), .dat (tk taken)])
  | 0, _, _, h, _, _, _, _ => by omega
  | n + 1, [], taken, _, _, _, _, h => by simp [comp] at h
  | n + 1, x :: names, taken, hn, hk, T, hl, hcm => by
    rw [List.length_cons] at hn hl
    have hx : x ∈ ks := hk x (by simp)
    have hcn := S.cn x hx
    let br : Nat → Tn := fun k => if fit F taken (x, k) then treeT F names (taken ++ [(x, k)]) else .over (clashR F taken (x, k))
    have L := loopF_split (t := gN 5) (f := sIf (mTru (mCall mf_is_free (aD (mVar 0) (aD (mVar 2) (aD (mVar 3) (aD (mVar 5) aNil)))))) (sApp 4 (mCall (mf_tree n) (aD (mVar 0) (aD (mSl (mVar 1) (pSo (mC (.int 1))) pNo) (aD (mOp2 gAdd (mVar 2) (mTup (mCons (mTup (mCons (mVar 3) (mCons (mVar 5) mNil))) mNil))) aNil))))) (sApp 4 (mTup (mCons (mC (.str "over")) (mCons (mCall mf_clash (aD (mVar 0) (aD (mVar 2) (aD (mVar 3) (aD (mVar 5) aNil))))) mNil)))))
      (fun k : Nat => PyData.int (0 + (k : Int))) (fun js E => ∃ a : Sl, E = [.dat D, .dat (nmT (x :: names)), .dat (tk taken), .dat (.str x), .own (.lst ((js.map br).map Tn.d)), a]) (List.range (F x).length) (List.range (F x).length) []
      [.dat D, .dat (nmT (x :: names)), .dat (tk taken), .dat (.str x), .own (.lst []), .no] rfl ⟨_, rfl⟩ ?_
    · obtain ⟨E', e1, a, rfl⟩ := L
      have hd : (treeT F (x :: names) taken).d = .tuple [.str "name", .str x, .tuple (((List.range (F x).length).map br).map Tn.d)] := by
        unfold treeT
        rw [d_node]
      rw [hd]
      refine fn_e (seq_e (asg_e (first_e rfl)) (seq_e (asgO_e (lst_e rfl (Nat.zero_le _))) (seq_e (E1 := [.dat D, .dat (nmT (x :: names)), .dat (tk taken), .dat (.str x), .own (.lst (((List.range (F x).length).map br).map Tn.d)), a]) (for_e (r1_e (S.len hx rfl rfl) ⟨by omega, by omega⟩) ?_) (ret_e (tup_e (cons_e rfl (cons_e rfl (cons_e (cb_e (ds := [.list (((List.range (F x).length).map br).map Tn.d)]) (cons_e rfl rfl) rfl) rfl))) (show (3 : Nat) ≤ sizeLine by decide))))))
      · rw [Int.toNat_natCast]
        exact e1
    · rintro js k jo E hj ⟨a, rfl⟩
      obtain ⟨_, hkl, _⟩ := range_at hj
      have hjl : js.length ≤ 4 := by
        have := congrArg List.length hj
        rw [List.length_range, List.length_append] at this
        omega
      have V : Vr ks F (x, k) := ⟨hx, hkl⟩
      have e0 : (0 : Int) + (k : Int) = (k : Int) := Int.zero_add _
      rw [e0]
      have hap : ((js ++ [k]).map br).map Tn.d = (js.map br).map Tn.d ++ [(br k).d] := by simp
      rw [hap]
      have c1 : mTru (mCall mf_is_free (aD (mVar 0) (aD (mVar 2) (aD (mVar 3) (aD (mVar 5) aNil))))) [.dat D, .dat (nmT (x :: names)), .dat (tk taken), .dat (.str x), .own (.lst ((js.map br).map Tn.d)), .dat (.int (k : Int))] = some (fit F taken (x, k), [.dat D, .dat (nmT (x :: names)), .dat (tk taken), .dat (.str x), .own (.lst ((js.map br).map Tn.d)), .dat (.int (k : Int))]) :=
        tru_e (callFree S V T (by omega) rfl rfl rfl rfl) rfl
      refine ⟨[.dat D, .dat (nmT (x :: names)), .dat (tk taken), .dat (.str x), .own (.lst ((js.map br).map Tn.d)), .dat (.int (k : Int))], [.dat D, .dat (nmT (x :: names)), .dat (tk taken), .dat (.str x), .own (.lst ((js.map br).map Tn.d ++ [(br k).d])), .dat (.int (k : Int))], rfl, .inl (if_b c1 (fun hb => ?_) fun hb => ?_), _, rfl⟩
      · have hc' : comp F names (taken ++ [(x, k)]) = [] := by
          have h1 : List.flatMap _ _ = [] := hcm
          rw [List.flatMap_eq_nil_iff] at h1
          exact h1 k (List.mem_filter.mpr ⟨List.mem_range.mpr hkl, hb⟩)
        have ih := tree_ok n names (taken ++ [(x, k)]) (by omega) (fun y hy => hk y (by simp [hy])) (fun q hq => by
            rcases List.mem_append.mp hq with z | z
            · exact T q z
            · simp at z; subst z; exact V) (by rw [List.length_append]; simp; omega) hc'
        have hbr : br k = treeT F names (taken ++ [(x, k)]) := by simp only [br]; rw [if_pos hb]
        rw [hbr]
        refine app_x rfl (call_e (as := [.d D, .d (nmT names), .d (tk (taken ++ [(x, k)]))]) (aD_e rfl (aD_e (rest_e rfl) (aD_e (op2_e rfl (row_e (r := (x, k)) rfl rfl) (add_tk (by omega))) rfl))) (by simp [slotsOf]) ih) rfl rfl ?_
        rw [List.length_map, List.length_map]; exact Nat.lt_of_le_of_lt hjl (by decide)
      · have hbr : br k = .over (clashR F taken (x, k)) := by simp only [br]; rw [if_neg (by rw [hb]; simp)]
        rw [hbr, d_over]
        refine app_x rfl (tup_e (cons_e rfl (cons_e (call_e (as := [.d D, .d (tk taken), .d (.str x), .d (.int (k : Int))]) rfl (by simp [slotsOf]) (clash_ok S V T (by omega) hb)) rfl)) (show (2 : Nat) ≤ sizeLine by decide)) rfl rfl ?_
        rw [List.length_map, List.length_map]; exact Nat.lt_of_le_of_lt hjl (by decide)
theorem placed_ok {names : List Str} (hk : ∀ x ∈ names, x ∈ ks) (hl : names.length ≤ 10) : mf_placed [.dat D, .dat (nmT names)] = some (match (comp F names []).head? with
    | none => .tuple [.str "none", (treeT F names []).d]
    | some l => .tuple [.str "placed", tk l], [.dat D, .dat (nmT names)]) := by
  have h1 := first_ok S 12 names [] (by omega) hk (by simp) (by simp; omega)
  have a2 : mCall (mf_first_placed 12) (aD (mVar 0) (aD (mCb gTupOf (mCons (mVar 1) mNil)) (aD (mTup mNil) aNil))) [.dat D, .dat (nmT names), .no] = some (optD (comp F names []).head?, [.dat D, .dat (nmT names), .no]) :=
    call_e (as := [.d D, .d (nmT names), .d (tk [])]) rfl (by simp [slotsOf]) h1
  cases hh : (comp F names []).head? with
  | none =>
    rw [hh] at a2
    have hc : comp F names [] = [] := List.head?_eq_none_iff.mp hh
    have h2 := tree_ok S 12 names [] (by omega) hk (by simp) (by simp; omega) hc
    refine fn_e (E' := [.dat D, .dat (nmT names), .dat .none]) (seq_e (asg_e a2) (ret_e ?_))
    show (mTst _ [.dat D, .dat (nmT names), .dat .none]).bind _ = _
    rw [show mTst (mOp2 gIsN (mVar 2) (mC .none)) [.dat D, .dat (nmT names), .dat .none] = some (true, [.dat D, .dat (nmT names), .dat .none]) from rfl, Option.bind_some]
    exact tup_e (cons_e rfl (cons_e (call_e (as := [.d D, .d (nmT names), .d (tk [])]) rfl (by simp [slotsOf]) h2) rfl)) (show (2 : Nat) ≤ sizeLine by decide)
  | some l =>
    rw [hh] at a2
    refine fn_e (E' := [.dat D, .dat (nmT names), .dat (tk l)]) (seq_e (asg_e a2) (ret_e ?_))
    show (mTst _ [.dat D, .dat (nmT names), .dat (tk l)]).bind _ = _
    rw [show mTst (mOp2 gIsN (mVar 2) (mC .none)) [.dat D, .dat (nmT names), .dat (tk l)] = some (false, [.dat D, .dat (nmT names), .dat (tk l)]) from rfl, Option.bind_some]
    exact tup_e (cons_e rfl (cons_e rfl rfl)) (show (2 : Nat) ≤ sizeLine by decide)
end
end Tr

namespace Tr
open PySem PySem.Spec PyProof.Rows L2 Dm DmP Bo
/-! ### trees looked at -/
section
variable {α : Type} {t : MTg} {f : MS}
theorem loopF_all (φ : α → PyData) (P : En → Prop) (ok : α → Bool) (R : PyData → Prop) : ∀ (ys : List α) (E : En), P E →
    (∀ a ∈ ys, ∀ E, P E → ∃ E1, t (φ a) E = some E1 ∧ ((ok a = true ∧ ∃ E2, (f E1 = some (.nx E2) ∨ f E1 = some (.ct E2)) ∧ P E2) ∨ (ok a = false ∧ ∃ d E2, f E1 = some (.rt d E2) ∧ R d))) →
    (ys.all ok = true ∧ ∃ E', loopF t f (ys.map φ) E = some (.nx E') ∧ P E') ∨ (ys.all ok = false ∧ ∃ d E', loopF t f (ys.map φ) E = some (.rt d E') ∧ R d)
  | [], E, hP, _ => .inl ⟨rfl, E, rfl, hP⟩
  | a :: ys, E, hP, h => by
    obtain ⟨E1, e1, h1⟩ := h a (by simp) E hP
    rcases h1 with ⟨hg, E2, e2, hP2⟩ | ⟨hg, d, E2, e2, hr⟩
    · have ih := loopF_all φ P ok R ys E2 hP2 fun b hb => h b (by simp [hb])
      have st : loopF t f ((a :: ys).map φ) E = loopF t f (ys.map φ) E2 := by
        rw [List.map_cons]
        conv => lhs; unfold loopF
        rw [e1]; show (f E1).bind _ = _
        rcases e2 with e2 | e2 <;> (rw [e2]; rfl)
      rw [st, List.all_cons, hg, Bool.true_and]
      exact ih
    · refine .inr ⟨by rw [List.all_cons, hg, Bool.false_and], d, E2, ?_, hr⟩
      rw [List.map_cons]
      unfold loopF
      rw [e1]; show (f E1).bind _ = _
      rw [e2]; rfl
end
theorem plain_strs (l : List Str) : PyData.plainAll (l.map .str) = true := by
  induction l with
  | nil => rfl
  | cons q l ih => rw [List.map_cons, PyData.plainAll, ih]; rfl
theorem plain_rds (l : List Row) : PyData.plainAll (l.map rd) = true := by
  induction l with
  | nil => rfl
  | cons q l ih => rw [List.map_cons, PyData.plainAll, ih]; rfl
theorem inD_str (x : Str) (l : List Str) : inD (.str x) (l.map .str) = decide (x ∈ l) := by
  unfold inD
  rw [List.any_map, Bool.eq_iff_iff, decide_eq_true_eq, List.any_eq_true]
  constructor
  · rintro ⟨z, h1, h2⟩
    have : (z == x) = true := h2
    have : z = x := by simpa using this
    exact this ▸ h1
  · intro h
    exact ⟨x, h, (beq_self_eq_true x : (x == x) = true)⟩
theorem eqv_rd (p q : Row) : PyData.eqv (rd p) (rd q) = decide (p = q) := by
  obtain ⟨a, b⟩ := p
  obtain ⟨c, d⟩ := q
  show ((a == c) && (((b : Int) == (d : Int)) && true)) = _
  have h : ((b : Int) == (d : Int)) = decide (b = d) := by
    rw [Bool.eq_iff_iff, beq_iff_eq, decide_eq_true_eq]; omega
  rw [h]
  by_cases h1 : a = c <;> by_cases h2 : b = d <;> simp [h1, h2]
theorem inD_rd (r : Row) (l : List Row) : inD (rd r) (l.map rd) = decide (r ∈ l) := by
  unfold inD
  rw [List.any_map, Bool.eq_iff_iff, decide_eq_true_eq, List.any_eq_true]
  simp only [Function.comp, eqv_rd, decide_eq_true_eq]
  exact ⟨fun ⟨z, h1, h2⟩ => h2 ▸ h1, fun h => ⟨r, h, rfl⟩⟩
theorem inOk_str (x : Str) (l : List Str) : inOk (.str x) (l.map .str) = true := by unfold inOk; rw [plain_strs]; rfl
theorem inOk_rd (r : Row) (l : List Row) : inOk (rd r) (l.map rd) = true := by unfold inOk; rw [plain_rds]; rfl
theorem notIn_strT (x : Str) (l : List Str) : gNotInA (.str x) (.tuple (l.map .str)) = some (.bool (!decide (x ∈ l))) := by
  show (if inOk _ _ = true then _ else _) = _
  rw [if_pos (inOk_str x l), inD_str]
theorem notIn_strL (x : Str) (l : List Str) : gNotInA (.str x) (.list (l.map .str)) = some (.bool (!decide (x ∈ l))) := by
  show (if inOk _ _ = true then _ else _) = _
  rw [if_pos (inOk_str x l), inD_str]
theorem notIn_rdT (r : Row) (l : List Row) : gNotInA (rd r) (.tuple (l.map rd)) = some (.bool (!decide (r ∈ l))) := by
  show (if inOk _ _ = true then _ else _) = _
  rw [if_pos (inOk_rd r l), inD_rd]
theorem notIn_rdL (r : Row) (l : List Row) : gNotInA (rd r) (.list (l.map rd)) = some (.bool (!decide (r ∈ l))) := by
  show (if inOk _ _ = true then _ else _) = _
  rw [if_pos (inOk_rd r l), inD_rd]
theorem pairsN_range {α : Type} (φ : α → PyData) (l : List α) : pairsN (l.map φ) = (List.range l.length).map fun i : Nat => PyData.tuple [.int (i : Int), ((l[i]?).map φ).getD .none] := by
  apply List.ext_getElem?
  intro i
  unfold pairsN
  rw [List.getElem?_mapIdx, List.getElem?_map, List.getElem?_map]
  by_cases h : i < l.length
  · rw [List.getElem?_range h]
    simp [h]
  · rw [List.getElem?_eq_none (by omega), List.getElem?_eq_none (by rw [List.length_range]; omega)]; rfl
theorem neI (i j : Nat) : gNeA (.int (i : Int)) (.int (j : Int)) = some (.bool (!decide (i = j))) := by
  show some (PyData.bool (!((i : Int) == (j : Int)))) = _
  have h : ((i : Int) == (j : Int)) = decide (i = j) := by
    rw [Bool.eq_iff_iff, beq_iff_eq, decide_eq_true_eq]; omega
  rw [h]
/-- the first words of a branch -/
theorem head_over (r : Row) : gIx (Tn.over r).d (.int 0) = some (.str "over") ∧ gIx (Tn.over r).d (.int 1) = some (rd r) := by rw [d_over]; exact ⟨rfl, rfl⟩
theorem head_node (x : Str) (bs : List Tn) : gIx (Tn.node x bs).d (.int 0) = some (.str "name") ∧ gIx (Tn.node x bs).d (.int 1) = some (.str x) ∧ gIx (Tn.node x bs).d (.int 2) = some (.tuple (bs.map Tn.d)) := by rw [d_node]; exact ⟨rfl, rfl, rfl⟩
theorem ne_on : ("name" : Str) ≠ "over" := by decide +kernel
section
variable {D : PyData} {ks : List Str} {F : Str → List Pd} (S : Pls D ks F)
include S
theorem fault_ok : ∀ (n : Nat) (names : List Str) (x : Str) (bs : List Tn) (taken : List Row), names.length < n → names.length ≤ 1000 → (∀ y ∈ names, y ∈ ks) → (∀ q ∈ taken, Vr ks F q) → taken.length + n ≤ 1000 →
    (okT F n names (.node x bs) taken = true ∧ mf_fault_of_tree n [.dat D, .dat (nmT names), .dat (Tn.node x bs).d, .dat (tk taken)] = some (.none, [.dat D, .dat (nmT names), .dat (Tn.node x bs).d, .dat (tk taken)])) ∨
    (okT F n names (.node x bs) taken = false ∧ ∃ z, mf_fault_of_tree n [.dat D, .dat (nmT names), .dat (Tn.node x bs).d, .dat (tk taken)] = some (.str z, [.dat D, .dat (nmT names), .dat (Tn.node x bs).d, .dat (tk taken)]))
  | 0, _, _, _, _, h, _, _, _, _ => by omega
  | n + 1, names, x, bs, taken, hn, hn2, hk, T, hl => by
    obtain ⟨g0, g1, g2⟩ := head_node x bs
    generalize (Tn.node x bs).d = td at g0 g1 g2 ⊢
    -- the name
    have c1 : mOrT (mTst (mOp2 gNeA (mOp2 gIx (mVar 2) (mC (.int 0))) (mC (.str "name")))) (mOrT (mNotT (mTru (mVar 1))) (mTst (mOp2 gNotInA (mOp2 gIx (mVar 2) (mC (.int 1))) (mVar 1)))) [.dat D, .dat (nmT names), .dat td, .dat (tk taken), .no, .no, .no, .no, .no, .no]
        = some (!decide (x ∈ names), [.dat D, .dat (nmT names), .dat td, .dat (tk taken), .no, .no, .no, .no, .no, .no]) := by
      refine (orT_e (b := false) (tst_e (op2_e (op2_e rfl rfl g0) rfl (by rw [neS]; simp))) fun _ => orT_e (b := !(!(names.map PyData.str).isEmpty)) (notT_e (tru_e rfl rfl)) fun _ => tst_e (op2_e (op2_e rfl rfl g1) rfl (notIn_strT x names))).trans ?_
      cases names with
      | nil => simp
      | cons y ys => simp
    unfold okT
    cases hx : decide (x ∈ names) with
    | false =>
      rw [hx] at c1
      exact .inr ⟨by simp, _, fn_e (seq_rt (o := .nx []) (if_t c1 (ret_e rfl)))⟩
    | true =>
      rw [hx] at c1
      have hxm : x ∈ names := of_decide_eq_true hx
      have hxk := hk x hxm
      have hcn := S.cn x hxk
      have c2 : mTst (mOp2 gNeA (mCb gLen (mCons (mOp2 gIx (mVar 2) (mC (.int 2))) mNil)) (mCb gLen (mCons (mOp2 gIx (mVar 0) (mOp2 gIx (mVar 2) (mC (.int 1)))) mNil))) [.dat D, .dat (nmT names), .dat td, .dat (tk taken), .no, .no, .no, .no, .no, .no]
          = some (!decide (bs.length = (F x).length), [.dat D, .dat (nmT names), .dat td, .dat (tk taken), .no, .no, .no, .no, .no, .no]) :=
        tst_e (op2_e (d := .int ((bs.length : Nat) : Int)) (cb_e (cons_e (op2_e rfl rfl g2) rfl) (by show some (PyData.int (((bs.map Tn.d).length : Nat) : Int)) = _; rw [List.length_map])) (S.len hxk rfl (op2_e rfl rfl g1)) (neI _ _))
      cases hb : decide (bs.length = (F x).length) with
      | false =>
        rw [hb] at c2
        exact .inr ⟨by simp, _, fn_e (seq_e (if_f c1 rfl) (seq_rt (o := .nx []) (if_t c2 (ret_e rfl))))⟩
      | true =>
        rw [hb] at c2
        have hbl : bs.length = (F x).length := of_decide_eq_true hb
        simp only [Bool.true_and]
        let left := names.filter fun y => !decide (y = x)
        have hll : left.length < n := by
          have h1 : left.length < names.length := by
            refine Nat.lt_of_le_of_ne (List.length_filter_le _ _) fun h => ?_
            have := List.length_filter_eq_length_iff.mp h x hxm
            simp at this
          omega
        have hlk : ∀ y ∈ left, y ∈ ks := fun y hy => hk y (List.mem_filter.mp hy).1
        have c3 : compF (gN 9) (mTst (mOp2 gNeA (mVar 9) (mOp2 gIx (mVar 2) (mC (.int 1))))) (mVar 9) [9] (names.map .str) [.dat D, .dat (nmT names), .dat td, .dat (tk taken), .no, .no, .no, .no, .no, .no]
            = some (left.map .str, [.dat D, .dat (nmT names), .dat td, .dat (tk taken), .no, .no, .no, .no, .no, .no]) :=
          compF_filter PyData.str _ PyData.str names fun y _ => comp1_e (E1 := [.dat D, .dat (nmT names), .dat td, .dat (tk taken), .no, .no, .no, .no, .no, .dat (.str y)]) rfl (tst_e (op2_e rfl (op2_e rfl rfl g1) (neS _ _))) (fun _ => rfl) rfl
        have L := loopF_all (t := gTp 2 (gsCons (gN 5) (gsCons (gN 6) gsNil))) (f := (sIf (mTst (mOp2 gEqA (mOp2 gIx (mVar 6) (mC (.int 0))) (mC (.str "over")))) (sSeq (sAsg 7 (mOp2 gIx (mVar 6) (mC (.int 1))))
  (sIf (mOrT (mTst (mOp2 gNotInA (mVar 7) (mVar 3))) (mTru (mCall mf_together (aD (mOp2 gIx (mOp2 gIx (mOp2 gIx (mVar 0) (mOp2 gIx (mVar 7) (mC (.int 0)))) (mOp2 gIx (mVar 7) (mC (.int 1)))) (mC (.int 1))) (aD (mOp2 gIx (mOp2 gIx (mOp2 gIx (mVar 0) (mOp2 gIx (mVar 2) (mC (.int 1)))) (mVar 5)) (mC (.int 1))) aNil))))) (sRet (mC (.str "over"))) sNx)) (sSeq (sAsg 8 (mCall (mf_fault_of_tree n) (aD (mVar 0) (aD (mVar 4) (aD (mVar 6) (aD (mOp2 gAdd (mVar 3) (mTup (mCons (mTup (mCons (mOp2 gIx (mVar 2) (mC (.int 1))) (mCons (mVar 5) mNil))) mNil))) aNil))))))
  (sIf (mTst (mOp2 gNotN (mVar 8) (mC .none))) (sRet (mVar 8)) sNx))))
          (fun i : Nat => PyData.tuple [.int (i : Int), ((bs[i]?).map Tn.d).getD .none]) (fun E => ∃ a b c d : Sl, E = [.dat D, .dat (nmT names), .dat td, .dat (tk taken), .dat (nmT left), a, b, c, d, .no])
          (fun i => match bs[i]? with
            | some b => brOk F x taken (fun b t => okT F n left b t) i b
            | none => true) (fun d => ∃ z, d = .str z) (List.range bs.length) [.dat D, .dat (nmT names), .dat td, .dat (tk taken), .dat (nmT left), .no, .no, .no, .no, .no] ⟨_, _, _, _, rfl⟩ (fun i hi E ⟨a, b, c, d, hE⟩ => by
            subst hE
            have hil : i < bs.length := List.mem_range.mp hi
            have V : Vr ks F (x, i) := ⟨hxk, by show i < (F x).length; omega⟩
            rw [List.getElem?_eq_getElem hil, Option.map_some, Option.getD_some]
            dsimp only
            generalize bs[i] = br
            refine ⟨[.dat D, .dat (nmT names), .dat td, .dat (tk taken), .dat (nmT left), .dat (.int (i : Int)), .dat br.d, c, d, .no], rfl, ?_⟩
            cases br with
            | over r =>
              obtain ⟨k0, k1⟩ := head_over r
              generalize (Tn.over r).d = bd at k0 k1 ⊢
              have t1 : mTst (mOp2 gEqA (mOp2 gIx (mVar 6) (mC (.int 0))) (mC (.str "over"))) [.dat D, .dat (nmT names), .dat td, .dat (tk taken), .dat (nmT left), .dat (.int (i : Int)), .dat bd, c, d, .no] = some (true, [.dat D, .dat (nmT names), .dat td, .dat (tk taken), .dat (nmT left), .dat (.int (i : Int)), .dat bd, c, d, .no]) := tst_e (op2_e (op2_e rfl rfl k0) rfl (eqS_t rfl))
              have t2 : mOrT (mTst (mOp2 gNotInA (mVar 7) (mVar 3))) (mTru (mCall mf_together (aD (mOp2 gIx (mOp2 gIx (mOp2 gIx (mVar 0) (mOp2 gIx (mVar 7) (mC (.int 0)))) (mOp2 gIx (mVar 7) (mC (.int 1)))) (mC (.int 1))) (aD (mOp2 gIx (mOp2 gIx (mOp2 gIx (mVar 0) (mOp2 gIx (mVar 2) (mC (.int 1)))) (mVar 5)) (mC (.int 1))) aNil)))) [.dat D, .dat (nmT names), .dat td, .dat (tk taken), .dat (nmT left), .dat (.int (i : Int)), .dat bd, .dat (rd r), d, .no]
                  = some (!decide (r ∈ taken) || tog (bk F r) (bk F (x, i)), [.dat D, .dat (nmT names), .dat td, .dat (tk taken), .dat (nmT left), .dat (.int (i : Int)), .dat bd, .dat (rd r), d, .no]) :=
                orT_e (tst_e (op2_e rfl rfl (notIn_rdT r taken))) fun hin => by
                  have hr : r ∈ taken := by simpa using hin
                  exact tru_e (callTT (a := bk F r) (b := bk F (x, i)) (S.two (T r hr) rfl (op2_e rfl rfl rfl) (op2_e rfl rfl rfl)) (S.two V rfl (op2_e rfl rfl g1) rfl) (together_ok _ _)) rfl
              show (brOk F x taken _ i (.over r) = true ∧ _) ∨ (brOk F x taken _ i (.over r) = false ∧ _)
              have hbo : brOk F x taken (fun b t => okT F n left b t) i (.over r) = !(!decide (r ∈ taken) || tog (bk F r) (bk F (x, i))) := by
                show (decide (r ∈ taken) && !tog (bk F r) (bk F (x, i))) = _
                cases decide (r ∈ taken) <;> cases tog (bk F r) (bk F (x, i)) <;> rfl
              rw [hbo]
              cases hz : (!decide (r ∈ taken) || tog (bk F r) (bk F (x, i))) with
              | true =>
                rw [hz] at t2
                exact .inr ⟨rfl, _, _, if_t t1 (seq_e (asg_e (op2_e rfl rfl k1)) (if_t t2 (ret_e rfl))), _, rfl⟩
              | false =>
                rw [hz] at t2
                exact .inl ⟨rfl, _, .inl (if_t t1 (seq_e (asg_e (op2_e rfl rfl k1)) (if_f t2 rfl))), _, _, _, _, rfl⟩
            | node y cs =>
              obtain ⟨k0, k1, k2⟩ := head_node y cs
              have ih := fault_ok n left y cs (taken ++ [(x, i)]) hll (Nat.le_trans (List.length_filter_le _ _) hn2) hlk (fun q hq => by
                rcases List.mem_append.mp hq with z | z
                · exact T q z
                · simp at z; subst z; exact V) (by rw [List.length_append]; simp; omega)
              show (brOk F x taken _ i (.node y cs) = true ∧ _) ∨ (brOk F x taken _ i (.node y cs) = false ∧ _)
              have hbo : brOk F x taken (fun b t => okT F n left b t) i (.node y cs) = okT F n left (.node y cs) (taken ++ [(x, i)]) := rfl
              rw [hbo]
              generalize (Tn.node y cs).d = bd at k0 k1 k2 ih ⊢
              have t1 : mTst (mOp2 gEqA (mOp2 gIx (mVar 6) (mC (.int 0))) (mC (.str "over"))) [.dat D, .dat (nmT names), .dat td, .dat (tk taken), .dat (nmT left), .dat (.int (i : Int)), .dat bd, c, d, .no] = some (false, [.dat D, .dat (nmT names), .dat td, .dat (tk taken), .dat (nmT left), .dat (.int (i : Int)), .dat bd, c, d, .no]) := tst_e (op2_e (op2_e rfl rfl k0) rfl (eqS_f ne_on))
              have cl : ∀ {v : PyData}, mf_fault_of_tree n [.dat D, .dat (nmT left), .dat bd, .dat (tk (taken ++ [(x, i)]))] = some (v, [.dat D, .dat (nmT left), .dat bd, .dat (tk (taken ++ [(x, i)]))]) → mCall (mf_fault_of_tree n) (aD (mVar 0) (aD (mVar 4) (aD (mVar 6) (aD (mOp2 gAdd (mVar 3) (mTup (mCons (mTup (mCons (mOp2 gIx (mVar 2) (mC (.int 1))) (mCons (mVar 5) mNil))) mNil))) aNil)))) [.dat D, .dat (nmT names), .dat td, .dat (tk taken), .dat (nmT left), .dat (.int (i : Int)), .dat bd, c, d, .no]
                  = some (v, [.dat D, .dat (nmT names), .dat td, .dat (tk taken), .dat (nmT left), .dat (.int (i : Int)), .dat bd, c, d, .no]) := fun h =>
                call_e (as := [.d D, .d (nmT left), .d bd, .d (tk (taken ++ [(x, i)]))]) (aD_e rfl (aD_e rfl (aD_e rfl (aD_e (op2_e rfl (row_e (r := (x, i)) (op2_e rfl rfl g1) rfl) (add_tk (by omega))) rfl)))) (by simp [slotsOf]) h
              rcases ih with ⟨h1, h2⟩ | ⟨h1, z, h2⟩
              · exact .inl ⟨h1, _, .inl (if_f t1 (seq_e (asg_e (cl h2)) (if_f (E1 := [.dat D, .dat (nmT names), .dat td, .dat (tk taken), .dat (nmT left), .dat (.int (i : Int)), .dat bd, c, .dat .none, .no]) rfl rfl))), _, _, _, _, rfl⟩
              · exact .inr ⟨h1, _, _, if_f t1 (seq_e (asg_e (cl h2)) (if_t (E1 := [.dat D, .dat (nmT names), .dat td, .dat (tk taken), .dat (nmT left), .dat (.int (i : Int)), .dat bd, c, .dat (.str z), .no]) rfl (ret_e rfl))), _, rfl⟩)
        have hlen : (left.map PyData.str).length ≤ sizeLine := by
          rw [List.length_map]
          exact Nat.le_trans (List.length_filter_le _ _) (Nat.le_trans hn2 (by decide))
        have hen : iEn (mCons (mOp2 gIx (mVar 2) (mC (.int 2))) mNil) [.dat D, .dat (nmT names), .dat td, .dat (tk taken), .dat (nmT left), .no, .no, .no, .no, .no] = some ((List.range bs.length).map (fun i : Nat => PyData.tuple [.int (i : Int), ((bs[i]?).map Tn.d).getD .none]), [.dat D, .dat (nmT names), .dat td, .dat (tk taken), .dat (nmT left), .no, .no, .no, .no, .no]) := by
          unfold iEn
          rw [cons_e (op2_e rfl rfl g2) rfl]
          show some (pairsN (bs.map Tn.d), _) = _
          rw [pairsN_range]
        have s4 : sAsg 4 (mCb gTupOf (mCons (mOf (oLc (iSq (mVar 1)) (gN 9) (mTst (mOp2 gNeA (mVar 9) (mOp2 gIx (mVar 2) (mC (.int 1))))) (mVar 9) [9])) mNil)) [.dat D, .dat (nmT names), .dat td, .dat (tk taken), .no, .no, .no, .no, .no, .no] = some (.nx [.dat D, .dat (nmT names), .dat td, .dat (tk taken), .dat (nmT left), .no, .no, .no, .no, .no]) :=
          asg_x (cb_e (ds := [.list (left.map .str)]) (cons_e (of_e (lc_e (sq_t rfl) c3 hlen)) rfl) rfl) rfl
        rcases L with ⟨h1, E', h2, a, b, c, d, rfl⟩ | ⟨h1, d, E', h2, z, rfl⟩
        · exact .inl ⟨h1, fn_e (seq_e (if_f c1 rfl) (seq_e (if_f c2 rfl) (seq_e s4 (seq_e (for_e hen h2) (ret_e rfl)))))⟩
        · exact .inr ⟨h1, z, fn_e (seq_e (if_f c1 rfl) (seq_e (if_f c2 rfl) (seq_e s4 (seq_rt (o := .nx []) (for_e hen h2)))))⟩
end
theorem add_tkL {taken : List Row} {r : Row} (hl : taken.length ≤ 1000) : gAdd (.list (taken.map rd)) (.list [rd r]) = some (.list ((taken ++ [r]).map rd)) := by
  show (if (taken.map rd).length + 1 ≤ sizeLine then _ else _) = _
  rw [if_pos (by rw [List.length_map]; exact Nat.le_trans (Nat.succ_le_succ hl) (by decide)), List.map_append]
  rfl
theorem rowL_e {E : En} {f g : MX} {r : Row} (hf : f E = some (.str r.1, E)) (hg : g E = some (.int (r.2 : Int), E)) : mOf (oLst (mCons (mTup (mCons f (mCons g mNil))) mNil)) E = some (.list [rd r], E) :=
  of_e (w := .lst [rd r]) (lst_e (cons_e (tup_e (cons_e hf (cons_e hg rfl)) (show (2 : Nat) ≤ sizeLine by decide)) rfl) (show (1 : Nat) ≤ sizeLine by decide))
section
variable {D : PyData} {ks : List Str} {F : Str → List Pd} (S : Pls D ks F)
include S
theorem shows_ok : ∀ (n : Nat) (names : List Str) (x : Str) (bs : List Tn) (taken : List Row), names.length < n → names.length ≤ 1000 → (∀ y ∈ names, y ∈ ks) → (∀ q ∈ taken, Vr ks F q) → taken.length + n ≤ 1000 →
    mf__law_shows n [.dat D, .dat (.list (names.map .str)), .dat (Tn.node x bs).d, .dat (.list (taken.map rd))] = some (.bool (okT F n names (.node x bs) taken), [.dat D, .dat (.list (names.map .str)), .dat (Tn.node x bs).d, .dat (.list (taken.map rd))])
  | 0, _, _, _, _, h, _, _, _, _ => by omega
  | n + 1, names, x, bs, taken, hn, hn2, hk, T, hl => by
    obtain ⟨g0, g1, g2⟩ := head_node x bs
    generalize (Tn.node x bs).d = td at g0 g1 g2 ⊢
    have e1 : mTst (mOp2 gNeA (mOp2 gIx (mVar 2) (mC (.int 0))) (mC (.str "name"))) [.dat D, .dat (.list (names.map .str)), .dat td, .dat (.list (taken.map rd)), .no, .no, .no, .no, .no] = some (false, [.dat D, .dat (.list (names.map .str)), .dat td, .dat (.list (taken.map rd)), .no, .no, .no, .no, .no]) :=
      tst_e (op2_e (op2_e rfl rfl g0) rfl (by rw [neS]; simp))
    have e2 : mTst (mOp2 gNotInA (mOp2 gIx (mVar 2) (mC (.int 1))) (mVar 1)) [.dat D, .dat (.list (names.map .str)), .dat td, .dat (.list (taken.map rd)), .no, .no, .no, .no, .no] = some (!decide (x ∈ names), [.dat D, .dat (.list (names.map .str)), .dat td, .dat (.list (taken.map rd)), .no, .no, .no, .no, .no]) :=
      tst_e (op2_e (op2_e rfl rfl g1) rfl (notIn_strL x names))
    have e3 : x ∈ names → mTst (mOp2 gNeA (mCb gLen (mCons (mOp2 gIx (mVar 2) (mC (.int 2))) mNil)) (mCb gLen (mCons (mOp2 gIx (mVar 0) (mOp2 gIx (mVar 2) (mC (.int 1)))) mNil))) [.dat D, .dat (.list (names.map .str)), .dat td, .dat (.list (taken.map rd)), .no, .no, .no, .no, .no] = some (!decide (bs.length = (F x).length), [.dat D, .dat (.list (names.map .str)), .dat td, .dat (.list (taken.map rd)), .no, .no, .no, .no, .no]) := fun hx =>
      tst_e (op2_e (d := .int ((bs.length : Nat) : Int)) (cb_e (cons_e (op2_e rfl rfl g2) rfl) (by show some (PyData.int (((bs.map Tn.d).length : Nat) : Int)) = _; rw [List.length_map])) (S.len (hk x hx) rfl (op2_e rfl rfl g1)) (neI _ _))
    have c1 : mOrT (mTst (mOp2 gNeA (mOp2 gIx (mVar 2) (mC (.int 0))) (mC (.str "name")))) (mOrT (mTst (mOp2 gNotInA (mOp2 gIx (mVar 2) (mC (.int 1))) (mVar 1))) (mTst (mOp2 gNeA (mCb gLen (mCons (mOp2 gIx (mVar 2) (mC (.int 2))) mNil)) (mCb gLen (mCons (mOp2 gIx (mVar 0) (mOp2 gIx (mVar 2) (mC (.int 1)))) mNil))))) [.dat D, .dat (.list (names.map .str)), .dat td, .dat (.list (taken.map rd)), .no, .no, .no, .no, .no]
        = some (!(decide (x ∈ names) && decide (bs.length = (F x).length)), [.dat D, .dat (.list (names.map .str)), .dat td, .dat (.list (taken.map rd)), .no, .no, .no, .no, .no]) := by
      refine (orT_e (b := false) e1 fun _ => orT_e e2 fun h => e3 (by simpa using h)).trans ?_
      generalize decide (x ∈ names) = p
      generalize decide (bs.length = (F x).length) = q
      cases p <;> cases q <;> rfl
    unfold okT
    cases hx : decide (x ∈ names) && decide (bs.length = (F x).length) with
    | false =>
      rw [hx] at c1
      rw [← Bool.and_assoc, hx, Bool.false_and]
      exact fn_e (seq_rt (o := .nx []) (if_t c1 (ret_e rfl)))
    | true =>
      rw [hx] at c1
      rw [← Bool.and_assoc, hx, Bool.true_and]
      rw [Bool.and_eq_true, decide_eq_true_eq, decide_eq_true_eq] at hx
      obtain ⟨hxm, hbl⟩ := hx
      have hxk := hk x hxm
      have hcn := S.cn x hxk
      obtain ⟨left, hleft⟩ : ∃ left, left = names.filter fun y => !decide (y = x) := ⟨_, rfl⟩
      rw [← hleft]
      have hll : left.length < n := by
        have h1 : left.length < names.length := by
          rw [hleft]
          refine Nat.lt_of_le_of_ne (List.length_filter_le _ _) fun h => ?_
          have := List.length_filter_eq_length_iff.mp h x hxm
          simp at this
        omega
      have hlk : ∀ y ∈ left, y ∈ ks := fun y hy => hk y (List.mem_filter.mp (hleft ▸ hy)).1
      have c3 : compF (gN 8) (mTst (mOp2 gNeA (mVar 8) (mOp2 gIx (mVar 2) (mC (.int 1))))) (mVar 8) [8] (names.map .str) [.dat D, .dat (.list (names.map .str)), .dat td, .dat (.list (taken.map rd)), .no, .no, .no, .no, .no]
          = some (left.map .str, [.dat D, .dat (.list (names.map .str)), .dat td, .dat (.list (taken.map rd)), .no, .no, .no, .no, .no]) := by
        rw [hleft]
        exact compF_filter PyData.str _ PyData.str names fun y _ => comp1_e (E1 := [.dat D, .dat (.list (names.map .str)), .dat td, .dat (.list (taken.map rd)), .no, .no, .no, .no, .dat (.str y)]) rfl (tst_e (op2_e rfl (op2_e rfl rfl g1) (neS _ _))) (fun _ => rfl) rfl
      have L := loopF_all (t := gN 5) (f := (sSeq (sAsg 6 (mOp2 gIx (mOp2 gIx (mVar 2) (mC (.int 2))) (mVar 5)))
  (sIf (mTst (mOp2 gEqA (mOp2 gIx (mVar 6) (mC (.int 0))) (mC (.str "over")))) (sSeq (sAsg 7 (mOp2 gIx (mVar 6) (mC (.int 1))))
  (sIf (mOrT (mTst (mOp2 gNotInA (mVar 7) (mVar 3))) (mTru (mCall mf__law_together (aD (mOp2 gIx (mOp2 gIx (mOp2 gIx (mVar 0) (mOp2 gIx (mVar 7) (mC (.int 0)))) (mOp2 gIx (mVar 7) (mC (.int 1)))) (mC (.int 1))) (aD (mOp2 gIx (mOp2 gIx (mOp2 gIx (mVar 0) (mOp2 gIx (mVar 2) (mC (.int 1)))) (mVar 5)) (mC (.int 1))) aNil))))) (sRet (mC (.bool false))) sNx)) (sIf (mNotT (mTru (mCall (mf__law_shows n) (aD (mVar 0) (aD (mVar 4) (aD (mVar 6) (aD (mOp2 gAdd (mVar 3) (mOf (oLst (mCons (mTup (mCons (mOp2 gIx (mVar 2) (mC (.int 1))) (mCons (mVar 5) mNil))) mNil)))) aNil))))))) (sRet (mC (.bool false))) sNx))))
        (fun i : Nat => PyData.int (0 + (i : Int))) (fun E => ∃ a b c : Sl, E = [.dat D, .dat (.list (names.map .str)), .dat td, .dat (.list (taken.map rd)), .dat (.list (left.map .str)), a, b, c, .no])
        (fun i => match bs[i]? with
          | some b => brOk F x taken (fun b t => okT F n left b t) i b
          | none => true) (fun d => d = .bool false) (List.range bs.length) [.dat D, .dat (.list (names.map .str)), .dat td, .dat (.list (taken.map rd)), .dat (.list (left.map .str)), .no, .no, .no, .no] ⟨_, _, _, rfl⟩ (fun i hi E ⟨a, b, c, hE⟩ => by
          subst hE
          have hil : i < bs.length := List.mem_range.mp hi
          have V : Vr ks F (x, i) := ⟨hxk, by show i < (F x).length; omega⟩
          have e0 : (0 : Int) + (i : Int) = (i : Int) := Int.zero_add _
          rw [e0]
          have hix : gIx (.tuple (bs.map Tn.d)) (.int (i : Int)) = some (bs[i]).d := Dm.atI_nat (by rw [List.getElem?_map, List.getElem?_eq_getElem hil]; rfl)
          have hbm : bs[i] ∈ bs := List.getElem_mem _
          rw [List.getElem?_eq_getElem hil]
          dsimp only
          generalize bs[i] = br at hix hbm
          have s6 : sAsg 6 (mOp2 gIx (mOp2 gIx (mVar 2) (mC (.int 2))) (mVar 5)) [.dat D, .dat (.list (names.map .str)), .dat td, .dat (.list (taken.map rd)), .dat (.list (left.map .str)), .dat (.int (i : Int)), b, c, .no] = some (.nx [.dat D, .dat (.list (names.map .str)), .dat td, .dat (.list (taken.map rd)), .dat (.list (left.map .str)), .dat (.int (i : Int)), .dat br.d, c, .no]) :=
            asg_x (op2_e (op2_e rfl rfl g2) rfl hix) rfl
          refine ⟨[.dat D, .dat (.list (names.map .str)), .dat td, .dat (.list (taken.map rd)), .dat (.list (left.map .str)), .dat (.int (i : Int)), b, c, .no], rfl, ?_⟩
          cases br with
          | over r =>
            obtain ⟨k0, k1⟩ := head_over r
            generalize (Tn.over r).d = bd at k0 k1 s6 ⊢
            have t1 : mTst (mOp2 gEqA (mOp2 gIx (mVar 6) (mC (.int 0))) (mC (.str "over"))) [.dat D, .dat (.list (names.map .str)), .dat td, .dat (.list (taken.map rd)), .dat (.list (left.map .str)), .dat (.int (i : Int)), .dat bd, c, .no] = some (true, [.dat D, .dat (.list (names.map .str)), .dat td, .dat (.list (taken.map rd)), .dat (.list (left.map .str)), .dat (.int (i : Int)), .dat bd, c, .no]) := tst_e (op2_e (op2_e rfl rfl k0) rfl (eqS_t rfl))
            have t2 : mOrT (mTst (mOp2 gNotInA (mVar 7) (mVar 3))) (mTru (mCall mf__law_together (aD (mOp2 gIx (mOp2 gIx (mOp2 gIx (mVar 0) (mOp2 gIx (mVar 7) (mC (.int 0)))) (mOp2 gIx (mVar 7) (mC (.int 1)))) (mC (.int 1))) (aD (mOp2 gIx (mOp2 gIx (mOp2 gIx (mVar 0) (mOp2 gIx (mVar 2) (mC (.int 1)))) (mVar 5)) (mC (.int 1))) aNil)))) [.dat D, .dat (.list (names.map .str)), .dat td, .dat (.list (taken.map rd)), .dat (.list (left.map .str)), .dat (.int (i : Int)), .dat bd, .dat (rd r), .no]
                = some (!decide (r ∈ taken) || tog (bk F r) (bk F (x, i)), [.dat D, .dat (.list (names.map .str)), .dat td, .dat (.list (taken.map rd)), .dat (.list (left.map .str)), .dat (.int (i : Int)), .dat bd, .dat (rd r), .no]) :=
              orT_e (tst_e (op2_e rfl rfl (notIn_rdL r taken))) fun hin => by
                have hr : r ∈ taken := by simpa using hin
                exact tru_e (callLT S (T r hr) V (S.two (T r hr) rfl (op2_e rfl rfl rfl) (op2_e rfl rfl rfl)) (S.two V rfl (op2_e rfl rfl g1) rfl)) rfl
            have hbo : brOk F x taken (fun b t => okT F n left b t) i (.over r) = !(!decide (r ∈ taken) || tog (bk F r) (bk F (x, i))) := by
              show (decide (r ∈ taken) && !tog (bk F r) (bk F (x, i))) = _
              cases decide (r ∈ taken) <;> cases tog (bk F r) (bk F (x, i)) <;> rfl
            rw [hbo]
            cases hz : (!decide (r ∈ taken) || tog (bk F r) (bk F (x, i))) with
            | true =>
              rw [hz] at t2
              exact .inr ⟨rfl, _, _, seq_e s6 (if_t t1 (seq_e (asg_e (op2_e rfl rfl k1)) (if_t t2 (ret_e rfl)))), rfl⟩
            | false =>
              rw [hz] at t2
              exact .inl ⟨rfl, _, .inl (seq_e s6 (if_t t1 (seq_e (asg_e (op2_e rfl rfl k1)) (if_f t2 rfl)))), _, _, _, rfl⟩
          | node y cs =>
            obtain ⟨k0, k1, k2⟩ := head_node y cs
            have ih := shows_ok n left y cs (taken ++ [(x, i)]) hll (by rw [hleft]; exact Nat.le_trans (List.length_filter_le _ _) hn2) hlk (fun q hq => by
              rcases List.mem_append.mp hq with z | z
              · exact T q z
              · simp at z; subst z; exact V) (by rw [List.length_append]; simp; omega)
            have hbo : brOk F x taken (fun b t => okT F n left b t) i (.node y cs) = okT F n left (.node y cs) (taken ++ [(x, i)]) := rfl
            rw [hbo]
            generalize (Tn.node y cs).d = bd at k0 k1 k2 ih s6 ⊢
            have t1 : mTst (mOp2 gEqA (mOp2 gIx (mVar 6) (mC (.int 0))) (mC (.str "over"))) [.dat D, .dat (.list (names.map .str)), .dat td, .dat (.list (taken.map rd)), .dat (.list (left.map .str)), .dat (.int (i : Int)), .dat bd, c, .no] = some (false, [.dat D, .dat (.list (names.map .str)), .dat td, .dat (.list (taken.map rd)), .dat (.list (left.map .str)), .dat (.int (i : Int)), .dat bd, c, .no]) := tst_e (op2_e (op2_e rfl rfl k0) rfl (eqS_f ne_on))
            have cl : mNotT (mTru (mCall (mf__law_shows n) (aD (mVar 0) (aD (mVar 4) (aD (mVar 6) (aD (mOp2 gAdd (mVar 3) (mOf (oLst (mCons (mTup (mCons (mOp2 gIx (mVar 2) (mC (.int 1))) (mCons (mVar 5) mNil))) mNil)))) aNil)))))) [.dat D, .dat (.list (names.map .str)), .dat td, .dat (.list (taken.map rd)), .dat (.list (left.map .str)), .dat (.int (i : Int)), .dat bd, c, .no]
                = some (!okT F n left (.node y cs) (taken ++ [(x, i)]), [.dat D, .dat (.list (names.map .str)), .dat td, .dat (.list (taken.map rd)), .dat (.list (left.map .str)), .dat (.int (i : Int)), .dat bd, c, .no]) :=
              notT_e (tru_e (call_e (as := [.d D, .d (.list (left.map .str)), .d bd, .d (.list ((taken ++ [(x, i)]).map rd))]) (aD_e rfl (aD_e rfl (aD_e rfl (aD_e (op2_e rfl (rowL_e (r := (x, i)) (op2_e rfl rfl g1) rfl) (add_tkL (by omega))) rfl)))) (by simp [slotsOf]) ih) rfl)
            cases hz : okT F n left (.node y cs) (taken ++ [(x, i)]) with
            | true =>
              rw [hz] at cl
              exact .inl ⟨rfl, _, .inl (seq_e s6 (if_f t1 (if_f cl rfl))), _, _, _, rfl⟩
            | false =>
              rw [hz] at cl
              exact .inr ⟨rfl, _, _, seq_e s6 (if_f t1 (if_t cl (ret_e rfl))), rfl⟩)
      have hlen : (left.map PyData.str).length ≤ sizeLine := by
        rw [List.length_map, hleft]
        exact Nat.le_trans (List.length_filter_le _ _) (Nat.le_trans hn2 (by decide))
      have hlo : ∀ {r : Option Out} {f : MS}, loopF (gN 5) f ((List.range bs.length).map fun i : Nat => PyData.int (0 + (i : Int))) [.dat D, .dat (.list (names.map .str)), .dat td, .dat (.list (taken.map rd)), .dat (.list (left.map .str)), .no, .no, .no, .no] = r → sFor (iR1 (mCons (mCb gLen (mCons (mOp2 gIx (mVar 2) (mC (.int 2))) mNil)) mNil)) (gN 5) f [.dat D, .dat (.list (names.map .str)), .dat td, .dat (.list (taken.map rd)), .dat (.list (left.map .str)), .no, .no, .no, .no] = r := fun {r f} h => by
        refine for_e (r1_e (j := ((bs.map Tn.d).length : Int)) (cb_e (cons_e (op2_e rfl rfl g2) rfl) rfl) ⟨by omega, by rw [List.length_map]; omega⟩) ?_
        rw [Int.toNat_natCast, List.length_map]
        exact h
      rcases L with ⟨h1, E', h2, a, b, c, rfl⟩ | ⟨h1, d, E', h2, rfl⟩
      · exact (fn_e (d := .bool true) (seq_e (if_f c1 rfl) (seq_e (asg_e (of_e (lc_e (sq_l rfl) c3 hlen))) (seq_e (hlo h2) (ret_e rfl))))).trans (congrArg (fun b => some (PyData.bool b, [Sl.dat D, Sl.dat (.list (names.map .str)), Sl.dat td, Sl.dat (.list (taken.map rd))])) h1.symm)
      · exact (fn_e (d := .bool false) (seq_e (if_f c1 rfl) (seq_e (asg_e (of_e (lc_e (sq_l rfl) c3 hlen))) (seq_rt (o := .nx []) (hlo h2))))).trans (congrArg (fun b => some (PyData.bool b, [Sl.dat D, Sl.dat (.list (names.map .str)), Sl.dat td, Sl.dat (.list (taken.map rd))])) h1.symm)
end
end Tr

namespace Lw47
open PySem PySem.Spec PyProof.Rows L2 Dm
def top (i : Nat) : Stmt := PySem.Challenge.pw_mapwise_k47_whole_trees_of_names.main.body.getD i (.Pass ⟨0, 0, 0, 0⟩)
/-! overlap -/
abbrev s_overlap : Stmt := top 2
theorem sc_overlap : FnScope ["one", "other"] ["one", "other"] (defScope s_overlap) := ⟨rfl, rfl, rfl, by decide +kernel, rfl, by decide +kernel, by decide +kernel⟩
abbrev ms_overlap : MS := Bo.ms_overlap
abbrev mf_overlap : MF := Bo.mf_overlap
theorem ok_overlap {P : Program} {w : World} {K : PySem.W.Frag} {mg : Str → Option Value} {base : Heap} {f : Addr} {fd : FuncData} (F : Fun K "overlap" "overlap" s_overlap f fd) :
    FnOk P w K mg base CX0 1 f fd ["one", "other"] (spD K 2 mf_overlap) := by
  refine fn_ok (k := 0) [] F sc_overlap (by decide) ?_
  intro cdv A outer s H E hr
  exact ⟨_, (rb_one (rs_ret (re_and (re_lt (re_ix (hu_of hr) (re_var 0) re_int (by intro _ _; rfl)) (re_ix (hu_of hr) (re_var 1) re_int (by intro _ _; rfl))) (re_and (re_lt (re_ix (hu_of hr) (re_var 1) re_int (by intro _ _; rfl)) (re_ix (hu_of hr) (re_var 0) re_int (by intro _ _; rfl))) (re_and (re_lt (re_ix (hu_of hr) (re_var 0) re_int (by intro _ _; rfl)) (re_ix (hu_of hr) (re_var 1) re_int (by intro _ _; rfl))) (re_one (re_lt (re_ix (hu_of hr) (re_var 1) re_int (by intro _ _; rfl)) (re_ix (hu_of hr) (re_var 0) re_int (by intro _ _; rfl)))))))))⟩
/-! within -/
abbrev s_within : Stmt := top 3
theorem sc_within : FnScope ["one", "other"] ["one", "other"] (defScope s_within) := ⟨rfl, rfl, rfl, by decide +kernel, rfl, by decide +kernel, by decide +kernel⟩
abbrev ms_within : MS := Bo.ms_within
abbrev mf_within : MF := Bo.mf_within
theorem ok_within {P : Program} {w : World} {K : PySem.W.Frag} {mg : Str → Option Value} {base : Heap} {f : Addr} {fd : FuncData} (F : Fun K "within" "within" s_within f fd) :
    FnOk P w K mg base CX0 1 f fd ["one", "other"] (spD K 2 mf_within) := by
  refine fn_ok (k := 0) [] F sc_within (by decide) ?_
  intro cdv A outer s H E hr
  exact ⟨_, (rb_one (rs_ret (re_and (re_le (re_ix (hu_of hr) (re_var 1) re_int (by intro _ _; rfl)) (re_ix (hu_of hr) (re_var 0) re_int (by intro _ _; rfl))) (re_and (re_le (re_ix (hu_of hr) (re_var 0) re_int (by intro _ _; rfl)) (re_ix (hu_of hr) (re_var 1) re_int (by intro _ _; rfl))) (re_and (re_le (re_ix (hu_of hr) (re_var 1) re_int (by intro _ _; rfl)) (re_ix (hu_of hr) (re_var 0) re_int (by intro _ _; rfl))) (re_one (re_le (re_ix (hu_of hr) (re_var 0) re_int (by intro _ _; rfl)) (re_ix (hu_of hr) (re_var 1) re_int (by intro _ _; rfl)))))))))⟩
/-! touch -/
abbrev s_touch : Stmt := top 4
theorem sc_touch : FnScope ["one", "other", "beside", "above", "across", "along"] ["one", "other"] (defScope s_touch) := ⟨rfl, rfl, rfl, by decide +kernel, rfl, by decide +kernel, by decide +kernel⟩
abbrev ms_touch : MS := Bo.ms_touch
abbrev mf_touch : MF := Bo.mf_touch
theorem ok_touch {P : Program} {w : World} {K : PySem.W.Frag} {mg : Str → Option Value} {base : Heap} {f : Addr} {fd : FuncData} (F : Fun K "touch" "touch" s_touch f fd) :
    FnOk P w K mg base CX0 1 f fd ["one", "other"] (spD K 2 mf_touch) := by
  refine fn_ok (k := 0) [] F sc_touch (by decide) ?_
  intro cdv A outer s H E hr
  exact ⟨_, (rb_cons (rs_set (i := 2) sc_touch.nd rfl (by first | exact Or.inl rfl | exact Or.inr rfl) (by decide) (re_or (re_eqA hr.units (re_ix (hu_of hr) (re_var 0) re_int (by intro _ _; rfl)) (re_ix (hu_of hr) (re_var 1) re_int (by intro _ _; rfl))) (re_one (re_eqA hr.units (re_ix (hu_of hr) (re_var 1) re_int (by intro _ _; rfl)) (re_ix (hu_of hr) (re_var 0) re_int (by intro _ _; rfl))))))
    (rb_cons (rs_set (i := 3) sc_touch.nd rfl (by first | exact Or.inl rfl | exact Or.inr rfl) (by decide) (re_or (re_eqA hr.units (re_ix (hu_of hr) (re_var 0) re_int (by intro _ _; rfl)) (re_ix (hu_of hr) (re_var 1) re_int (by intro _ _; rfl))) (re_one (re_eqA hr.units (re_ix (hu_of hr) (re_var 1) re_int (by intro _ _; rfl)) (re_ix (hu_of hr) (re_var 0) re_int (by intro _ _; rfl))))))
    (rb_cons (rs_set (i := 4) sc_touch.nd rfl (by first | exact Or.inl rfl | exact Or.inr rfl) (by decide) (re_and (re_lt (re_ix (hu_of hr) (re_var 0) re_int (by intro _ _; rfl)) (re_ix (hu_of hr) (re_var 1) re_int (by intro _ _; rfl))) (re_one (re_lt (re_ix (hu_of hr) (re_var 1) re_int (by intro _ _; rfl)) (re_ix (hu_of hr) (re_var 0) re_int (by intro _ _; rfl))))))
    (rb_cons (rs_set (i := 5) sc_touch.nd rfl (by first | exact Or.inl rfl | exact Or.inr rfl) (by decide) (re_and (re_lt (re_ix (hu_of hr) (re_var 0) re_int (by intro _ _; rfl)) (re_ix (hu_of hr) (re_var 1) re_int (by intro _ _; rfl))) (re_one (re_lt (re_ix (hu_of hr) (re_var 1) re_int (by intro _ _; rfl)) (re_ix (hu_of hr) (re_var 0) re_int (by intro _ _; rfl))))))
    (rb_one (rs_ret (re_or (re_and (re_var 2) (re_one (re_var 5))) (re_one (re_and (re_var 3) (re_one (re_var 4)))))))))))⟩
/-! label_box -/
abbrev s_label_box : Stmt := top 5
theorem sc_label_box : FnScope ["box", "side", "size", "west", "east", "south", "north"] ["box", "side", "size"] (defScope s_label_box) := ⟨rfl, rfl, rfl, by decide +kernel, rfl, by decide +kernel, by decide +kernel⟩
abbrev ms_label_box : MS := Bo.ms_label_box
abbrev mf_label_box : MF := Bo.mf_label_box
theorem ok_label_box {P : Program} {w : World} {K : PySem.W.Frag} {mg : Str → Option Value} {base : Heap} {f : Addr} {fd : FuncData} (F : Fun K "label_box" "label_box" s_label_box f fd) :
    FnOk P w K mg base CX0 1 f fd ["box", "side", "size"] (spD K 3 mf_label_box) := by
  refine fn_ok (k := 0) [] F sc_label_box (by decide) ?_
  intro cdv A outer s H E hr
  exact ⟨_, (rb_cons (rs_asgT (by decide) (re_var 0) (rtg_tup (by rfl) (rts_cons (rtg_name (i := 3) sc_label_box.nd rfl (by first | exact Or.inl rfl | exact Or.inr rfl)) (rts_cons (rtg_name (i := 4) sc_label_box.nd rfl (by first | exact Or.inl rfl | exact Or.inr rfl)) (rts_cons (rtg_name (i := 5) sc_label_box.nd rfl (by first | exact Or.inl rfl | exact Or.inr rfl)) (rts_cons (rtg_name (i := 6) sc_label_box.nd rfl (by first | exact Or.inl rfl | exact Or.inr rfl)) rts_nil))))))
    (rb_cons (rs_if (rt_eqA hr.units (re_var 1) re_str) (rb_one (rs_ret (re_tup (rl_cons (re_var 4) (rl_cons (re_add (re_var 4) (re_var 2)) (rl_cons (re_var 5) (rl_cons (re_add (re_var 5) re_int) rl_nil))))))) rb_nil)
    (rb_cons (rs_if (rt_eqA hr.units (re_var 1) re_str) (rb_one (rs_ret (re_tup (rl_cons (re_sub (re_var 3) (re_var 2)) (rl_cons (re_var 3) (rl_cons (re_var 5) (rl_cons (re_add (re_var 5) re_int) rl_nil))))))) rb_nil)
    (rb_cons (rs_if (rt_eqA hr.units (re_var 1) re_str) (rb_one (rs_ret (re_tup (rl_cons (re_var 3) (rl_cons (re_add (re_var 3) (re_var 2)) (rl_cons (re_var 6) (rl_cons (re_add (re_var 6) re_int) rl_nil))))))) rb_nil)
    (rb_one (rs_ret (re_tup (rl_cons (re_var 3) (rl_cons (re_add (re_var 3) (re_var 2)) (rl_cons (re_sub (re_var 5) re_int) (rl_cons (re_var 5) rl_nil)))))))))))⟩
def d_SIDES : PyData := .tuple ((["east", "north", "west", "south"] : List Str).map PyData.str)
/-! places_for -/
abbrev s_places_for : Stmt := top 6
theorem sc_places_for : FnScope ["name", "boxes", "window", "own", "others", "found", "side", "box", "clear", "other"] ["name", "boxes", "window"] (defScope s_places_for) := ⟨rfl, rfl, rfl, by decide +kernel, rfl, by decide +kernel, by decide +kernel⟩
abbrev ms_places_for : MS := Bo.ms_places_for
abbrev mf_places_for : MF := Bo.mf_places_for
theorem ok_places_for {P : Program} {w : World} {K : PySem.W.Frag} {mg : Str → Option Value} {base : Heap} {f : Addr} {fd : FuncData} (F : Fun K "places_for" "places_for" s_places_for f fd) (G_overlap : HasFn P w K mg base "overlap" 1 ["one", "other"] (spD K 2 mf_overlap)) (G_within : HasFn P w K mg base "within" 1 ["one", "other"] (spD K 2 mf_within)) (G_touch : HasFn P w K mg base "touch" 1 ["one", "other"] (spD K 2 mf_touch)) (G_label_box : HasFn P w K mg base "label_box" 1 ["box", "side", "size"] (spD K 3 mf_label_box)) (c_SIDES : HasC K mg "SIDES" d_SIDES) (b_any : mg "any" = none) (b_len : mg "len" = none) (b_sorted : mg "sorted" = none) :
    FnOk P w K mg base CX0 2 f fd ["name", "boxes", "window"] (spD K 3 mf_places_for) := by
  refine fn_ok (k := 1) [] F sc_places_for (by decide) ?_
  intro cdv A outer s H E hr
  exact ⟨_, (rb_cons (rs_set (i := 3) sc_places_for.nd rfl (by first | exact Or.inl rfl | exact Or.inr rfl) (by decide) (re_ix (hu_of hr) (re_var 1) (re_var 0) (by intro _ _; rfl)))
    (rb_cons (bs_setLc (i := 4) (by rfl) sc_places_for.nd rfl rfl (by rfl) (by decide) (ri_seq (re_sitems (by rfl) hr.units (re_var 1) (by rfl) b_sorted)) (own := [("other", 9), ("box", 7)]) (show BlkOk ["name", "boxes", "window", "own", "others", "found", "side", "box", "clear", "other"] (defScope s_places_for) _ [("other", 9), ("box", 7)] from ⟨rfl, by decide +kernel, by decide +kernel, by decide +kernel, by decide +kernel⟩) (fun _ _ _ _ _ => (rtg_tup (by rfl) (rts_cons (rtg_name (i := 9) sc_places_for.nd rfl (by first | exact Or.inl rfl | exact Or.inr rfl)) (rts_cons (rtg_name (i := 7) sc_places_for.nd rfl (by first | exact Or.inl rfl | exact Or.inr rfl)) rts_nil))).b) (fun _ _ _ _ _ => (rif_one (RW.rt (rw_and (rt_neA hr.units (re_var 9) (re_var 0)) (rw_and1 (rt_not (rt_tru (re_fn G_within hr (by decide) (by rfl) pass0 (rg_d (re_var 3) (rg_d (re_var 7) rg_nil)) (an_d (an_d an_nil))))))))).b) (fun _ _ _ _ _ => (re_var 7).b) (by decide))
    (rb_cons (rs_setO (i := 5) sc_places_for.nd rfl (by first | exact Or.inl rfl | exact Or.inr rfl) (by decide) (ro_lst rl_nil))
    (rb_cons (rs_for PassesOwn.never (by rfl) (by decide) (ri_seq (re_con c_SIDES)) (rtg_name (i := 6) sc_places_for.nd rfl (by first | exact Or.inl rfl | exact Or.inr rfl)) (rb_cons (rs_set (i := 7) sc_places_for.nd rfl (by first | exact Or.inl rfl | exact Or.inr rfl) (by decide) (re_fn G_label_box hr (by decide) (by rfl) pass0 (rg_d (re_var 3) (rg_d (re_var 6) (rg_d (re_cb cr_lenD rx_len (by rfl) b_len (by decide +kernel) (rl_cons (re_var 0) rl_nil)) rg_nil))) (an_d (an_d (an_d an_nil)))))
    (rb_cons (rs_set (i := 8) sc_places_for.nd rfl (by first | exact Or.inl rfl | exact Or.inr rfl) (by decide) (re_not (re_cb (cr_any (by rfl)) rx_any (by rfl) b_any (by decide +kernel) (rl_cons (RO.re (bo_lc (by rfl) sc_places_for.nd (ri_seq (re_var 4)) (own := [("other", 9)]) (show BlkOk ["name", "boxes", "window", "own", "others", "found", "side", "box", "clear", "other"] (defScope s_places_for) _ [("other", 9)] from ⟨rfl, by decide +kernel, by decide +kernel, by decide +kernel, by decide +kernel⟩) (fun _ _ _ _ _ => (rtg_name (i := 9) sc_places_for.nd rfl (by first | exact Or.inl rfl | exact Or.inr rfl)).b) (fun _ _ _ _ _ => (rif_nil).b) (fun _ _ _ _ _ => (re_or (re_fn G_overlap hr (by decide) (by rfl) pass0 (rg_d (re_var 7) (rg_d (re_var 9) rg_nil)) (an_d (an_d an_nil))) (re_one (re_fn G_touch hr (by decide) (by rfl) pass0 (rg_d (re_var 7) (rg_d (re_var 9) rg_nil)) (an_d (an_d an_nil))))).b) (by decide))) rl_nil))))
    (rb_one (rs_if (RW.rt (rw_and (rt_tru (re_fn G_within hr (by decide) (by rfl) pass0 (rg_d (re_var 7) (rg_d (re_var 2) rg_nil)) (an_d (an_d an_nil)))) (rw_and (rt_tru (re_var 8)) (rw_and1 (rt_not (rt_tru (re_fn G_overlap hr (by decide) (by rfl) pass0 (rg_d (re_var 7) (rg_d (re_var 3) rg_nil)) (an_d (an_d an_nil))))))))) (rb_one (rs_app (i := 5) (re_tup (rl_cons (re_var 6) (rl_cons (re_var 7) rl_nil))))) rb_nil)))))
    (rb_one (rs_ret (re_frz 5)))))))⟩
/-! all_places -/
abbrev s_all_places : Stmt := top 7
theorem sc_all_places : FnScope ["boxes", "window", "name"] ["boxes", "window"] (defScope s_all_places) := ⟨rfl, rfl, rfl, by decide +kernel, rfl, by decide +kernel, by decide +kernel⟩
abbrev ms_all_places : MS := Bo.ms_all_places
abbrev mf_all_places : MF := Bo.mf_all_places
theorem ok_all_places {P : Program} {w : World} {K : PySem.W.Frag} {mg : Str → Option Value} {base : Heap} {f : Addr} {fd : FuncData} (F : Fun K "all_places" "all_places" s_all_places f fd) (G_places_for : HasFn P w K mg base "places_for" 2 ["name", "boxes", "window"] (spD K 3 mf_places_for)) (b_sorted : mg "sorted" = none) :
    FnOk P w K mg base CX0 3 f fd ["boxes", "window"] (spD K 2 mf_all_places) := by
  refine fn_ok (k := 2) [] F sc_all_places (by decide) ?_
  intro cdv A outer s H E hr
  exact ⟨_, (rb_one (rs_ret (RO.re (bo_dc (by rfl) sc_all_places.nd (ri_seq (re_cb (cr_sortA (by rfl) hr.units) rx_sortA (by rfl) b_sorted (by decide +kernel) (rl_cons (re_var 0) rl_nil))) (own := [("name", 2)]) (show BlkOk ["boxes", "window", "name"] (defScope s_all_places) _ [("name", 2)] from ⟨rfl, by decide +kernel, by decide +kernel, by decide +kernel, by decide +kernel⟩) (fun _ _ _ _ _ => (rtg_name (i := 2) sc_all_places.nd rfl (by first | exact Or.inl rfl | exact Or.inr rfl)).b) (fun _ _ _ _ _ => (rif_nil).b) (fun _ _ _ _ _ => (re_var 2).b) (fun _ _ _ _ _ => (re_fn G_places_for hr (by decide) (by rfl) pass0 (rg_d (re_var 2) (rg_d (re_var 0) (rg_d (re_var 1) rg_nil))) (an_d (an_d (an_d an_nil)))).b) (by decide)))))⟩
/-! together -/
abbrev s_together : Stmt := top 8
theorem sc_together : FnScope ["one", "other"] ["one", "other"] (defScope s_together) := ⟨rfl, rfl, rfl, by decide +kernel, rfl, by decide +kernel, by decide +kernel⟩
abbrev ms_together : MS := Bo.ms_together
abbrev mf_together : MF := Bo.mf_together
theorem ok_together {P : Program} {w : World} {K : PySem.W.Frag} {mg : Str → Option Value} {base : Heap} {f : Addr} {fd : FuncData} (F : Fun K "together" "together" s_together f fd) (G_overlap : HasFn P w K mg base "overlap" 1 ["one", "other"] (spD K 2 mf_overlap)) :
    FnOk P w K mg base CX0 2 f fd ["one", "other"] (spD K 2 mf_together) := by
  refine fn_ok (k := 1) [] F sc_together (by decide) ?_
  intro cdv A outer s H E hr
  exact ⟨_, (rb_one (rs_ret (re_and (re_not (re_fn G_overlap hr (by decide) (by rfl) pass0 (rg_d (re_var 0) (rg_d (re_var 1) rg_nil)) (an_d (an_d an_nil)))) (re_one (re_not (re_and (re_eqA hr.units (re_sl (re_var 0) (rp_so re_int) rp_no) (re_sl (re_var 1) (rp_so re_int) rp_no)) (re_one (re_or (re_eqA hr.units (re_ix (hu_of hr) (re_var 0) re_int (by intro _ _; rfl)) (re_ix (hu_of hr) (re_var 1) re_int (by intro _ _; rfl))) (re_one (re_eqA hr.units (re_ix (hu_of hr) (re_var 1) re_int (by intro _ _; rfl)) (re_ix (hu_of hr) (re_var 0) re_int (by intro _ _; rfl))))))))))))⟩
/-! is_free -/
abbrev s_is_free : Stmt := top 10
theorem sc_is_free : FnScope ["places", "taken", "name", "number", "box", "other", "there"] ["places", "taken", "name", "number"] (defScope s_is_free) := ⟨rfl, rfl, rfl, by decide +kernel, rfl, by decide +kernel, by decide +kernel⟩
abbrev ms_is_free : MS := Tr.ms_is_free
abbrev mf_is_free : MF := Tr.mf_is_free
theorem ok_is_free {P : Program} {w : World} {K : PySem.W.Frag} {mg : Str → Option Value} {base : Heap} {f : Addr} {fd : FuncData} (F : Fun K "is_free" "is_free" s_is_free f fd) (G_together : HasFn P w K mg base "together" 2 ["one", "other"] (spD K 2 mf_together)) (b_all : mg "all" = none) :
    FnOk P w K mg base CX0 3 f fd ["places", "taken", "name", "number"] (spD K 4 mf_is_free) := by
  refine fn_ok (k := 2) [] F sc_is_free (by decide) ?_
  intro cdv A outer s H E hr
  exact ⟨_, (rb_cons (rs_set (i := 4) sc_is_free.nd rfl (by first | exact Or.inl rfl | exact Or.inr rfl) (by decide) (re_ix (hu_of hr) (re_ix (hu_of hr) (re_ix (hu_of hr) (re_var 0) (re_var 2) (by intro _ _; rfl)) (re_var 3) (by intro _ _; rfl)) re_int (by intro _ _; rfl)))
    (rb_one (rs_ret (re_cb (cr_all (by rfl)) rx_all (by rfl) b_all (by decide +kernel) (rl_cons (RO.re (bo_lc (by rfl) sc_is_free.nd (ri_seq (re_var 1)) (own := [("other", 5), ("there", 6)]) (show BlkOk ["places", "taken", "name", "number", "box", "other", "there"] (defScope s_is_free) _ [("other", 5), ("there", 6)] from ⟨rfl, by decide +kernel, by decide +kernel, by decide +kernel, by decide +kernel⟩) (fun _ _ _ _ _ => (rtg_tup (by rfl) (rts_cons (rtg_name (i := 5) sc_is_free.nd rfl (by first | exact Or.inl rfl | exact Or.inr rfl)) (rts_cons (rtg_name (i := 6) sc_is_free.nd rfl (by first | exact Or.inl rfl | exact Or.inr rfl)) rts_nil))).b) (fun _ _ _ _ _ => (rif_nil).b) (fun _ _ _ _ _ => (re_fn G_together hr (by decide) (by rfl) pass0 (rg_d (re_var 4) (rg_d (re_ix (hu_of hr) (re_ix (hu_of hr) (re_ix (hu_of hr) (re_var 0) (re_var 5) (by intro _ _; rfl)) (re_var 6) (by intro _ _; rfl)) re_int (by intro _ _; rfl)) rg_nil)) (an_d (an_d an_nil))).b) (by decide))) rl_nil)))))⟩
/-! first_placed -/
abbrev s_first_placed : Stmt := top 11
theorem sc_first_placed : FnScope ["places", "names", "taken", "number", "found"] ["places", "names", "taken"] (defScope s_first_placed) := ⟨rfl, rfl, rfl, by decide +kernel, rfl, by decide +kernel, by decide +kernel⟩
abbrev ms_first_placed : MF → MS := Tr.ms_first_placed
abbrev mf_first_placed : Nat → MF := Tr.mf_first_placed
theorem ok_first_placed {P : Program} {w : World} {K : PySem.W.Frag} {mg : Str → Option Value} {base : Heap} {f : Addr} {fd : FuncData} {dvs : List V} (F : FunD K "first_placed" "first_placed" (defArgs s_first_placed) (defBody s_first_placed) (defScope s_first_placed) dvs [] f fd) (m_self : mg "first_placed" = some (.ref f)) (k_self : PySem.W.keepIn K (.ref f) = true) (d_self : Binds K fd ["places", "names", "taken"] []) (G_is_free : HasFn P w K mg base "is_free" 3 ["places", "taken", "name", "number"] (spD K 4 mf_is_free)) (b_len : mg "len" = none) (b_range : mg "range" = none) :
    ∀ n, FnOk P w K mg base CX0 (4 + n) f fd ["places", "names", "taken"] (spD K 3 (mf_first_placed n))
  | 0 => fn_no (k := 3) F sc_first_placed rfl
  | n + 1 => by
    have G_first_placed : HasFn P w K mg base "first_placed" (4 + n) ["places", "names", "taken"] (spD K 3 (mf_first_placed n)) := ⟨f, fd, ok_first_placed F m_self k_self d_self G_is_free b_len b_range n, m_self, k_self, d_self⟩
    refine fn_okD (k := 4 + n) [] F sc_first_placed (by decide) ?_
    intro cdv A outer s H E hr
    exact ⟨_, (rb_cons (rs_if (rt_not (rt_tru (re_var 1))) (rb_one (rs_ret (re_var 2))) rb_nil)
    (rb_cons (rs_for PassesOwn.never (by rfl) (by decide) (ri_r1 (by rfl) b_range (rl_cons (re_cb cr_lenD rx_len (by rfl) b_len (by decide +kernel) (rl_cons (re_ix (hu_of hr) (re_var 0) (re_ix (hu_of hr) (re_var 1) re_int (by intro _ _; rfl)) (by intro _ _; rfl)) rl_nil)) rl_nil)) (rtg_name (i := 3) sc_first_placed.nd rfl (by first | exact Or.inl rfl | exact Or.inr rfl)) (rb_one (rs_if (rt_tru (re_fn G_is_free hr (by omega) (by rfl) pass0 (rg_d (re_var 0) (rg_d (re_var 2) (rg_d (re_ix (hu_of hr) (re_var 1) re_int (by intro _ _; rfl)) (rg_d (re_var 3) rg_nil)))) (an_d (an_d (an_d (an_d an_nil)))))) (rb_cons (rs_set (i := 4) sc_first_placed.nd rfl (by first | exact Or.inl rfl | exact Or.inr rfl) (by decide) (re_fn G_first_placed hr (by omega) (by rfl) pass0 (rg_d (re_var 0) (rg_d (re_sl (re_var 1) (rp_so re_int) rp_no) (rg_d (re_add (re_var 2) (re_tup (rl_cons (re_tup (rl_cons (re_ix (hu_of hr) (re_var 1) re_int (by intro _ _; rfl)) (rl_cons (re_var 3) rl_nil))) rl_nil))) rg_nil))) (an_d (an_d (an_d an_nil)))))
    (rb_one (rs_if (rt_notN (re_var 4) re_non) (rb_one (rs_ret (re_var 4))) rb_nil))) rb_nil)))
    (rb_one (rs_ret re_non))))⟩
/-! clash -/
abbrev s_clash : Stmt := top 12
theorem sc_clash : FnScope ["places", "taken", "name", "number", "box", "row"] ["places", "taken", "name", "number"] (defScope s_clash) := ⟨rfl, rfl, rfl, by decide +kernel, rfl, by decide +kernel, by decide +kernel⟩
abbrev ms_clash : MS := Tr.ms_clash
abbrev mf_clash : MF := Tr.mf_clash
theorem ok_clash {P : Program} {w : World} {K : PySem.W.Frag} {mg : Str → Option Value} {base : Heap} {f : Addr} {fd : FuncData} (F : Fun K "clash" "clash" s_clash f fd) (G_together : HasFn P w K mg base "together" 2 ["one", "other"] (spD K 2 mf_together)) :
    FnOk P w K mg base CX0 3 f fd ["places", "taken", "name", "number"] (spD K 4 mf_clash) := by
  refine fn_ok (k := 2) [] F sc_clash (by decide) ?_
  intro cdv A outer s H E hr
  exact ⟨_, (rb_cons (rs_set (i := 4) sc_clash.nd rfl (by first | exact Or.inl rfl | exact Or.inr rfl) (by decide) (re_ix (hu_of hr) (re_ix (hu_of hr) (re_ix (hu_of hr) (re_var 0) (re_var 2) (by intro _ _; rfl)) (re_var 3) (by intro _ _; rfl)) re_int (by intro _ _; rfl)))
    (rb_one (rs_ret (re_ix (hu_of hr) (RO.re (bo_lc (by rfl) sc_clash.nd (ri_seq (re_var 1)) (own := [("row", 5)]) (show BlkOk ["places", "taken", "name", "number", "box", "row"] (defScope s_clash) _ [("row", 5)] from ⟨rfl, by decide +kernel, by decide +kernel, by decide +kernel, by decide +kernel⟩) (fun _ _ _ _ _ => (rtg_name (i := 5) sc_clash.nd rfl (by first | exact Or.inl rfl | exact Or.inr rfl)).b) (fun _ _ _ _ _ => (rif_one (rt_not (rt_tru (re_fn G_together hr (by decide) (by rfl) pass0 (rg_d (re_var 4) (rg_d (re_ix (hu_of hr) (re_ix (hu_of hr) (re_ix (hu_of hr) (re_var 0) (re_ix (hu_of hr) (re_var 5) re_int (by intro _ _; rfl)) (by intro _ _; rfl)) (re_ix (hu_of hr) (re_var 5) re_int (by intro _ _; rfl)) (by intro _ _; rfl)) re_int (by intro _ _; rfl)) rg_nil)) (an_d (an_d an_nil)))))).b) (fun _ _ _ _ _ => (re_var 5).b) (by decide))) re_int (by intro _ _; rfl)))))⟩
/-! tree -/
abbrev s_tree : Stmt := top 13
theorem sc_tree : FnScope ["places", "names", "taken", "name", "branches", "number"] ["places", "names", "taken"] (defScope s_tree) := ⟨rfl, rfl, rfl, by decide +kernel, rfl, by decide +kernel, by decide +kernel⟩
abbrev ms_tree : MF → MS := Tr.ms_tree
abbrev mf_tree : Nat → MF := Tr.mf_tree
theorem ok_tree {P : Program} {w : World} {K : PySem.W.Frag} {mg : Str → Option Value} {base : Heap} {f : Addr} {fd : FuncData} {dvs : List V} (F : FunD K "tree" "tree" (defArgs s_tree) (defBody s_tree) (defScope s_tree) dvs [] f fd) (m_self : mg "tree" = some (.ref f)) (k_self : PySem.W.keepIn K (.ref f) = true) (d_self : Binds K fd ["places", "names", "taken"] []) (G_is_free : HasFn P w K mg base "is_free" 3 ["places", "taken", "name", "number"] (spD K 4 mf_is_free)) (G_clash : HasFn P w K mg base "clash" 3 ["places", "taken", "name", "number"] (spD K 4 mf_clash)) (b_len : mg "len" = none) (b_range : mg "range" = none) (b_tuple : mg "tuple" = none) :
    ∀ n, FnOk P w K mg base CX0 (4 + n) f fd ["places", "names", "taken"] (spD K 3 (mf_tree n))
  | 0 => fn_no (k := 3) F sc_tree rfl
  | n + 1 => by
    have G_tree : HasFn P w K mg base "tree" (4 + n) ["places", "names", "taken"] (spD K 3 (mf_tree n)) := ⟨f, fd, ok_tree F m_self k_self d_self G_is_free G_clash b_len b_range b_tuple n, m_self, k_self, d_self⟩
    refine fn_okD (k := 4 + n) [] F sc_tree (by decide) ?_
    intro cdv A outer s H E hr
    exact ⟨_, (rb_cons (rs_set (i := 3) sc_tree.nd rfl (by first | exact Or.inl rfl | exact Or.inr rfl) (by decide) (re_ix (hu_of hr) (re_var 1) re_int (by intro _ _; rfl)))
    (rb_cons (rs_setO (i := 4) sc_tree.nd rfl (by first | exact Or.inl rfl | exact Or.inr rfl) (by decide) (ro_lst rl_nil))
    (rb_cons (rs_for PassesOwn.never (by rfl) (by decide) (ri_r1 (by rfl) b_range (rl_cons (re_cb cr_lenD rx_len (by rfl) b_len (by decide +kernel) (rl_cons (re_ix (hu_of hr) (re_var 0) (re_var 3) (by intro _ _; rfl)) rl_nil)) rl_nil)) (rtg_name (i := 5) sc_tree.nd rfl (by first | exact Or.inl rfl | exact Or.inr rfl)) (rb_one (rs_if (rt_tru (re_fn G_is_free hr (by omega) (by rfl) pass0 (rg_d (re_var 0) (rg_d (re_var 2) (rg_d (re_var 3) (rg_d (re_var 5) rg_nil)))) (an_d (an_d (an_d (an_d an_nil)))))) (rb_one (rs_app (i := 4) (re_fn G_tree hr (by omega) (by rfl) pass0 (rg_d (re_var 0) (rg_d (re_sl (re_var 1) (rp_so re_int) rp_no) (rg_d (re_add (re_var 2) (re_tup (rl_cons (re_tup (rl_cons (re_var 3) (rl_cons (re_var 5) rl_nil))) rl_nil))) rg_nil))) (an_d (an_d (an_d an_nil)))))) (rb_one (rs_app (i := 4) (re_tup (rl_cons re_str (rl_cons (re_fn G_clash hr (by omega) (by rfl) pass0 (rg_d (re_var 0) (rg_d (re_var 2) (rg_d (re_var 3) (rg_d (re_var 5) rg_nil)))) (an_d (an_d (an_d (an_d an_nil))))) rl_nil))))))))
    (rb_one (rs_ret (re_tup (rl_cons re_str (rl_cons (re_var 3) (rl_cons (re_ct cr_tupOf rx_tupOf (by rfl) b_tuple (by decide +kernel) (rl_cons (re_frz 4) rl_nil)) rl_nil)))))))))⟩
/-! placed -/
abbrev s_placed : Stmt := top 14
theorem sc_placed : FnScope ["places", "names", "found"] ["places", "names"] (defScope s_placed) := ⟨rfl, rfl, rfl, by decide +kernel, rfl, by decide +kernel, by decide +kernel⟩
abbrev ms_placed : MS := Tr.ms_placed
abbrev mf_placed : MF := Tr.mf_placed
theorem ok_placed {P : Program} {w : World} {K : PySem.W.Frag} {mg : Str → Option Value} {base : Heap} {f : Addr} {fd : FuncData} (F : Fun K "placed" "placed" s_placed f fd) (G_first_placed : HasFn P w K mg base "first_placed" 16 ["places", "names", "taken"] (spD K 3 (mf_first_placed 12))) (G_tree : HasFn P w K mg base "tree" 16 ["places", "names", "taken"] (spD K 3 (mf_tree 12))) (b_tuple : mg "tuple" = none) :
    FnOk P w K mg base CX0 17 f fd ["places", "names"] (spD K 2 mf_placed) := by
  refine fn_ok (k := 16) [] F sc_placed (by decide) ?_
  intro cdv A outer s H E hr
  exact ⟨_, (rb_cons (rs_set (i := 2) sc_placed.nd rfl (by first | exact Or.inl rfl | exact Or.inr rfl) (by decide) (re_fn G_first_placed hr (by decide) (by rfl) pass0 (rg_d (re_var 0) (rg_d (re_ct cr_tupOf rx_tupOf (by rfl) b_tuple (by decide +kernel) (rl_cons (re_var 1) rl_nil)) (rg_d (re_tup rl_nil) rg_nil))) (an_d (an_d (an_d an_nil)))))
    (rb_one (rs_ret (re_if (rt_isN (re_var 2) re_non) (re_tup (rl_cons re_str (rl_cons (re_fn G_tree hr (by decide) (by rfl) pass0 (rg_d (re_var 0) (rg_d (re_ct cr_tupOf rx_tupOf (by rfl) b_tuple (by decide +kernel) (rl_cons (re_var 1) rl_nil)) (rg_d (re_tup rl_nil) rg_nil))) (an_d (an_d (an_d an_nil)))) rl_nil))) (re_tup (rl_cons re_str (rl_cons (re_var 2) rl_nil)))))))⟩
/-! fault_of_tree -/
abbrev s_fault_of_tree : Stmt := top 15
theorem sc_fault_of_tree : FnScope ["places", "names", "told", "taken", "left", "number", "branch", "row", "fault", "name"] ["places", "names", "told", "taken"] (defScope s_fault_of_tree) := ⟨rfl, rfl, rfl, by decide +kernel, rfl, by decide +kernel, by decide +kernel⟩
abbrev ms_fault_of_tree : MF → MS := Tr.ms_fault_of_tree
abbrev mf_fault_of_tree : Nat → MF := Tr.mf_fault_of_tree
theorem ok_fault_of_tree {P : Program} {w : World} {K : PySem.W.Frag} {mg : Str → Option Value} {base : Heap} {f : Addr} {fd : FuncData} {dvs : List V} (F : FunD K "fault_of_tree" "fault_of_tree" (defArgs s_fault_of_tree) (defBody s_fault_of_tree) (defScope s_fault_of_tree) dvs [] f fd) (m_self : mg "fault_of_tree" = some (.ref f)) (k_self : PySem.W.keepIn K (.ref f) = true) (d_self : Binds K fd ["places", "names", "told", "taken"] []) (G_together : HasFn P w K mg base "together" 2 ["one", "other"] (spD K 2 mf_together)) (b_enumerate : mg "enumerate" = none) (b_len : mg "len" = none) (b_tuple : mg "tuple" = none) :
    ∀ n, FnOk P w K mg base CX0 (3 + n) f fd ["places", "names", "told", "taken"] (spD K 4 (mf_fault_of_tree n))
  | 0 => fn_no (k := 2) F sc_fault_of_tree rfl
  | n + 1 => by
    have G_fault_of_tree : HasFn P w K mg base "fault_of_tree" (3 + n) ["places", "names", "told", "taken"] (spD K 4 (mf_fault_of_tree n)) := ⟨f, fd, ok_fault_of_tree F m_self k_self d_self G_together b_enumerate b_len b_tuple n, m_self, k_self, d_self⟩
    refine fn_okD (k := 3 + n) [] F sc_fault_of_tree (by decide) ?_
    intro cdv A outer s H E hr
    exact ⟨_, (rb_cons (rs_if (RW.rt (rw_or (rt_neA hr.units (re_ix (hu_of hr) (re_var 2) re_int (by intro _ _; rfl)) re_str) (rw_or (rt_not (rt_tru (re_var 1))) (rw_or1 (rt_notIn hr.units (re_ix (hu_of hr) (re_var 2) re_int (by intro _ _; rfl)) (re_var 1)))))) (rb_one (rs_ret re_str)) rb_nil)
    (rb_cons (rs_if (rt_neA hr.units (re_cb cr_lenD rx_len (by rfl) b_len (by decide +kernel) (rl_cons (re_ix (hu_of hr) (re_var 2) re_int (by intro _ _; rfl)) rl_nil)) (re_cb cr_lenD rx_len (by rfl) b_len (by decide +kernel) (rl_cons (re_ix (hu_of hr) (re_var 0) (re_ix (hu_of hr) (re_var 2) re_int (by intro _ _; rfl)) (by intro _ _; rfl)) rl_nil))) (rb_one (rs_ret re_str)) rb_nil)
    (rb_cons (rs_set (i := 4) sc_fault_of_tree.nd rfl (by first | exact Or.inl rfl | exact Or.inr rfl) (by decide) (re_ct cr_tupOf rx_tupOf (by rfl) b_tuple (by decide +kernel) (rl_cons (RO.re (bo_lc (by rfl) sc_fault_of_tree.nd (ri_seq (re_var 1)) (own := [("name", 9)]) (show BlkOk ["places", "names", "told", "taken", "left", "number", "branch", "row", "fault", "name"] (defScope s_fault_of_tree) _ [("name", 9)] from ⟨rfl, by decide +kernel, by decide +kernel, by decide +kernel, by decide +kernel⟩) (fun _ _ _ _ _ => (rtg_name (i := 9) sc_fault_of_tree.nd rfl (by first | exact Or.inl rfl | exact Or.inr rfl)).b) (fun _ _ _ _ _ => (rif_one (rt_neA hr.units (re_var 9) (re_ix (hu_of hr) (re_var 2) re_int (by intro _ _; rfl)))).b) (fun _ _ _ _ _ => (re_var 9).b) (by decide))) rl_nil)))
    (rb_cons (rs_for PassesOwn.never (by rfl) (by decide) (ri_enum (by rfl) b_enumerate (rl_cons (re_ix (hu_of hr) (re_var 2) re_int (by intro _ _; rfl)) rl_nil)) (rtg_tup (by rfl) (rts_cons (rtg_name (i := 5) sc_fault_of_tree.nd rfl (by first | exact Or.inl rfl | exact Or.inr rfl)) (rts_cons (rtg_name (i := 6) sc_fault_of_tree.nd rfl (by first | exact Or.inl rfl | exact Or.inr rfl)) rts_nil))) (rb_one (rs_if (rt_eqA hr.units (re_ix (hu_of hr) (re_var 6) re_int (by intro _ _; rfl)) re_str) (rb_cons (rs_set (i := 7) sc_fault_of_tree.nd rfl (by first | exact Or.inl rfl | exact Or.inr rfl) (by decide) (re_ix (hu_of hr) (re_var 6) re_int (by intro _ _; rfl)))
    (rb_one (rs_if (RW.rt (rw_or (rt_notIn hr.units (re_var 7) (re_var 3)) (rw_or1 (rt_tru (re_fn G_together hr (by omega) (by rfl) pass0 (rg_d (re_ix (hu_of hr) (re_ix (hu_of hr) (re_ix (hu_of hr) (re_var 0) (re_ix (hu_of hr) (re_var 7) re_int (by intro _ _; rfl)) (by intro _ _; rfl)) (re_ix (hu_of hr) (re_var 7) re_int (by intro _ _; rfl)) (by intro _ _; rfl)) re_int (by intro _ _; rfl)) (rg_d (re_ix (hu_of hr) (re_ix (hu_of hr) (re_ix (hu_of hr) (re_var 0) (re_ix (hu_of hr) (re_var 2) re_int (by intro _ _; rfl)) (by intro _ _; rfl)) (re_var 5) (by intro _ _; rfl)) re_int (by intro _ _; rfl)) rg_nil)) (an_d (an_d an_nil))))))) (rb_one (rs_ret re_str)) rb_nil))) (rb_cons (rs_set (i := 8) sc_fault_of_tree.nd rfl (by first | exact Or.inl rfl | exact Or.inr rfl) (by decide) (re_fn G_fault_of_tree hr (by omega) (by rfl) pass0 (rg_d (re_var 0) (rg_d (re_var 4) (rg_d (re_var 6) (rg_d (re_add (re_var 3) (re_tup (rl_cons (re_tup (rl_cons (re_ix (hu_of hr) (re_var 2) re_int (by intro _ _; rfl)) (rl_cons (re_var 5) rl_nil))) rl_nil))) rg_nil)))) (an_d (an_d (an_d (an_d an_nil))))))
    (rb_one (rs_if (rt_notN (re_var 8) re_non) (rb_one (rs_ret (re_var 8))) rb_nil))))))
    (rb_one (rs_ret re_non))))))⟩
/-! _law_mixed -/
abbrev s__law_mixed : Stmt := top 17
theorem sc__law_mixed : FnScope ["number", "place", "first", "second", "third"] ["number", "place"] (defScope s__law_mixed) := ⟨rfl, rfl, rfl, by decide +kernel, rfl, by decide +kernel, by decide +kernel⟩
abbrev ms__law_mixed : MS := DmP.ms__law_mixed
abbrev mf__law_mixed : MF := DmP.mf__law_mixed
theorem ok__law_mixed {P : Program} {w : World} {K : PySem.W.Frag} {mg : Str → Option Value} {base : Heap} {f : Addr} {fd : FuncData} (F : Fun K "_law_mixed" "_law_mixed" s__law_mixed f fd) (b_int : mg "int" = none) :
    FnOk P w K mg base CX0 1 f fd ["number", "place"] (spD K 2 mf__law_mixed) := by
  refine fn_ok (k := 0) [] F sc__law_mixed (by decide) ?_
  intro cdv A outer s H E hr
  exact ⟨_, (rb_cons (rs_set (i := 2) sc__law_mixed.nd rfl (by first | exact Or.inl rfl | exact Or.inr rfl) (by decide) (re_mod (re_ct cr_int1 rx_int (by rfl) b_int (by decide +kernel) (rl_cons (re_add (re_add (re_mul (re_var 0) re_int) (re_mul (re_var 1) re_int)) re_int) rl_nil)) re_int))
    (rb_cons (rs_set (i := 3) sc__law_mixed.nd rfl (by first | exact Or.inl rfl | exact Or.inr rfl) (by decide) (re_mod (re_ct cr_int1 rx_int (by rfl) b_int (by decide +kernel) (rl_cons (re_add (re_add (re_mul (re_var 2) (re_var 2)) (re_mul re_int (re_var 2))) (re_var 1)) rl_nil)) re_int))
    (rb_cons (rs_set (i := 4) sc__law_mixed.nd rfl (by first | exact Or.inl rfl | exact Or.inr rfl) (by decide) (re_mod (re_ct cr_int1 rx_int (by rfl) b_int (by decide +kernel) (rl_cons (re_add (re_mul (re_var 3) (re_var 3)) (re_var 2)) rl_nil)) re_int))
    (rb_one (rs_ret (re_add (re_mul (re_var 3) re_int) (re_var 4)))))))⟩
/-! _law_rest -/
abbrev s__law_rest : Stmt := top 18
theorem sc__law_rest : FnScope ["script", "place", "fills", "number"] ["script", "place", "fills"] (defScope s__law_rest) := ⟨rfl, rfl, rfl, by decide +kernel, rfl, by decide +kernel, by decide +kernel⟩
abbrev ms__law_rest : MS := DmP.ms__law_rest
abbrev mf__law_rest : MF := DmP.mf__law_rest
theorem ok__law_rest {P : Program} {w : World} {K : PySem.W.Frag} {mg : Str → Option Value} {base : Heap} {f : Addr} {fd : FuncData} (F : Fun K "_law_rest" "_law_rest" s__law_rest f fd) (G__law_mixed : HasFn P w K mg base "_law_mixed" 1 ["number", "place"] (spD K 2 mf__law_mixed)) (b_int : mg "int" = none) (b_len : mg "len" = none) :
    FnOk P w K mg base CX0 2 f fd ["script", "place", "fills"] (spD K 3 mf__law_rest) := by
  refine fn_ok (k := 1) [] F sc__law_rest (by decide) ?_
  intro cdv A outer s H E hr
  exact ⟨_, (rb_cons (rs_set (i := 3) sc__law_rest.nd rfl (by first | exact Or.inl rfl | exact Or.inr rfl) (by decide) re_int)
    (rb_cons (rs_if (rt_gt (re_cb cr_lenD rx_len (by rfl) b_len (by decide +kernel) (rl_cons (re_var 0) rl_nil)) re_int) (rb_one (rs_set (i := 3) sc__law_rest.nd rfl (by first | exact Or.inl rfl | exact Or.inr rfl) (by decide) (re_ct cr_int1 rx_int (by rfl) b_int (by decide +kernel) (rl_cons (re_ix (hu_of hr) (re_var 0) (re_mod (re_ct cr_int1 rx_int (by rfl) b_int (by decide +kernel) (rl_cons (re_var 1) rl_nil)) (re_cb cr_lenD rx_len (by rfl) b_len (by decide +kernel) (rl_cons (re_var 0) rl_nil))) (by intro _ _; rfl)) rl_nil)))) rb_nil)
    (rb_cons (rs_if (rt_lt (re_var 3) re_int) (rb_one (rs_set (i := 3) sc__law_rest.nd rfl (by first | exact Or.inl rfl | exact Or.inr rfl) (by decide) (re_sub re_int (re_mul re_int (re_var 3))))) rb_nil)
    (rb_cons (rs_if (RW.rt (rw_and (rt_eqA hr.units (re_var 2) re_int) (rw_and (rt_lt (re_var 1) (re_cb cr_lenD rx_len (by rfl) b_len (by decide +kernel) (rl_cons (re_var 0) rl_nil))) (rw_and1 (rt_ge (re_var 3) (re_pow re_int re_int)))))) (rb_one (rs_ret (re_sub (re_var 3) (re_pow re_int re_int)))) rb_nil)
    (rb_one (rs_ret (re_fn G__law_mixed hr (by decide) (by rfl) pass0 (rg_d (re_add (re_var 3) (re_mul (re_var 2) re_int)) (rg_d (re_var 1) rg_nil)) (an_d (an_d an_nil)))))))))⟩
/-! _law_pool -/
abbrev s__law_pool : Stmt := top 19
theorem sc__law_pool : FnScope ["script"] ["script"] (defScope s__law_pool) := ⟨rfl, rfl, rfl, by decide +kernel, rfl, by decide +kernel, by decide +kernel⟩
abbrev ms__law_pool : MS := DmP.ms__law_pool
abbrev mf__law_pool : MFO := DmP.mf__law_pool
theorem ok__law_pool {P : Program} {w : World} {K : PySem.W.Frag} {mg : Str → Option Value} {base : Heap} {f : Addr} {fd : FuncData} (F : Fun K "_law_pool" "_law_pool" s__law_pool f fd) (G__law_rest : HasFn P w K mg base "_law_rest" 2 ["script", "place", "fills"] (spD K 3 mf__law_rest)) :
    FnOk P w K mg base CX0 3 f fd ["script"] (spO K 1 mf__law_pool) := by
  refine fn_okO (k := 2) [] F sc__law_pool (by decide) ?_
  intro cdv A outer s H E hr
  exact ⟨_, (rb_one (rs_retO (ro_lst (rl_cons (re_var 0) (rl_cons re_int (rl_cons (re_fn G__law_rest hr (by decide) (by rfl) pass0 (rg_d (re_var 0) (rg_d re_int (rg_d re_int rg_nil))) (an_d (an_d (an_d an_nil)))) (rl_cons re_int rl_nil)))))))⟩
/-! _law_next -/
abbrev s__law_next : Stmt := top 20
theorem sc__law_next : FnScope ["pool"] ["pool"] (defScope s__law_next) := ⟨rfl, rfl, rfl, by decide +kernel, rfl, by decide +kernel, by decide +kernel⟩
abbrev ms__law_next : MS := DmP.ms__law_next
abbrev mf__law_next : MF := DmP.mf__law_next
theorem ok__law_next {P : Program} {w : World} {K : PySem.W.Frag} {mg : Str → Option Value} {base : Heap} {f : Addr} {fd : FuncData} (F : Fun K "_law_next" "_law_next" s__law_next f fd) (G__law_rest : HasFn P w K mg base "_law_rest" 2 ["script", "place", "fills"] (spD K 3 mf__law_rest)) :
    FnOk P w K mg base CX0 3 f fd ["pool"] (spD K 1 mf__law_next) := by
  refine fn_ok (k := 2) [0] F sc__law_next (by decide) ?_
  intro cdv A outer s H E hr
  exact ⟨_, (rb_cons (rs_put (i := 0) (hu_of hr) (re_bor (re_add (re_ix (hu_of hr) (re_var 0) re_int (by intro _ _; rfl)) re_int)) re_int)
    (rb_cons (rs_put (i := 0) (hu_of hr) (re_bor (re_fn G__law_rest hr (by decide) (by rfl) pass0 (rg_d (re_ix (hu_of hr) (re_var 0) re_int (by intro _ _; rfl)) (rg_d (re_ix (hu_of hr) (re_var 0) re_int (by intro _ _; rfl)) (rg_d re_int rg_nil))) (an_d (an_d (an_d an_nil))))) re_int)
    (rb_one (rs_put (i := 0) (hu_of hr) re_int re_int))))⟩
/-! _law_draw -/
abbrev s__law_draw : Stmt := top 21
theorem sc__law_draw : FnScope ["pool", "limit", "value"] ["pool", "limit"] (defScope s__law_draw) := ⟨rfl, rfl, rfl, by decide +kernel, rfl, by decide +kernel, by decide +kernel⟩
abbrev ms__law_draw : MS := DmP.ms__law_draw
abbrev mf__law_draw : MF := DmP.mf__law_draw
theorem ok__law_draw {P : Program} {w : World} {K : PySem.W.Frag} {mg : Str → Option Value} {base : Heap} {f : Addr} {fd : FuncData} (F : Fun K "_law_draw" "_law_draw" s__law_draw f fd) (G__law_rest : HasFn P w K mg base "_law_rest" 2 ["script", "place", "fills"] (spD K 3 mf__law_rest)) (b_int : mg "int" = none) :
    FnOk P w K mg base CX0 3 f fd ["pool", "limit"] (spD K 2 mf__law_draw) := by
  refine fn_ok (k := 2) [0] F sc__law_draw (by decide) ?_
  intro cdv A outer s H E hr
  exact ⟨_, (rb_cons (rs_if (rt_bor (rt_le (re_ix (hu_of hr) (re_var 0) re_int (by intro _ _; rfl)) re_int)) (rb_cons (rs_put (i := 0) (hu_of hr) (re_bor (re_add (re_ix (hu_of hr) (re_var 0) re_int (by intro _ _; rfl)) re_int)) re_int)
    (rb_one (rs_put (i := 0) (hu_of hr) (re_bor (re_fn G__law_rest hr (by decide) (by rfl) pass0 (rg_d (re_ix (hu_of hr) (re_var 0) re_int (by intro _ _; rfl)) (rg_d (re_ix (hu_of hr) (re_var 0) re_int (by intro _ _; rfl)) (rg_d (re_ix (hu_of hr) (re_var 0) re_int (by intro _ _; rfl)) rg_nil))) (an_d (an_d (an_d an_nil))))) re_int))) rb_nil)
    (rb_cons (rs_set (i := 2) sc__law_draw.nd rfl (by first | exact Or.inl rfl | exact Or.inr rfl) (by decide) (re_bor (re_mod (re_ct cr_int1 rx_int (by rfl) b_int (by decide +kernel) (rl_cons (re_ix (hu_of hr) (re_var 0) re_int (by intro _ _; rfl)) rl_nil)) (re_var 1))))
    (rb_cons (rs_put (i := 0) (hu_of hr) (re_bor (re_fdiv (re_ct cr_int1 rx_int (by rfl) b_int (by decide +kernel) (rl_cons (re_ix (hu_of hr) (re_var 0) re_int (by intro _ _; rfl)) rl_nil)) (re_var 1))) re_int)
    (rb_one (rs_ret (re_var 2))))))⟩
/-! _law_boxes -/
abbrev s__law_boxes : Stmt := top 22
theorem sc__law_boxes : FnScope ["pool", "many", "found", "words", "k", "west", "south"] ["pool", "many"] (defScope s__law_boxes) := ⟨rfl, rfl, rfl, by decide +kernel, rfl, by decide +kernel, by decide +kernel⟩
abbrev ms__law_boxes : MS := Bo.ms__law_boxes
abbrev mf__law_boxes : MF := Bo.mf__law_boxes
theorem ok__law_boxes {P : Program} {w : World} {K : PySem.W.Frag} {mg : Str → Option Value} {base : Heap} {f : Addr} {fd : FuncData} (F : Fun K "_law_boxes" "_law_boxes" s__law_boxes f fd) (G__law_next : HasFn P w K mg base "_law_next" 3 ["pool"] (spD K 1 mf__law_next)) (G__law_draw : HasFn P w K mg base "_law_draw" 3 ["pool", "limit"] (spD K 2 mf__law_draw)) (b_range : mg "range" = none) :
    FnOk P w K mg base CX0 4 f fd ["pool", "many"] (spD K 2 mf__law_boxes) := by
  refine fn_ok (k := 3) [0] F sc__law_boxes (by decide) ?_
  intro cdv A outer s H E hr
  exact ⟨_, (rb_cons (rs_setO (i := 2) sc__law_boxes.nd rfl (by first | exact Or.inl rfl | exact Or.inr rfl) (by decide) ro_dK)
    (rb_cons (rs_set (i := 3) sc__law_boxes.nd rfl (by first | exact Or.inl rfl | exact Or.inr rfl) (by decide) (RO.re (ro_lst (rl_cons re_str (rl_cons re_str (rl_cons re_str (rl_cons re_str (rl_cons re_str (rl_cons re_str (rl_cons re_str rl_nil))))))))))
    (rb_cons (rs_for PassesOwn.never (by rfl) (by decide) (ri_r1 (by rfl) b_range (rl_cons (re_var 1) rl_nil)) (rtg_name (i := 4) sc__law_boxes.nd rfl (by first | exact Or.inl rfl | exact Or.inr rfl)) (rb_cons (rs_expr (re_fn G__law_next hr (by decide) (by rfl) pass0 (rg_s 0 rg_nil) (an_s an_nil)))
    (rb_cons (rs_set (i := 5) sc__law_boxes.nd rfl (by first | exact Or.inl rfl | exact Or.inr rfl) (by decide) (re_fn G__law_draw hr (by decide) (by rfl) pass0 (rg_s 0 (rg_d re_int rg_nil)) (an_s (an_d an_nil))))
    (rb_cons (rs_set (i := 6) sc__law_boxes.nd rfl (by first | exact Or.inl rfl | exact Or.inr rfl) (by decide) (re_fn G__law_draw hr (by decide) (by rfl) pass0 (rg_s 0 (rg_d re_int rg_nil)) (an_s (an_d an_nil))))
    (rb_one (rs_put (i := 2) (hu_of hr) (re_tup (rl_cons (re_var 5) (rl_cons (re_add (re_add (re_var 5) re_int) (re_fn G__law_draw hr (by decide) (by rfl) pass0 (rg_s 0 (rg_d re_int rg_nil)) (an_s (an_d an_nil)))) (rl_cons (re_var 6) (rl_cons (re_add (re_add (re_var 6) re_int) (re_fn G__law_draw hr (by decide) (by rfl) pass0 (rg_s 0 (rg_d re_int rg_nil)) (an_s (an_d an_nil)))) rl_nil))))) (re_ix (hu_of hr) (re_var 3) (re_var 4) (by intro _ _; rfl))))))))
    (rb_cons (rs_if (rt_eqA hr.units (re_fn G__law_draw hr (by decide) (by rfl) pass0 (rg_s 0 (rg_d re_int rg_nil)) (an_s (an_d an_nil))) re_int) (rb_one (rs_put (i := 2) (hu_of hr) (re_tup (rl_cons re_int (rl_cons re_int (rl_cons re_int (rl_cons re_int rl_nil))))) re_str)) rb_nil)
    (rb_one (rs_ret (re_frz 2)))))))⟩
/-! _law_squares -/
abbrev s__law_squares : Stmt := top 23
theorem sc__law_squares : FnScope ["box", "found", "x", "y"] ["box"] (defScope s__law_squares) := ⟨rfl, rfl, rfl, by decide +kernel, rfl, by decide +kernel, by decide +kernel⟩
abbrev ms__law_squares : MS := Bo.ms__law_squares
abbrev mf__law_squares : MF := Bo.mf__law_squares
theorem ok__law_squares {P : Program} {w : World} {K : PySem.W.Frag} {mg : Str → Option Value} {base : Heap} {f : Addr} {fd : FuncData} (F : Fun K "_law_squares" "_law_squares" s__law_squares f fd) (b_range : mg "range" = none) :
    FnOk P w K mg base CX0 1 f fd ["box"] (spD K 1 mf__law_squares) := by
  refine fn_ok (k := 0) [] F sc__law_squares (by decide) ?_
  intro cdv A outer s H E hr
  exact ⟨_, (rb_cons (rs_set (i := 1) sc__law_squares.nd rfl (by first | exact Or.inl rfl | exact Or.inr rfl) (by decide) (RO.re (ro_lst rl_nil)))
    (rb_cons (rs_for PassesOwn.never (by rfl) (by decide) (ri_r2 (by rfl) b_range (rl_cons (re_ix (hu_of hr) (re_var 0) re_int (by intro _ _; rfl)) (rl_cons (re_ix (hu_of hr) (re_var 0) re_int (by intro _ _; rfl)) rl_nil))) (rtg_name (i := 2) sc__law_squares.nd rfl (by first | exact Or.inl rfl | exact Or.inr rfl)) (rb_one (rs_set (i := 1) sc__law_squares.nd rfl (by first | exact Or.inl rfl | exact Or.inr rfl) (by decide) (re_add (re_var 1) (RO.re (bo_lc (by rfl) sc__law_squares.nd (ri_r2 (by rfl) b_range (rl_cons (re_ix (hu_of hr) (re_var 0) re_int (by intro _ _; rfl)) (rl_cons (re_ix (hu_of hr) (re_var 0) re_int (by intro _ _; rfl)) rl_nil))) (own := [("y", 3)]) (show BlkOk ["box", "found", "x", "y"] (defScope s__law_squares) _ [("y", 3)] from ⟨rfl, by decide +kernel, by decide +kernel, by decide +kernel, by decide +kernel⟩) (fun _ _ _ _ _ => (rtg_name (i := 3) sc__law_squares.nd rfl (by first | exact Or.inl rfl | exact Or.inr rfl)).b) (fun _ _ _ _ _ => (rif_nil).b) (fun _ _ _ _ _ => (re_tup (rl_cons (re_var 2) (rl_cons (re_var 3) rl_nil))).b) (by decide)))))))
    (rb_one (rs_ret (re_var 1)))))⟩
/-! _law_together -/
abbrev s__law_together : Stmt := top 24
theorem sc__law_together : FnScope ["one", "other", "square"] ["one", "other"] (defScope s__law_together) := ⟨rfl, rfl, rfl, by decide +kernel, rfl, by decide +kernel, by decide +kernel⟩
abbrev ms__law_together : MS := Bo.ms__law_together
abbrev mf__law_together : MF := Bo.mf__law_together
theorem ok__law_together {P : Program} {w : World} {K : PySem.W.Frag} {mg : Str → Option Value} {base : Heap} {f : Addr} {fd : FuncData} (F : Fun K "_law_together" "_law_together" s__law_together f fd) (G__law_squares : HasFn P w K mg base "_law_squares" 1 ["box"] (spD K 1 mf__law_squares)) (b_len : mg "len" = none) :
    FnOk P w K mg base CX0 2 f fd ["one", "other"] (spD K 2 mf__law_together) := by
  refine fn_ok (k := 1) [] F sc__law_together (by decide) ?_
  intro cdv A outer s H E hr
  exact ⟨_, (rb_cons (rs_if (rt_gt (re_cb cr_lenD rx_len (by rfl) b_len (by decide +kernel) (rl_cons (RO.re (bo_lc (by rfl) sc__law_together.nd (ri_seq (re_fn G__law_squares hr (by decide) (by rfl) pass0 (rg_d (re_var 0) rg_nil) (an_d an_nil))) (own := [("square", 2)]) (show BlkOk ["one", "other", "square"] (defScope s__law_together) _ [("square", 2)] from ⟨rfl, by decide +kernel, by decide +kernel, by decide +kernel, by decide +kernel⟩) (fun _ _ _ _ _ => (rtg_name (i := 2) sc__law_together.nd rfl (by first | exact Or.inl rfl | exact Or.inr rfl)).b) (fun _ _ _ _ _ => (rif_one (rt_in hr.units (re_var 2) (re_fn G__law_squares hr (by decide) (by rfl) pass0 (rg_d (re_var 1) rg_nil) (an_d an_nil)))).b) (fun _ _ _ _ _ => (re_var 2).b) (by decide))) rl_nil)) re_int) (rb_one (rs_ret re_bl)) rb_nil)
    (rb_one (rs_ret (re_or (re_neA hr.units (re_ix (hu_of hr) (re_var 0) re_int (by intro _ _; rfl)) (re_ix (hu_of hr) (re_var 1) re_int (by intro _ _; rfl))) (re_one (re_and (re_neA hr.units (re_ix (hu_of hr) (re_var 0) re_int (by intro _ _; rfl)) (re_ix (hu_of hr) (re_var 1) re_int (by intro _ _; rfl))) (re_one (re_neA hr.units (re_ix (hu_of hr) (re_var 1) re_int (by intro _ _; rfl)) (re_ix (hu_of hr) (re_var 0) re_int (by intro _ _; rfl))))))))))⟩
/-! _law_placed -/
abbrev s__law_placed : Stmt := top 25
theorem sc__law_placed : FnScope ["places", "names", "found", "name", "further", "rows", "number", "box", "row"] ["places", "names"] (defScope s__law_placed) := ⟨rfl, rfl, rfl, by decide +kernel, rfl, by decide +kernel, by decide +kernel⟩
abbrev ms__law_placed : MS := Tr.ms__law_placed
abbrev mf__law_placed : MF := Tr.mf__law_placed
theorem ok__law_placed {P : Program} {w : World} {K : PySem.W.Frag} {mg : Str → Option Value} {base : Heap} {f : Addr} {fd : FuncData} (F : Fun K "_law_placed" "_law_placed" s__law_placed f fd) (G__law_together : HasFn P w K mg base "_law_together" 2 ["one", "other"] (spD K 2 mf__law_together)) (b_len : mg "len" = none) (b_range : mg "range" = none) :
    FnOk P w K mg base CX0 3 f fd ["places", "names"] (spD K 2 mf__law_placed) := by
  refine fn_ok (k := 2) [] F sc__law_placed (by decide) ?_
  intro cdv A outer s H E hr
  exact ⟨_, (rb_cons (rs_set (i := 2) sc__law_placed.nd rfl (by first | exact Or.inl rfl | exact Or.inr rfl) (by decide) (RO.re (ro_lst (rl_cons (re_tup rl_nil) rl_nil))))
    (rb_cons (rs_for PassesOwn.never (by rfl) (by decide) (ri_seq (re_var 1)) (rtg_name (i := 3) sc__law_placed.nd rfl (by first | exact Or.inl rfl | exact Or.inr rfl)) (rb_cons (rs_setO (i := 4) sc__law_placed.nd rfl (by first | exact Or.inl rfl | exact Or.inr rfl) (by decide) (ro_lst rl_nil))
    (rb_cons (rs_for PassesOwn.never (by rfl) (by decide) (ri_seq (re_var 2)) (rtg_name (i := 5) sc__law_placed.nd rfl (by first | exact Or.inl rfl | exact Or.inr rfl)) (rb_one (rs_for PassesOwn.never (by rfl) (by decide) (ri_r1 (by rfl) b_range (rl_cons (re_cb cr_lenD rx_len (by rfl) b_len (by decide +kernel) (rl_cons (re_ix (hu_of hr) (re_var 0) (re_var 3) (by intro _ _; rfl)) rl_nil)) rl_nil)) (rtg_name (i := 6) sc__law_placed.nd rfl (by first | exact Or.inl rfl | exact Or.inr rfl)) (rb_cons (rs_set (i := 7) sc__law_placed.nd rfl (by first | exact Or.inl rfl | exact Or.inr rfl) (by decide) (re_ix (hu_of hr) (re_ix (hu_of hr) (re_ix (hu_of hr) (re_var 0) (re_var 3) (by intro _ _; rfl)) (re_var 6) (by intro _ _; rfl)) re_int (by intro _ _; rfl)))
    (rb_one (rs_if (rt_eqA hr.units (re_cb cr_lenD rx_len (by rfl) b_len (by decide +kernel) (rl_cons (RO.re (bo_lc (by rfl) sc__law_placed.nd (ri_seq (re_var 5)) (own := [("row", 8)]) (show BlkOk ["places", "names", "found", "name", "further", "rows", "number", "box", "row"] (defScope s__law_placed) _ [("row", 8)] from ⟨rfl, by decide +kernel, by decide +kernel, by decide +kernel, by decide +kernel⟩) (fun _ _ _ _ _ => (rtg_name (i := 8) sc__law_placed.nd rfl (by first | exact Or.inl rfl | exact Or.inr rfl)).b) (fun _ _ _ _ _ => (rif_one (rt_not (rt_tru (re_fn G__law_together hr (by decide) (by rfl) pass0 (rg_d (re_ix (hu_of hr) (re_ix (hu_of hr) (re_ix (hu_of hr) (re_var 0) (re_ix (hu_of hr) (re_var 8) re_int (by intro _ _; rfl)) (by intro _ _; rfl)) (re_ix (hu_of hr) (re_var 8) re_int (by intro _ _; rfl)) (by intro _ _; rfl)) re_int (by intro _ _; rfl)) (rg_d (re_var 7) rg_nil)) (an_d (an_d an_nil)))))).b) (fun _ _ _ _ _ => (re_var 8).b) (by decide))) rl_nil)) re_int) (rb_one (rs_app (i := 4) (re_add (re_var 5) (re_tup (rl_cons (re_tup (rl_cons (re_var 3) (rl_cons (re_var 6) rl_nil))) rl_nil))))) rb_nil))))))
    (rb_one (rs_set (i := 2) sc__law_placed.nd rfl (by first | exact Or.inl rfl | exact Or.inr rfl) (by decide) (re_frz 4))))))
    (rb_one (rs_ret (re_var 2)))))⟩
/-! _law_shows -/
abbrev s__law_shows : Stmt := top 26
theorem sc__law_shows : FnScope ["places", "names", "tree_v", "taken", "left", "number", "branch", "row", "name"] ["places", "names", "tree_v", "taken"] (defScope s__law_shows) := ⟨rfl, rfl, rfl, by decide +kernel, rfl, by decide +kernel, by decide +kernel⟩
abbrev ms__law_shows : MF → MS := Tr.ms__law_shows
abbrev mf__law_shows : Nat → MF := Tr.mf__law_shows
theorem ok__law_shows {P : Program} {w : World} {K : PySem.W.Frag} {mg : Str → Option Value} {base : Heap} {f : Addr} {fd : FuncData} {dvs : List V} (F : FunD K "_law_shows" "_law_shows" (defArgs s__law_shows) (defBody s__law_shows) (defScope s__law_shows) dvs [] f fd) (m_self : mg "_law_shows" = some (.ref f)) (k_self : PySem.W.keepIn K (.ref f) = true) (d_self : Binds K fd ["places", "names", "tree_v", "taken"] []) (G__law_together : HasFn P w K mg base "_law_together" 2 ["one", "other"] (spD K 2 mf__law_together)) (b_len : mg "len" = none) (b_range : mg "range" = none) :
    ∀ n, FnOk P w K mg base CX0 (3 + n) f fd ["places", "names", "tree_v", "taken"] (spD K 4 (mf__law_shows n))
  | 0 => fn_no (k := 2) F sc__law_shows rfl
  | n + 1 => by
    have G__law_shows : HasFn P w K mg base "_law_shows" (3 + n) ["places", "names", "tree_v", "taken"] (spD K 4 (mf__law_shows n)) := ⟨f, fd, ok__law_shows F m_self k_self d_self G__law_together b_len b_range n, m_self, k_self, d_self⟩
    refine fn_okD (k := 3 + n) [] F sc__law_shows (by decide) ?_
    intro cdv A outer s H E hr
    exact ⟨_, (rb_cons (rs_if (RW.rt (rw_or (rt_neA hr.units (re_ix (hu_of hr) (re_var 2) re_int (by intro _ _; rfl)) re_str) (rw_or (rt_notIn hr.units (re_ix (hu_of hr) (re_var 2) re_int (by intro _ _; rfl)) (re_var 1)) (rw_or1 (rt_neA hr.units (re_cb cr_lenD rx_len (by rfl) b_len (by decide +kernel) (rl_cons (re_ix (hu_of hr) (re_var 2) re_int (by intro _ _; rfl)) rl_nil)) (re_cb cr_lenD rx_len (by rfl) b_len (by decide +kernel) (rl_cons (re_ix (hu_of hr) (re_var 0) (re_ix (hu_of hr) (re_var 2) re_int (by intro _ _; rfl)) (by intro _ _; rfl)) rl_nil))))))) (rb_one (rs_ret re_bl)) rb_nil)
    (rb_cons (bs_setLc (i := 4) (by rfl) sc__law_shows.nd rfl rfl (by rfl) (by decide) (ri_seq (re_var 1)) (own := [("name", 8)]) (show BlkOk ["places", "names", "tree_v", "taken", "left", "number", "branch", "row", "name"] (defScope s__law_shows) _ [("name", 8)] from ⟨rfl, by decide +kernel, by decide +kernel, by decide +kernel, by decide +kernel⟩) (fun _ _ _ _ _ => (rtg_name (i := 8) sc__law_shows.nd rfl (by first | exact Or.inl rfl | exact Or.inr rfl)).b) (fun _ _ _ _ _ => (rif_one (rt_neA hr.units (re_var 8) (re_ix (hu_of hr) (re_var 2) re_int (by intro _ _; rfl)))).b) (fun _ _ _ _ _ => (re_var 8).b) (by decide))
    (rb_cons (rs_for PassesOwn.never (by rfl) (by decide) (ri_r1 (by rfl) b_range (rl_cons (re_cb cr_lenD rx_len (by rfl) b_len (by decide +kernel) (rl_cons (re_ix (hu_of hr) (re_var 2) re_int (by intro _ _; rfl)) rl_nil)) rl_nil)) (rtg_name (i := 5) sc__law_shows.nd rfl (by first | exact Or.inl rfl | exact Or.inr rfl)) (rb_cons (rs_set (i := 6) sc__law_shows.nd rfl (by first | exact Or.inl rfl | exact Or.inr rfl) (by decide) (re_ix (hu_of hr) (re_ix (hu_of hr) (re_var 2) re_int (by intro _ _; rfl)) (re_var 5) (by intro _ _; rfl)))
    (rb_one (rs_if (rt_eqA hr.units (re_ix (hu_of hr) (re_var 6) re_int (by intro _ _; rfl)) re_str) (rb_cons (rs_set (i := 7) sc__law_shows.nd rfl (by first | exact Or.inl rfl | exact Or.inr rfl) (by decide) (re_ix (hu_of hr) (re_var 6) re_int (by intro _ _; rfl)))
    (rb_one (rs_if (RW.rt (rw_or (rt_notIn hr.units (re_var 7) (re_var 3)) (rw_or1 (rt_tru (re_fn G__law_together hr (by omega) (by rfl) pass0 (rg_d (re_ix (hu_of hr) (re_ix (hu_of hr) (re_ix (hu_of hr) (re_var 0) (re_ix (hu_of hr) (re_var 7) re_int (by intro _ _; rfl)) (by intro _ _; rfl)) (re_ix (hu_of hr) (re_var 7) re_int (by intro _ _; rfl)) (by intro _ _; rfl)) re_int (by intro _ _; rfl)) (rg_d (re_ix (hu_of hr) (re_ix (hu_of hr) (re_ix (hu_of hr) (re_var 0) (re_ix (hu_of hr) (re_var 2) re_int (by intro _ _; rfl)) (by intro _ _; rfl)) (re_var 5) (by intro _ _; rfl)) re_int (by intro _ _; rfl)) rg_nil)) (an_d (an_d an_nil))))))) (rb_one (rs_ret re_bl)) rb_nil))) (rb_one (rs_if (rt_not (rt_tru (re_fn G__law_shows hr (by omega) (by rfl) pass0 (rg_d (re_var 0) (rg_d (re_var 4) (rg_d (re_var 6) (rg_d (re_add (re_var 3) (RO.re (ro_lst (rl_cons (re_tup (rl_cons (re_ix (hu_of hr) (re_var 2) re_int (by intro _ _; rfl)) (rl_cons (re_var 5) rl_nil))) rl_nil)))) rg_nil)))) (an_d (an_d (an_d (an_d an_nil))))))) (rb_one (rs_ret re_bl)) rb_nil))))))
    (rb_one (rs_ret re_bl)))))⟩
/-! _law_bent -/
abbrev s__law_bent : Stmt := top 27
theorem sc__law_bent : FnScope ["pool", "tree_v", "form", "spot", "branch"] ["pool", "tree_v"] (defScope s__law_bent) := ⟨rfl, rfl, rfl, by decide +kernel, rfl, by decide +kernel, by decide +kernel⟩
abbrev ms__law_bent : MS := Tr.ms__law_bent
abbrev mf__law_bent : MF := Tr.mf__law_bent
theorem ok__law_bent {P : Program} {w : World} {K : PySem.W.Frag} {mg : Str → Option Value} {base : Heap} {f : Addr} {fd : FuncData} (F : Fun K "_law_bent" "_law_bent" s__law_bent f fd) (G__law_draw : HasFn P w K mg base "_law_draw" 3 ["pool", "limit"] (spD K 2 mf__law_draw)) (b_len : mg "len" = none) :
    FnOk P w K mg base CX0 4 f fd ["pool", "tree_v"] (spD K 2 mf__law_bent) := by
  refine fn_ok (k := 3) [0] F sc__law_bent (by decide) ?_
  intro cdv A outer s H E hr
  exact ⟨_, (rb_cons (rs_set (i := 2) sc__law_bent.nd rfl (by first | exact Or.inl rfl | exact Or.inr rfl) (by decide) (re_fn G__law_draw hr (by decide) (by rfl) pass0 (rg_s 0 (rg_d re_int rg_nil)) (an_s (an_d an_nil))))
    (rb_cons (rs_if (RW.rt (rw_or (rt_eqA hr.units (re_var 2) re_int) (rw_or1 (rt_eqA hr.units (re_ix (hu_of hr) (re_var 1) re_int (by intro _ _; rfl)) (re_tup rl_nil))))) (rb_one (rs_ret (re_tup (rl_cons re_str (rl_cons re_str (rl_cons (re_ix (hu_of hr) (re_var 1) re_int (by intro _ _; rfl)) rl_nil)))))) rb_nil)
    (rb_cons (rs_set (i := 3) sc__law_bent.nd rfl (by first | exact Or.inl rfl | exact Or.inr rfl) (by decide) (re_fn G__law_draw hr (by decide) (by rfl) pass0 (rg_s 0 (rg_d (re_cb cr_lenD rx_len (by rfl) b_len (by decide +kernel) (rl_cons (re_ix (hu_of hr) (re_var 1) re_int (by intro _ _; rfl)) rl_nil)) rg_nil)) (an_s (an_d an_nil))))
    (rb_cons (rs_set (i := 4) sc__law_bent.nd rfl (by first | exact Or.inl rfl | exact Or.inr rfl) (by decide) (re_ix (hu_of hr) (re_ix (hu_of hr) (re_var 1) re_int (by intro _ _; rfl)) (re_var 3) (by intro _ _; rfl)))
    (rb_cons (rs_if (rt_eqA hr.units (re_var 2) re_int) (rb_one (rs_ret (re_tup (rl_cons re_str (rl_cons (re_ix (hu_of hr) (re_var 1) re_int (by intro _ _; rfl)) (rl_cons (re_add (re_sl (re_ix (hu_of hr) (re_var 1) re_int (by intro _ _; rfl)) rp_no (rp_so (re_var 3))) (re_sl (re_ix (hu_of hr) (re_var 1) re_int (by intro _ _; rfl)) (rp_so (re_add (re_var 3) re_int)) rp_no)) rl_nil)))))) rb_nil)
    (rb_cons (rs_if (rt_eqA hr.units (re_ix (hu_of hr) (re_var 4) re_int (by intro _ _; rfl)) re_str) (rb_one (rs_ret (re_tup (rl_cons re_str (rl_cons (re_ix (hu_of hr) (re_var 1) re_int (by intro _ _; rfl)) (rl_cons (re_add (re_add (re_sl (re_ix (hu_of hr) (re_var 1) re_int (by intro _ _; rfl)) rp_no (rp_so (re_var 3))) (re_tup (rl_cons (re_tup (rl_cons re_str (rl_cons (re_tup (rl_cons (re_ix (hu_of hr) (re_ix (hu_of hr) (re_var 4) re_int (by intro _ _; rfl)) re_int (by intro _ _; rfl)) (rl_cons (re_add (re_ix (hu_of hr) (re_ix (hu_of hr) (re_var 4) re_int (by intro _ _; rfl)) re_int (by intro _ _; rfl)) re_int) rl_nil))) rl_nil))) rl_nil))) (re_sl (re_ix (hu_of hr) (re_var 1) re_int (by intro _ _; rfl)) (rp_so (re_add (re_var 3) re_int)) rp_no)) rl_nil)))))) rb_nil)
    (rb_one (rs_ret (re_tup (rl_cons re_str (rl_cons (re_ix (hu_of hr) (re_var 1) re_int (by intro _ _; rfl)) (rl_cons (re_add (re_add (re_sl (re_ix (hu_of hr) (re_var 1) re_int (by intro _ _; rfl)) rp_no (rp_so (re_var 3))) (re_tup (rl_cons (re_tup (rl_cons re_str (rl_cons (re_tup (rl_cons (re_ix (hu_of hr) (re_var 1) re_int (by intro _ _; rfl)) (rl_cons (re_var 3) rl_nil))) rl_nil))) rl_nil))) (re_sl (re_ix (hu_of hr) (re_var 1) re_int (by intro _ _; rfl)) (rp_so (re_add (re_var 3) re_int)) rp_no)) rl_nil))))))))))))⟩
/-! law -/
abbrev s_law : Stmt := top 28
theorem sc_law : FnScope ["script", "pool", "turn", "boxes", "window", "places", "names", "ways", "told", "step", "bent"] ["script"] (defScope s_law) := ⟨rfl, rfl, rfl, by decide +kernel, rfl, by decide +kernel, by decide +kernel⟩
def ms_law : MS := (sSeq (sAsgO 1 (mCallO mf__law_pool (aD (mVar 0) aNil)))
  (sSeq (sFor (iR1 (mCons (mC (.int 3)) mNil)) (gN 2) (sSeq (sAsg 3 (mCall mf__law_boxes (aSl 1 (aD (mOp2 gAdd (mC (.int 2)) (mCall mf__law_draw (aSl 1 (aD (mC (.int 4)) aNil)))) aNil))))
  (sSeq (sAsg 4 (mTup (mCons (mOp1 gNeg (mC (.int 1))) (mCons (mOp2 gAdd (mC (.int 6)) (mCall mf__law_draw (aSl 1 (aD (mC (.int 5)) aNil)))) (mCons (mOp1 gNeg (mC (.int 1))) (mCons (mC (.int 5)) mNil))))))
  (sSeq (sAsg 5 (mCall mf_all_places (aD (mVar 3) (aD (mVar 4) aNil))))
  (sSeq (sAsg 6 (mCb gSortedA (mCons (mVar 5) mNil)))
  (sSeq (sAsg 7 (mCall mf__law_placed (aD (mVar 5) (aD (mVar 6) aNil))))
  (sSeq (sAsg 8 (mCall mf_placed (aD (mVar 5) (aD (mCb gTupOf (mCons (mVar 6) mNil)) aNil))))
  (sIf (mTst (mOp2 gNeA (mVar 7) (mOf (oLst mNil)))) (sIf (mOrT (mTst (mOp2 gNeA (mVar 8) (mTup (mCons (mC (.str "placed")) (mCons (mOp2 gIx (mVar 7) (mC (.int 0))) mNil))))) (mNotT (mTru (mIsi "tuple" (mOp2 gIx (mVar 8) (mC (.int 1))))))) (sRet (mC (.bool false))) sNx) (sSeq (sIf (mOrT (mTst (mOp2 gNeA (mOp2 gIx (mVar 8) (mC (.int 0))) (mC (.str "none")))) (mNotT (mTru (mCall (mf__law_shows 12) (aD (mVar 5) (aD (mVar 6) (aD (mOp2 gIx (mVar 8) (mC (.int 1))) (aD (mOf (oLst mNil)) aNil)))))))) (sRet (mC (.bool false))) sNx)
  (sSeq (sIf (mTst (mOp2 gNotN (mCallD (mf_fault_of_tree 12) (aD (mVar 5) (aD (mCb gTupOf (mCons (mVar 6) mNil)) (aD (mOp2 gIx (mVar 8) (mC (.int 1))) aNil))) [.tuple []]) (mC .none))) (sRet (mC (.bool false))) sNx)
  (sFor (iR1 (mCons (mC (.int 4)) mNil)) (gN 9) (sSeq (sAsg 10 (mCall mf__law_bent (aSl 1 (aD (mOp2 gIx (mVar 8) (mC (.int 1))) aNil))))
  (sIf (mTst (mOp2 gNeA (mOp2 gIsN (mCallD (mf_fault_of_tree 12) (aD (mVar 5) (aD (mCb gTupOf (mCons (mVar 6) mNil)) (aD (mVar 10) aNil))) [.tuple []]) (mC .none)) (mCall (mf__law_shows 12) (aD (mVar 5) (aD (mVar 6) (aD (mVar 10) (aD (mOf (oLst mNil)) aNil))))))) (sRet (mC (.bool false))) sNx)))))))))))))
  (sRet (mOp2 gEqA (mCall mf_placed (aD (mOf oDK) (aD (mTup mNil) aNil))) (mTup (mCons (mC (.str "placed")) (mCons (mTup mNil) mNil)))))))
def mf_law : MF := mFn 1 11 [] ms_law
theorem ok_law {P : Program} {w : World} {K : PySem.W.Frag} {mg : Str → Option Value} {base : Heap} {f : Addr} {fd : FuncData} (F : Fun K "law" "law" s_law f fd) (G_all_places : HasFn P w K mg base "all_places" 3 ["boxes", "window"] (spD K 2 mf_all_places)) (G_placed : HasFn P w K mg base "placed" 17 ["places", "names"] (spD K 2 mf_placed)) (G__law_pool : HasFn P w K mg base "_law_pool" 3 ["script"] (spO K 1 mf__law_pool)) (G__law_draw : HasFn P w K mg base "_law_draw" 3 ["pool", "limit"] (spD K 2 mf__law_draw)) (G__law_boxes : HasFn P w K mg base "_law_boxes" 4 ["pool", "many"] (spD K 2 mf__law_boxes)) (G__law_placed : HasFn P w K mg base "_law_placed" 3 ["places", "names"] (spD K 2 mf__law_placed)) (G__law_shows : HasFn P w K mg base "_law_shows" 15 ["places", "names", "tree_v", "taken"] (spD K 4 (mf__law_shows 12))) (G__law_bent : HasFn P w K mg base "_law_bent" 4 ["pool", "tree_v"] (spD K 2 mf__law_bent)) (G_fault_of_tree_3 : HasFnD P w K mg base "fault_of_tree" 15 ["places", "names", "told", "taken"] (spD K 4 (mf_fault_of_tree 12)) [.tuple []]) (b_isinstance : mg "isinstance" = none) (b_range : mg "range" = none) (b_sorted : mg "sorted" = none) (b_tuple : mg "tuple" = none) :
    FnOk P w K mg base CX0 18 f fd ["script"] (spD K 1 mf_law) := by
  refine fn_ok (k := 17) [] F sc_law (by decide) ?_
  intro cdv A outer s H E hr
  exact ⟨_, (rb_cons (rs_setO (i := 1) sc_law.nd rfl (by first | exact Or.inl rfl | exact Or.inr rfl) (by decide) (ro_fn G__law_pool hr (by decide) (by rfl) pass0 (rg_d (re_var 0) rg_nil) (an_d an_nil)))
    (rb_cons (rs_for PassesOwn.never (by rfl) (by decide) (ri_r1 (by rfl) b_range (rl_cons re_int rl_nil)) (rtg_name (i := 2) sc_law.nd rfl (by first | exact Or.inl rfl | exact Or.inr rfl)) (rb_cons (rs_set (i := 3) sc_law.nd rfl (by first | exact Or.inl rfl | exact Or.inr rfl) (by decide) (re_fn G__law_boxes hr (by decide) (by rfl) pass0 (rg_s 1 (rg_d (re_add re_int (re_fn G__law_draw hr (by decide) (by rfl) pass0 (rg_s 1 (rg_d re_int rg_nil)) (an_s (an_d an_nil)))) rg_nil)) (an_s (an_d an_nil))))
    (rb_cons (rs_set (i := 4) sc_law.nd rfl (by first | exact Or.inl rfl | exact Or.inr rfl) (by decide) (re_tup (rl_cons (re_neg re_int) (rl_cons (re_add re_int (re_fn G__law_draw hr (by decide) (by rfl) pass0 (rg_s 1 (rg_d re_int rg_nil)) (an_s (an_d an_nil)))) (rl_cons (re_neg re_int) (rl_cons re_int rl_nil))))))
    (rb_cons (rs_set (i := 5) sc_law.nd rfl (by first | exact Or.inl rfl | exact Or.inr rfl) (by decide) (re_fn G_all_places hr (by decide) (by rfl) pass0 (rg_d (re_var 3) (rg_d (re_var 4) rg_nil)) (an_d (an_d an_nil))))
    (rb_cons (rs_set (i := 6) sc_law.nd rfl (by first | exact Or.inl rfl | exact Or.inr rfl) (by decide) (re_cb (cr_sortA (by rfl) hr.units) rx_sortA (by rfl) b_sorted (by decide +kernel) (rl_cons (re_var 5) rl_nil)))
    (rb_cons (rs_set (i := 7) sc_law.nd rfl (by first | exact Or.inl rfl | exact Or.inr rfl) (by decide) (re_fn G__law_placed hr (by decide) (by rfl) pass0 (rg_d (re_var 5) (rg_d (re_var 6) rg_nil)) (an_d (an_d an_nil))))
    (rb_cons (rs_set (i := 8) sc_law.nd rfl (by first | exact Or.inl rfl | exact Or.inr rfl) (by decide) (re_fn G_placed hr (by decide) (by rfl) pass0 (rg_d (re_var 5) (rg_d (re_ct cr_tupOf rx_tupOf (by rfl) b_tuple (by decide +kernel) (rl_cons (re_var 6) rl_nil)) rg_nil)) (an_d (an_d an_nil))))
    (rb_one (rs_if (rt_neA hr.units (re_var 7) (RO.re (ro_lst rl_nil))) (rb_one (rs_if (RW.rt (rw_or (rt_neA hr.units (re_var 8) (re_tup (rl_cons re_str (rl_cons (re_ix (hu_of hr) (re_var 7) re_int (by intro _ _; rfl)) rl_nil)))) (rw_or1 (rt_not (rt_tru (re_isi .tuple (by rfl) b_isinstance (by rfl) b_tuple (by decide +kernel) (re_ix (hu_of hr) (re_var 8) re_int (by intro _ _; rfl)))))))) (rb_one (rs_ret re_bl)) rb_nil)) (rb_cons (rs_if (RW.rt (rw_or (rt_neA hr.units (re_ix (hu_of hr) (re_var 8) re_int (by intro _ _; rfl)) re_str) (rw_or1 (rt_not (rt_tru (re_fn G__law_shows hr (by decide) (by rfl) pass0 (rg_d (re_var 5) (rg_d (re_var 6) (rg_d (re_ix (hu_of hr) (re_var 8) re_int (by intro _ _; rfl)) (rg_d (RO.re (ro_lst rl_nil)) rg_nil)))) (an_d (an_d (an_d (an_d an_nil)))))))))) (rb_one (rs_ret re_bl)) rb_nil)
    (rb_cons (rs_if (rt_notN (re_fnD G_fault_of_tree_3 hr (by decide) (by rfl) pass0 (rg_d (re_var 5) (rg_d (re_ct cr_tupOf rx_tupOf (by rfl) b_tuple (by decide +kernel) (rl_cons (re_var 6) rl_nil)) (rg_d (re_ix (hu_of hr) (re_var 8) re_int (by intro _ _; rfl)) rg_nil))) (an_d (an_d (an_d an_nil))) (by rfl)) re_non) (rb_one (rs_ret re_bl)) rb_nil)
    (rb_one (rs_for PassesOwn.never (by rfl) (by decide) (ri_r1 (by rfl) b_range (rl_cons re_int rl_nil)) (rtg_name (i := 9) sc_law.nd rfl (by first | exact Or.inl rfl | exact Or.inr rfl)) (rb_cons (rs_set (i := 10) sc_law.nd rfl (by first | exact Or.inl rfl | exact Or.inr rfl) (by decide) (re_fn G__law_bent hr (by decide) (by rfl) pass0 (rg_s 1 (rg_d (re_ix (hu_of hr) (re_var 8) re_int (by intro _ _; rfl)) rg_nil)) (an_s (an_d an_nil))))
    (rb_one (rs_if (rt_neA hr.units (re_isN (re_fnD G_fault_of_tree_3 hr (by decide) (by rfl) pass0 (rg_d (re_var 5) (rg_d (re_ct cr_tupOf rx_tupOf (by rfl) b_tuple (by decide +kernel) (rl_cons (re_var 6) rl_nil)) (rg_d (re_var 10) rg_nil))) (an_d (an_d (an_d an_nil))) (by rfl)) re_non) (re_fn G__law_shows hr (by decide) (by rfl) pass0 (rg_d (re_var 5) (rg_d (re_var 6) (rg_d (re_var 10) (rg_d (RO.re (ro_lst rl_nil)) rg_nil)))) (an_d (an_d (an_d (an_d an_nil)))))) (rb_one (rs_ret re_bl)) rb_nil))))))))))))))))
    (rb_one (rs_ret (re_eqA hr.units (re_fn G_placed hr (by decide) (by rfl) pass0 (rg_d (RO.re ro_dK) (rg_d (re_tup rl_nil) rg_nil)) (an_d (an_d an_nil))) (re_tup (rl_cons re_str (rl_cons (re_tup rl_nil) rl_nil))))))))⟩
/-! the head -/
theorem all_mk {l : PySem.W.OpenLaw} {w : World} {K : PySem.W.Frag} {h : Heap} {mg : Str → Option Value} {fa f0 f1 f2 f3 f4 f5 f6 f7 f8 f9 f10 f11 f12 f13 f14 f15 f16 f17 f18 f19 f20 f21 f22 f23 f24 : Addr} (X : K.In h) (G : h.Ns mainGlobals mg) (hfa : mg "law" = some (.ref fa))
    {od0 an0 : Option Addr} {sl0 : Array (Option Value)} {oc0 kV0 dc0 pm0 cd0 ct0 : Value} {od1 an1 : Option Addr} {sl1 : Array (Option Value)} {oc1 kV1 dc1 pm1 cd1 ct1 : Value} {od2 an2 : Option Addr} {sl2 : Array (Option Value)} {oc2 kV2 dc2 pm2 cd2 ct2 : Value} {od3 an3 : Option Addr} {sl3 : Array (Option Value)} {oc3 kV3 dc3 pm3 cd3 ct3 : Value} {od4 an4 : Option Addr} {sl4 : Array (Option Value)} {oc4 kV4 dc4 pm4 cd4 ct4 : Value} {od5 an5 : Option Addr} {sl5 : Array (Option Value)} {oc5 kV5 dc5 pm5 cd5 ct5 : Value} {od6 an6 : Option Addr} {sl6 : Array (Option Value)} {oc6 kV6 dc6 pm6 cd6 ct6 : Value} {od7 an7 : Option Addr} {sl7 : Array (Option Value)} {oc7 kV7 dc7 pm7 cd7 ct7 : Value} {od8 an8 : Option Addr} {sl8 : Array (Option Value)} {oc8 kV8 dc8 pm8 cd8 ct8 : Value} {od9 an9 : Option Addr} {sl9 : Array (Option Value)} {oc9 kV9 dc9 pm9 cd9 ct9 : Value} {od10 an10 : Option Addr} {sl10 : Array (Option Value)} {oc10 kV10 dc10 pm10 cd10 ct10 : Value} {od11 an11 : Option Addr} {sl11 : Array (Option Value)} {oc11 kV11 dc11 pm11 cd11 ct11 : Value} {od12 an12 : Option Addr} {sl12 : Array (Option Value)} {oc12 kV12 dc12 pm12 cd12 ct12 : Value} {od13 an13 : Option Addr} {sl13 : Array (Option Value)} {oc13 kV13 dc13 pm13 cd13 ct13 : Value} {od14 an14 : Option Addr} {sl14 : Array (Option Value)} {oc14 kV14 dc14 pm14 cd14 ct14 : Value} {od15 an15 : Option Addr} {sl15 : Array (Option Value)} {oc15 kV15 dc15 pm15 cd15 ct15 : Value} {od16 an16 : Option Addr} {sl16 : Array (Option Value)} {oc16 kV16 dc16 pm16 cd16 ct16 : Value} {od17 an17 : Option Addr} {sl17 : Array (Option Value)} {oc17 kV17 dc17 pm17 cd17 ct17 : Value} {od18 an18 : Option Addr} {sl18 : Array (Option Value)} {oc18 kV18 dc18 pm18 cd18 ct18 : Value} {od19 an19 : Option Addr} {sl19 : Array (Option Value)} {oc19 kV19 dc19 pm19 cd19 ct19 : Value} {od20 an20 : Option Addr} {sl20 : Array (Option Value)} {oc20 kV20 dc20 pm20 cd20 ct20 : Value} {od21 an21 : Option Addr} {sl21 : Array (Option Value)} {oc21 kV21 dc21 pm21 cd21 ct21 : Value} {od22 an22 : Option Addr} {sl22 : Array (Option Value)} {oc22 kV22 dc22 pm22 cd22 ct22 : Value} {od23 an23 : Option Addr} {sl23 : Array (Option Value)} {oc23 kV23 dc23 pm23 cd23 ct23 : Value} {od24 an24 : Option Addr} {sl24 : Array (Option Value)} {oc24 kV24 dc24 pm24 cd24 ct24 : Value}
    (a0 : PySem.W.nsIn K mainGlobals "overlap" = some (some (.ref f0))) (l0 : K.lookup f0 = some ⟨oc0, od0, .func (PySem.W.fnOf "overlap" "overlap" (defArgs s_overlap) (defBody s_overlap) (defScope s_overlap) .none kV0 dc0 pm0 an0 cd0 ct0), sl0⟩) (c0 : PySem.W.codeIn K cd0 "overlap" = true) (k0 : PySem.W.keepIn K (.ref f0) = true)
    (a1 : PySem.W.nsIn K mainGlobals "within" = some (some (.ref f1))) (l1 : K.lookup f1 = some ⟨oc1, od1, .func (PySem.W.fnOf "within" "within" (defArgs s_within) (defBody s_within) (defScope s_within) .none kV1 dc1 pm1 an1 cd1 ct1), sl1⟩) (c1 : PySem.W.codeIn K cd1 "within" = true) (k1 : PySem.W.keepIn K (.ref f1) = true)
    (a2 : PySem.W.nsIn K mainGlobals "touch" = some (some (.ref f2))) (l2 : K.lookup f2 = some ⟨oc2, od2, .func (PySem.W.fnOf "touch" "touch" (defArgs s_touch) (defBody s_touch) (defScope s_touch) .none kV2 dc2 pm2 an2 cd2 ct2), sl2⟩) (c2 : PySem.W.codeIn K cd2 "touch" = true) (k2 : PySem.W.keepIn K (.ref f2) = true)
    (a3 : PySem.W.nsIn K mainGlobals "label_box" = some (some (.ref f3))) (l3 : K.lookup f3 = some ⟨oc3, od3, .func (PySem.W.fnOf "label_box" "label_box" (defArgs s_label_box) (defBody s_label_box) (defScope s_label_box) .none kV3 dc3 pm3 an3 cd3 ct3), sl3⟩) (c3 : PySem.W.codeIn K cd3 "label_box" = true) (k3 : PySem.W.keepIn K (.ref f3) = true)
    (a4 : PySem.W.nsIn K mainGlobals "places_for" = some (some (.ref f4))) (l4 : K.lookup f4 = some ⟨oc4, od4, .func (PySem.W.fnOf "places_for" "places_for" (defArgs s_places_for) (defBody s_places_for) (defScope s_places_for) .none kV4 dc4 pm4 an4 cd4 ct4), sl4⟩) (c4 : PySem.W.codeIn K cd4 "places_for" = true) (k4 : PySem.W.keepIn K (.ref f4) = true)
    (a5 : PySem.W.nsIn K mainGlobals "all_places" = some (some (.ref f5))) (l5 : K.lookup f5 = some ⟨oc5, od5, .func (PySem.W.fnOf "all_places" "all_places" (defArgs s_all_places) (defBody s_all_places) (defScope s_all_places) .none kV5 dc5 pm5 an5 cd5 ct5), sl5⟩) (c5 : PySem.W.codeIn K cd5 "all_places" = true) (k5 : PySem.W.keepIn K (.ref f5) = true)
    (a6 : PySem.W.nsIn K mainGlobals "together" = some (some (.ref f6))) (l6 : K.lookup f6 = some ⟨oc6, od6, .func (PySem.W.fnOf "together" "together" (defArgs s_together) (defBody s_together) (defScope s_together) .none kV6 dc6 pm6 an6 cd6 ct6), sl6⟩) (c6 : PySem.W.codeIn K cd6 "together" = true) (k6 : PySem.W.keepIn K (.ref f6) = true)
    (a7 : PySem.W.nsIn K mainGlobals "is_free" = some (some (.ref f7))) (l7 : K.lookup f7 = some ⟨oc7, od7, .func (PySem.W.fnOf "is_free" "is_free" (defArgs s_is_free) (defBody s_is_free) (defScope s_is_free) .none kV7 dc7 pm7 an7 cd7 ct7), sl7⟩) (c7 : PySem.W.codeIn K cd7 "is_free" = true) (k7 : PySem.W.keepIn K (.ref f7) = true)
    (a8 : PySem.W.nsIn K mainGlobals "first_placed" = some (some (.ref f8))) (l8 : K.lookup f8 = some ⟨oc8, od8, .func (PySem.W.fnOf "first_placed" "first_placed" (defArgs s_first_placed) (defBody s_first_placed) (defScope s_first_placed) .none kV8 dc8 pm8 an8 cd8 ct8), sl8⟩) (c8 : PySem.W.codeIn K cd8 "first_placed" = true) (k8 : PySem.W.keepIn K (.ref f8) = true)
    (a9 : PySem.W.nsIn K mainGlobals "clash" = some (some (.ref f9))) (l9 : K.lookup f9 = some ⟨oc9, od9, .func (PySem.W.fnOf "clash" "clash" (defArgs s_clash) (defBody s_clash) (defScope s_clash) .none kV9 dc9 pm9 an9 cd9 ct9), sl9⟩) (c9 : PySem.W.codeIn K cd9 "clash" = true) (k9 : PySem.W.keepIn K (.ref f9) = true)
    (a10 : PySem.W.nsIn K mainGlobals "tree" = some (some (.ref f10))) (l10 : K.lookup f10 = some ⟨oc10, od10, .func (PySem.W.fnOf "tree" "tree" (defArgs s_tree) (defBody s_tree) (defScope s_tree) .none kV10 dc10 pm10 an10 cd10 ct10), sl10⟩) (c10 : PySem.W.codeIn K cd10 "tree" = true) (k10 : PySem.W.keepIn K (.ref f10) = true)
    (a11 : PySem.W.nsIn K mainGlobals "placed" = some (some (.ref f11))) (l11 : K.lookup f11 = some ⟨oc11, od11, .func (PySem.W.fnOf "placed" "placed" (defArgs s_placed) (defBody s_placed) (defScope s_placed) .none kV11 dc11 pm11 an11 cd11 ct11), sl11⟩) (c11 : PySem.W.codeIn K cd11 "placed" = true) (k11 : PySem.W.keepIn K (.ref f11) = true)
    {T12 u12 : Addr} {o12 v12 : Obj} (a12 : PySem.W.nsIn K mainGlobals "fault_of_tree" = some (some (.ref f12))) (l12 : K.lookup f12 = some ⟨oc12, od12, .func (PySem.W.fnOf "fault_of_tree" "fault_of_tree" (defArgs s_fault_of_tree) (defBody s_fault_of_tree) (defScope s_fault_of_tree) (.ref T12) kV12 dc12 pm12 an12 cd12 ct12), sl12⟩) (c12 : PySem.W.codeIn K cd12 "fault_of_tree" = true) (k12 : PySem.W.keepIn K (.ref f12) = true) (e12 : K.lookup T12 = some o12) (h12 : dflO o12 = some [Value.ref u12]) (i12 : K.lookup u12 = some v12) (j12 : tupO v12 = some [])
    (a13 : PySem.W.nsIn K mainGlobals "_law_mixed" = some (some (.ref f13))) (l13 : K.lookup f13 = some ⟨oc13, od13, .func (PySem.W.fnOf "_law_mixed" "_law_mixed" (defArgs s__law_mixed) (defBody s__law_mixed) (defScope s__law_mixed) .none kV13 dc13 pm13 an13 cd13 ct13), sl13⟩) (c13 : PySem.W.codeIn K cd13 "_law_mixed" = true) (k13 : PySem.W.keepIn K (.ref f13) = true)
    (a14 : PySem.W.nsIn K mainGlobals "_law_rest" = some (some (.ref f14))) (l14 : K.lookup f14 = some ⟨oc14, od14, .func (PySem.W.fnOf "_law_rest" "_law_rest" (defArgs s__law_rest) (defBody s__law_rest) (defScope s__law_rest) .none kV14 dc14 pm14 an14 cd14 ct14), sl14⟩) (c14 : PySem.W.codeIn K cd14 "_law_rest" = true) (k14 : PySem.W.keepIn K (.ref f14) = true)
    (a15 : PySem.W.nsIn K mainGlobals "_law_pool" = some (some (.ref f15))) (l15 : K.lookup f15 = some ⟨oc15, od15, .func (PySem.W.fnOf "_law_pool" "_law_pool" (defArgs s__law_pool) (defBody s__law_pool) (defScope s__law_pool) .none kV15 dc15 pm15 an15 cd15 ct15), sl15⟩) (c15 : PySem.W.codeIn K cd15 "_law_pool" = true) (k15 : PySem.W.keepIn K (.ref f15) = true)
    (a16 : PySem.W.nsIn K mainGlobals "_law_next" = some (some (.ref f16))) (l16 : K.lookup f16 = some ⟨oc16, od16, .func (PySem.W.fnOf "_law_next" "_law_next" (defArgs s__law_next) (defBody s__law_next) (defScope s__law_next) .none kV16 dc16 pm16 an16 cd16 ct16), sl16⟩) (c16 : PySem.W.codeIn K cd16 "_law_next" = true) (k16 : PySem.W.keepIn K (.ref f16) = true)
    (a17 : PySem.W.nsIn K mainGlobals "_law_draw" = some (some (.ref f17))) (l17 : K.lookup f17 = some ⟨oc17, od17, .func (PySem.W.fnOf "_law_draw" "_law_draw" (defArgs s__law_draw) (defBody s__law_draw) (defScope s__law_draw) .none kV17 dc17 pm17 an17 cd17 ct17), sl17⟩) (c17 : PySem.W.codeIn K cd17 "_law_draw" = true) (k17 : PySem.W.keepIn K (.ref f17) = true)
    (a18 : PySem.W.nsIn K mainGlobals "_law_boxes" = some (some (.ref f18))) (l18 : K.lookup f18 = some ⟨oc18, od18, .func (PySem.W.fnOf "_law_boxes" "_law_boxes" (defArgs s__law_boxes) (defBody s__law_boxes) (defScope s__law_boxes) .none kV18 dc18 pm18 an18 cd18 ct18), sl18⟩) (c18 : PySem.W.codeIn K cd18 "_law_boxes" = true) (k18 : PySem.W.keepIn K (.ref f18) = true)
    (a19 : PySem.W.nsIn K mainGlobals "_law_squares" = some (some (.ref f19))) (l19 : K.lookup f19 = some ⟨oc19, od19, .func (PySem.W.fnOf "_law_squares" "_law_squares" (defArgs s__law_squares) (defBody s__law_squares) (defScope s__law_squares) .none kV19 dc19 pm19 an19 cd19 ct19), sl19⟩) (c19 : PySem.W.codeIn K cd19 "_law_squares" = true) (k19 : PySem.W.keepIn K (.ref f19) = true)
    (a20 : PySem.W.nsIn K mainGlobals "_law_together" = some (some (.ref f20))) (l20 : K.lookup f20 = some ⟨oc20, od20, .func (PySem.W.fnOf "_law_together" "_law_together" (defArgs s__law_together) (defBody s__law_together) (defScope s__law_together) .none kV20 dc20 pm20 an20 cd20 ct20), sl20⟩) (c20 : PySem.W.codeIn K cd20 "_law_together" = true) (k20 : PySem.W.keepIn K (.ref f20) = true)
    (a21 : PySem.W.nsIn K mainGlobals "_law_placed" = some (some (.ref f21))) (l21 : K.lookup f21 = some ⟨oc21, od21, .func (PySem.W.fnOf "_law_placed" "_law_placed" (defArgs s__law_placed) (defBody s__law_placed) (defScope s__law_placed) .none kV21 dc21 pm21 an21 cd21 ct21), sl21⟩) (c21 : PySem.W.codeIn K cd21 "_law_placed" = true) (k21 : PySem.W.keepIn K (.ref f21) = true)
    (a22 : PySem.W.nsIn K mainGlobals "_law_shows" = some (some (.ref f22))) (l22 : K.lookup f22 = some ⟨oc22, od22, .func (PySem.W.fnOf "_law_shows" "_law_shows" (defArgs s__law_shows) (defBody s__law_shows) (defScope s__law_shows) .none kV22 dc22 pm22 an22 cd22 ct22), sl22⟩) (c22 : PySem.W.codeIn K cd22 "_law_shows" = true) (k22 : PySem.W.keepIn K (.ref f22) = true)
    (a23 : PySem.W.nsIn K mainGlobals "_law_bent" = some (some (.ref f23))) (l23 : K.lookup f23 = some ⟨oc23, od23, .func (PySem.W.fnOf "_law_bent" "_law_bent" (defArgs s__law_bent) (defBody s__law_bent) (defScope s__law_bent) .none kV23 dc23 pm23 an23 cd23 ct23), sl23⟩) (c23 : PySem.W.codeIn K cd23 "_law_bent" = true) (k23 : PySem.W.keepIn K (.ref f23) = true)
    (a24 : PySem.W.nsIn K mainGlobals "law" = some (some (.ref f24))) (l24 : K.lookup f24 = some ⟨oc24, od24, .func (PySem.W.fnOf "law" "law" (defArgs s_law) (defBody s_law) (defScope s_law) .none kV24 dc24 pm24 an24 cd24 ct24), sl24⟩) (c24 : PySem.W.codeIn K cd24 "law" = true) (k24 : PySem.W.keepIn K (.ref f24) = true)
    (z_all : PySem.W.nsIn K mainGlobals "all" = some none)
    (z_any : PySem.W.nsIn K mainGlobals "any" = some none)
    (z_enumerate : PySem.W.nsIn K mainGlobals "enumerate" = some none)
    (z_int : PySem.W.nsIn K mainGlobals "int" = some none)
    (z_isinstance : PySem.W.nsIn K mainGlobals "isinstance" = some none)
    (z_len : PySem.W.nsIn K mainGlobals "len" = some none)
    (z_range : PySem.W.nsIn K mainGlobals "range" = some none)
    (z_sorted : PySem.W.nsIn K mainGlobals "sorted" = some none)
    (z_tuple : PySem.W.nsIn K mainGlobals "tuple" = some none)
    {g_SIDES : Addr} {q_SIDES : Obj} (y_SIDES : PySem.W.nsIn K mainGlobals "SIDES" = some (some (.ref g_SIDES))) (x_SIDES : K.lookup g_SIDES = some q_SIDES) (w_SIDES : tupO q_SIDES = some (["east", "north", "west", "south"] : List Str))
    : ∃ fd : FuncData, (∀ (s : Shared) (v : Value), BindsTo s fd ⟨[v], []⟩ [("script", v)]) ∧ ∀ base : Heap, K.In base → base.Ns mainGlobals mg → FnOk l.prog w K mg base CX0 18 fa fd ["script"] (spD K 1 mf_law) := by
  have e := hfa.symm.trans (PySem.W.mg_of X G a24)
  cases e
  have b_all := PySem.W.mg_none_of X G z_all
  have b_any := PySem.W.mg_none_of X G z_any
  have b_enumerate := PySem.W.mg_none_of X G z_enumerate
  have b_int := PySem.W.mg_none_of X G z_int
  have b_isinstance := PySem.W.mg_none_of X G z_isinstance
  have b_len := PySem.W.mg_none_of X G z_len
  have b_range := PySem.W.mg_none_of X G z_range
  have b_sorted := PySem.W.mg_none_of X G z_sorted
  have b_tuple := PySem.W.mg_none_of X G z_tuple
  have c_SIDES : HasC K mg "SIDES" d_SIDES := hasC_tupO ["east", "north", "west", "south"] (PySem.W.mg_of X G y_SIDES) x_SIDES w_SIDES (by decide)
  refine ⟨PySem.W.fnOf "law" "law" (defArgs s_law) (defBody s_law) (defScope s_law) .none kV24 dc24 pm24 an24 cd24 ct24, fun s v => .of_eq rfl, fun base _ _ => ?_⟩
  have F_overlap := fun_mk (st := s_overlap) l0 c0 k0
  have D_overlap : Binds K _ ["one", "other"] [] := F_overlap.binds (ps := ["one", "other"]) fun _ _ _ _ _ _ us hl => match us, hl with | [_, _], _ => rfl
  have G_overlap : HasFn l.prog w K mg base "overlap" 1 ["one", "other"] (spD K 2 mf_overlap) := ⟨_, _, ok_overlap (P := l.prog) (w := w) (base := base) F_overlap, PySem.W.mg_of X G a0, k0, D_overlap⟩
  have F_within := fun_mk (st := s_within) l1 c1 k1
  have D_within : Binds K _ ["one", "other"] [] := F_within.binds (ps := ["one", "other"]) fun _ _ _ _ _ _ us hl => match us, hl with | [_, _], _ => rfl
  have G_within : HasFn l.prog w K mg base "within" 1 ["one", "other"] (spD K 2 mf_within) := ⟨_, _, ok_within (P := l.prog) (w := w) (base := base) F_within, PySem.W.mg_of X G a1, k1, D_within⟩
  have F_touch := fun_mk (st := s_touch) l2 c2 k2
  have D_touch : Binds K _ ["one", "other"] [] := F_touch.binds (ps := ["one", "other"]) fun _ _ _ _ _ _ us hl => match us, hl with | [_, _], _ => rfl
  have G_touch : HasFn l.prog w K mg base "touch" 1 ["one", "other"] (spD K 2 mf_touch) := ⟨_, _, ok_touch (P := l.prog) (w := w) (base := base) F_touch, PySem.W.mg_of X G a2, k2, D_touch⟩
  have F_label_box := fun_mk (st := s_label_box) l3 c3 k3
  have D_label_box : Binds K _ ["box", "side", "size"] [] := F_label_box.binds (ps := ["box", "side", "size"]) fun _ _ _ _ _ _ us hl => match us, hl with | [_, _, _], _ => rfl
  have G_label_box : HasFn l.prog w K mg base "label_box" 1 ["box", "side", "size"] (spD K 3 mf_label_box) := ⟨_, _, ok_label_box (P := l.prog) (w := w) (base := base) F_label_box, PySem.W.mg_of X G a3, k3, D_label_box⟩
  have F_places_for := fun_mk (st := s_places_for) l4 c4 k4
  have D_places_for : Binds K _ ["name", "boxes", "window"] [] := F_places_for.binds (ps := ["name", "boxes", "window"]) fun _ _ _ _ _ _ us hl => match us, hl with | [_, _, _], _ => rfl
  have G_places_for : HasFn l.prog w K mg base "places_for" 2 ["name", "boxes", "window"] (spD K 3 mf_places_for) := ⟨_, _, ok_places_for (P := l.prog) (w := w) (base := base) F_places_for G_overlap G_within G_touch G_label_box c_SIDES b_any b_len b_sorted, PySem.W.mg_of X G a4, k4, D_places_for⟩
  have F_all_places := fun_mk (st := s_all_places) l5 c5 k5
  have D_all_places : Binds K _ ["boxes", "window"] [] := F_all_places.binds (ps := ["boxes", "window"]) fun _ _ _ _ _ _ us hl => match us, hl with | [_, _], _ => rfl
  have G_all_places : HasFn l.prog w K mg base "all_places" 3 ["boxes", "window"] (spD K 2 mf_all_places) := ⟨_, _, ok_all_places (P := l.prog) (w := w) (base := base) F_all_places G_places_for b_sorted, PySem.W.mg_of X G a5, k5, D_all_places⟩
  have F_together := fun_mk (st := s_together) l6 c6 k6
  have D_together : Binds K _ ["one", "other"] [] := F_together.binds (ps := ["one", "other"]) fun _ _ _ _ _ _ us hl => match us, hl with | [_, _], _ => rfl
  have G_together : HasFn l.prog w K mg base "together" 2 ["one", "other"] (spD K 2 mf_together) := ⟨_, _, ok_together (P := l.prog) (w := w) (base := base) F_together G_overlap, PySem.W.mg_of X G a6, k6, D_together⟩
  have F_is_free := fun_mk (st := s_is_free) l7 c7 k7
  have D_is_free : Binds K _ ["places", "taken", "name", "number"] [] := F_is_free.binds (ps := ["places", "taken", "name", "number"]) fun _ _ _ _ _ _ us hl => match us, hl with | [_, _, _, _], _ => rfl
  have G_is_free : HasFn l.prog w K mg base "is_free" 3 ["places", "taken", "name", "number"] (spD K 4 mf_is_free) := ⟨_, _, ok_is_free (P := l.prog) (w := w) (base := base) F_is_free G_together b_all, PySem.W.mg_of X G a7, k7, D_is_free⟩
  have F_first_placed := fun_mk (st := s_first_placed) l8 c8 k8
  have D_first_placed : Binds K _ ["places", "names", "taken"] [] := F_first_placed.binds (ps := ["places", "names", "taken"]) fun _ _ _ _ _ _ us hl => match us, hl with | [_, _, _], _ => rfl
  have G_first_placed : HasFn l.prog w K mg base "first_placed" 16 ["places", "names", "taken"] (spD K 3 (mf_first_placed 12)) := ⟨_, _, ok_first_placed (P := l.prog) (w := w) (base := base) (fnD_of F_first_placed) (PySem.W.mg_of X G a8) k8 D_first_placed G_is_free b_len b_range 12, PySem.W.mg_of X G a8, k8, D_first_placed⟩
  have F_clash := fun_mk (st := s_clash) l9 c9 k9
  have D_clash : Binds K _ ["places", "taken", "name", "number"] [] := F_clash.binds (ps := ["places", "taken", "name", "number"]) fun _ _ _ _ _ _ us hl => match us, hl with | [_, _, _, _], _ => rfl
  have G_clash : HasFn l.prog w K mg base "clash" 3 ["places", "taken", "name", "number"] (spD K 4 mf_clash) := ⟨_, _, ok_clash (P := l.prog) (w := w) (base := base) F_clash G_together, PySem.W.mg_of X G a9, k9, D_clash⟩
  have F_tree := fun_mk (st := s_tree) l10 c10 k10
  have D_tree : Binds K _ ["places", "names", "taken"] [] := F_tree.binds (ps := ["places", "names", "taken"]) fun _ _ _ _ _ _ us hl => match us, hl with | [_, _, _], _ => rfl
  have G_tree : HasFn l.prog w K mg base "tree" 16 ["places", "names", "taken"] (spD K 3 (mf_tree 12)) := ⟨_, _, ok_tree (P := l.prog) (w := w) (base := base) (fnD_of F_tree) (PySem.W.mg_of X G a10) k10 D_tree G_is_free G_clash b_len b_range b_tuple 12, PySem.W.mg_of X G a10, k10, D_tree⟩
  have F_placed := fun_mk (st := s_placed) l11 c11 k11
  have D_placed : Binds K _ ["places", "names"] [] := F_placed.binds (ps := ["places", "names"]) fun _ _ _ _ _ _ us hl => match us, hl with | [_, _], _ => rfl
  have G_placed : HasFn l.prog w K mg base "placed" 17 ["places", "names"] (spD K 2 mf_placed) := ⟨_, _, ok_placed (P := l.prog) (w := w) (base := base) F_placed G_first_placed G_tree b_tuple, PySem.W.mg_of X G a11, k11, D_placed⟩
  have F_fault_of_tree := funD_mk (st := s_fault_of_tree) (dvs := [V.ref u12]) l12 c12 k12 e12 h12 (.cons rfl .nil) (by simp)
  obtain ⟨ds12, r12, D_fault_of_tree⟩ := (F_fault_of_tree.binds1 (ps := ["places", "names", "told", "taken"]) 4 1 (by simp) rfl fun _ _ _ _ _ _ _ us its l1 l2 => match us, its, l1, l2 with | [_, _, _, _], [_], _, _ => ⟨_, rfl, rfl⟩)
  cases r12
  have G_fault_of_tree : HasFn l.prog w K mg base "fault_of_tree" 15 ["places", "names", "told", "taken"] (spD K 4 (mf_fault_of_tree 12)) := ⟨_, _, ok_fault_of_tree (P := l.prog) (w := w) (base := base) F_fault_of_tree (PySem.W.mg_of X G a12) k12 D_fault_of_tree G_together b_enumerate b_len b_tuple 12, PySem.W.mg_of X G a12, k12, D_fault_of_tree⟩
  have G_fault_of_tree_3 : HasFnD l.prog w K mg base "fault_of_tree" 15 ["places", "names", "told", "taken"] (spD K 4 (mf_fault_of_tree 12)) [.tuple []] := by
    obtain ⟨ds, r, b⟩ := (F_fault_of_tree.binds1 (ps := ["places", "names", "told", "taken"]) 3 0 (by simp) rfl fun _ _ _ _ _ _ _ us its l1 l2 => match us, its, l1, l2 with | [_, _, _], [_], _, _ => ⟨_, rfl, rfl⟩)
    exact ⟨_, _, ds, _, ok_fault_of_tree (P := l.prog) (w := w) (base := base) F_fault_of_tree (PySem.W.mg_of X G a12) k12 D_fault_of_tree G_together b_enumerate b_len b_tuple 12, PySem.W.mg_of X G a12, k12, b, r, rp_unit i12 j12⟩
  have F__law_mixed := fun_mk (st := s__law_mixed) l13 c13 k13
  have D__law_mixed : Binds K _ ["number", "place"] [] := F__law_mixed.binds (ps := ["number", "place"]) fun _ _ _ _ _ _ us hl => match us, hl with | [_, _], _ => rfl
  have G__law_mixed : HasFn l.prog w K mg base "_law_mixed" 1 ["number", "place"] (spD K 2 mf__law_mixed) := ⟨_, _, ok__law_mixed (P := l.prog) (w := w) (base := base) F__law_mixed b_int, PySem.W.mg_of X G a13, k13, D__law_mixed⟩
  have F__law_rest := fun_mk (st := s__law_rest) l14 c14 k14
  have D__law_rest : Binds K _ ["script", "place", "fills"] [] := F__law_rest.binds (ps := ["script", "place", "fills"]) fun _ _ _ _ _ _ us hl => match us, hl with | [_, _, _], _ => rfl
  have G__law_rest : HasFn l.prog w K mg base "_law_rest" 2 ["script", "place", "fills"] (spD K 3 mf__law_rest) := ⟨_, _, ok__law_rest (P := l.prog) (w := w) (base := base) F__law_rest G__law_mixed b_int b_len, PySem.W.mg_of X G a14, k14, D__law_rest⟩
  have F__law_pool := fun_mk (st := s__law_pool) l15 c15 k15
  have D__law_pool : Binds K _ ["script"] [] := F__law_pool.binds (ps := ["script"]) fun _ _ _ _ _ _ us hl => match us, hl with | [_], _ => rfl
  have G__law_pool : HasFn l.prog w K mg base "_law_pool" 3 ["script"] (spO K 1 mf__law_pool) := ⟨_, _, ok__law_pool (P := l.prog) (w := w) (base := base) F__law_pool G__law_rest, PySem.W.mg_of X G a15, k15, D__law_pool⟩
  have F__law_next := fun_mk (st := s__law_next) l16 c16 k16
  have D__law_next : Binds K _ ["pool"] [] := F__law_next.binds (ps := ["pool"]) fun _ _ _ _ _ _ us hl => match us, hl with | [_], _ => rfl
  have G__law_next : HasFn l.prog w K mg base "_law_next" 3 ["pool"] (spD K 1 mf__law_next) := ⟨_, _, ok__law_next (P := l.prog) (w := w) (base := base) F__law_next G__law_rest, PySem.W.mg_of X G a16, k16, D__law_next⟩
  have F__law_draw := fun_mk (st := s__law_draw) l17 c17 k17
  have D__law_draw : Binds K _ ["pool", "limit"] [] := F__law_draw.binds (ps := ["pool", "limit"]) fun _ _ _ _ _ _ us hl => match us, hl with | [_, _], _ => rfl
  have G__law_draw : HasFn l.prog w K mg base "_law_draw" 3 ["pool", "limit"] (spD K 2 mf__law_draw) := ⟨_, _, ok__law_draw (P := l.prog) (w := w) (base := base) F__law_draw G__law_rest b_int, PySem.W.mg_of X G a17, k17, D__law_draw⟩
  have F__law_boxes := fun_mk (st := s__law_boxes) l18 c18 k18
  have D__law_boxes : Binds K _ ["pool", "many"] [] := F__law_boxes.binds (ps := ["pool", "many"]) fun _ _ _ _ _ _ us hl => match us, hl with | [_, _], _ => rfl
  have G__law_boxes : HasFn l.prog w K mg base "_law_boxes" 4 ["pool", "many"] (spD K 2 mf__law_boxes) := ⟨_, _, ok__law_boxes (P := l.prog) (w := w) (base := base) F__law_boxes G__law_next G__law_draw b_range, PySem.W.mg_of X G a18, k18, D__law_boxes⟩
  have F__law_squares := fun_mk (st := s__law_squares) l19 c19 k19
  have D__law_squares : Binds K _ ["box"] [] := F__law_squares.binds (ps := ["box"]) fun _ _ _ _ _ _ us hl => match us, hl with | [_], _ => rfl
  have G__law_squares : HasFn l.prog w K mg base "_law_squares" 1 ["box"] (spD K 1 mf__law_squares) := ⟨_, _, ok__law_squares (P := l.prog) (w := w) (base := base) F__law_squares b_range, PySem.W.mg_of X G a19, k19, D__law_squares⟩
  have F__law_together := fun_mk (st := s__law_together) l20 c20 k20
  have D__law_together : Binds K _ ["one", "other"] [] := F__law_together.binds (ps := ["one", "other"]) fun _ _ _ _ _ _ us hl => match us, hl with | [_, _], _ => rfl
  have G__law_together : HasFn l.prog w K mg base "_law_together" 2 ["one", "other"] (spD K 2 mf__law_together) := ⟨_, _, ok__law_together (P := l.prog) (w := w) (base := base) F__law_together G__law_squares b_len, PySem.W.mg_of X G a20, k20, D__law_together⟩
  have F__law_placed := fun_mk (st := s__law_placed) l21 c21 k21
  have D__law_placed : Binds K _ ["places", "names"] [] := F__law_placed.binds (ps := ["places", "names"]) fun _ _ _ _ _ _ us hl => match us, hl with | [_, _], _ => rfl
  have G__law_placed : HasFn l.prog w K mg base "_law_placed" 3 ["places", "names"] (spD K 2 mf__law_placed) := ⟨_, _, ok__law_placed (P := l.prog) (w := w) (base := base) F__law_placed G__law_together b_len b_range, PySem.W.mg_of X G a21, k21, D__law_placed⟩
  have F__law_shows := fun_mk (st := s__law_shows) l22 c22 k22
  have D__law_shows : Binds K _ ["places", "names", "tree_v", "taken"] [] := F__law_shows.binds (ps := ["places", "names", "tree_v", "taken"]) fun _ _ _ _ _ _ us hl => match us, hl with | [_, _, _, _], _ => rfl
  have G__law_shows : HasFn l.prog w K mg base "_law_shows" 15 ["places", "names", "tree_v", "taken"] (spD K 4 (mf__law_shows 12)) := ⟨_, _, ok__law_shows (P := l.prog) (w := w) (base := base) (fnD_of F__law_shows) (PySem.W.mg_of X G a22) k22 D__law_shows G__law_together b_len b_range 12, PySem.W.mg_of X G a22, k22, D__law_shows⟩
  have F__law_bent := fun_mk (st := s__law_bent) l23 c23 k23
  have D__law_bent : Binds K _ ["pool", "tree_v"] [] := F__law_bent.binds (ps := ["pool", "tree_v"]) fun _ _ _ _ _ _ us hl => match us, hl with | [_, _], _ => rfl
  have G__law_bent : HasFn l.prog w K mg base "_law_bent" 4 ["pool", "tree_v"] (spD K 2 mf__law_bent) := ⟨_, _, ok__law_bent (P := l.prog) (w := w) (base := base) F__law_bent G__law_draw b_len, PySem.W.mg_of X G a23, k23, D__law_bent⟩
  have F_law := fun_mk (st := s_law) l24 c24 k24
  have D_law : Binds K _ ["script"] [] := F_law.binds (ps := ["script"]) fun _ _ _ _ _ _ us hl => match us, hl with | [_], _ => rfl
  exact ok_law (P := l.prog) (w := w) (base := base) F_law G_all_places G_placed G__law_pool G__law_draw G__law_boxes G__law_placed G__law_shows G__law_bent G_fault_of_tree_3 b_isinstance b_range b_sorted b_tuple
end Lw47

namespace Lw47
open PySem PySem.Spec PyProof.Rows L2 Dm DmP Bo Tr
/-! ### a tree bent -/
mutual
theorem plain_d : ∀ t : Tn, t.d.plain = true
  | .over r => by rw [d_over]; rfl
  | .node x bs => by
    rw [Tn.d]
    show (true && (true && (PyData.plainAll (Tn.ds bs) && true))) = true
    rw [plain_ds bs]; rfl
theorem plain_ds : ∀ bs : List Tn, PyData.plainAll (Tn.ds bs) = true
  | [] => rfl
  | b :: bs => by
    rw [Tn.ds]
    show (b.d.plain && PyData.plainAll (Tn.ds bs)) = true
    rw [plain_d b, plain_ds bs]; rfl
end
theorem call_draw' {E : En} {i : Nat} {o : Own} {ns : List Int} {m : Nat} {l : Int} {f : MX} (hf : f E = some (.int l, E)) (hi : E[i]? = some (.own o)) (S : Sc ns) (P : Pl ns m o) (hm : m ≤ 900000) (l0 : 0 < l) (l1 : l < 1073741824) :
    ∃ r o', mCall DmP.mf__law_draw (aSl i (aD f aNil)) E = some (.int r, E.set i (.own o')) ∧ 0 ≤ r ∧ r < l ∧ Pl ns (m + 1) o' := by
  obtain ⟨r, o', h1, h2, h3, h4⟩ := draw_ok S P hm l0 l1
  refine ⟨r, o', call_e (as := [.s i, .d (.int l)]) (Ec := [.own o', .dat (.int l)]) (aSl_e hi (aD_e hf rfl)) (by simp [slotsOf]) ?_, h2, h3, h4⟩
  have g : argEn E [.s i, .d (.int l)] = [.own o, .dat (.int l)] := by
    show [E.getD i .no, _] = _
    rw [List.getD_eq_getElem?_getD, hi]; rfl
  rw [g]; exact h1
theorem cut_lo {ds : List PyData} {k : Nat} : Dm.cutD ds none (some (k : Int)) = ds.take k := by
  unfold Dm.cutD
  have h1 : HT.sIx ds.length 0 none = 0 := rfl
  have h2 : HT.sIx ds.length ds.length (some (k : Int)) = min k ds.length := by
    show (if (k : Int) < 0 then ((k : Int) + (ds.length : Int)).toNat else min (k : Int).toNat ds.length) = _
    rw [if_neg (by omega), Int.toNat_natCast]
  rw [h1, h2, List.drop_zero, Nat.sub_zero]
  rcases Nat.le_total k ds.length with h | h
  · rw [Nat.min_eq_left h]
  · rw [Nat.min_eq_right h, List.take_of_length_le (Nat.le_refl _), List.take_of_length_le h]
theorem cut_hi {ds : List PyData} {k : Nat} : Dm.cutD ds (some (k : Int)) none = ds.drop k := by
  unfold Dm.cutD
  have h2 : HT.sIx ds.length ds.length none = ds.length := rfl
  have h1 : HT.sIx ds.length 0 (some (k : Int)) = min k ds.length := by
    show (if (k : Int) < 0 then ((k : Int) + (ds.length : Int)).toNat else min (k : Int).toNat ds.length) = _
    rw [if_neg (by omega), Int.toNat_natCast]
  rw [h1, h2]
  rcases Nat.le_total k ds.length with h | h
  · rw [Nat.min_eq_left h, List.take_of_length_le (by rw [List.length_drop]; exact Nat.le_refl _)]
  · rw [Nat.min_eq_right h, List.drop_eq_nil_of_le (Nat.le_refl _), List.drop_eq_nil_of_le h, List.take_nil]
theorem sl_e {E E1 E2 E3 : En} {f : MX} {a b : MP} {d z : PyData} {lo hi : Option Int} (h1 : f E = some (d, E1)) (ha : a E1 = some (lo, E2)) (hb : b E2 = some (hi, E3)) (hg : gSl d lo hi = some z) : mSl f a b E = some (z, E3) := by
  unfold mSl
  rw [h1, Option.bind_some]
  show (a E1).bind _ = _
  rw [ha, Option.bind_some]
  show (b E2).bind _ = _
  rw [hb, Option.bind_some]
  show (gSl d lo hi).bind _ = _
  rw [hg]; rfl
theorem pso_e {E E1 : En} {g : MX} {k : Int} (h : g E = some (.int k, E1)) : pSo g E = some (some k, E1) := by unfold pSo; rw [h]; rfl
theorem sl_lo {E : En} {f g : MX} {ds : List PyData} {k : Nat} (h1 : f E = some (.tuple ds, E)) (h2 : g E = some (.int (k : Int), E)) : mSl f pNo (pSo g) E = some (.tuple (ds.take k), E) :=
  sl_e h1 rfl (pso_e h2) (by show some (PyData.tuple (Dm.cutD ds none (some (k : Int)))) = _; rw [cut_lo])
theorem sl_hi {E : En} {f g : MX} {ds : List PyData} {k : Nat} (h1 : f E = some (.tuple ds, E)) (h2 : g E = some (.int (k : Int), E)) : mSl f (pSo g) pNo E = some (.tuple (ds.drop k), E) :=
  sl_e h1 (pso_e h2) rfl (by show some (PyData.tuple (Dm.cutD ds (some (k : Int)) none)) = _; rw [cut_hi])
theorem add_tt {xs ys : List PyData} (h : xs.length + ys.length ≤ 5000) : gAdd (.tuple xs) (.tuple ys) = some (.tuple (xs ++ ys)) := by
  show (if xs.length + ys.length ≤ sizeLine then _ else _) = _
  rw [if_pos (Nat.le_trans h (by decide))]
theorem eq_unit {ds : List PyData} (h : PyData.plainAll ds = true) : gEqA (.tuple ds) (.tuple []) = some (.bool ds.isEmpty) := by
  show (if eqOk _ _ = true then some (PyData.bool (PyData.eqv (.tuple ds) (.tuple []))) else none) = _
  have e : eqOk (.tuple ds) (.tuple []) = true := by
    unfold eqOk
    have h1 : (PyData.tuple ds).plain = true := h
    have h2 : min (PyData.tuple ds).depth (PyData.tuple []).depth ≤ 60 := Nat.le_trans (Nat.min_le_right _ _) (by decide)
    rw [h1, decide_eq_true h2]; rfl
  rw [if_pos e]
  cases ds <;> rfl
theorem bent_ok {ns : List Int} (S : Sc ns) {m : Nat} {o : Own} (P : Pl ns m o) (hm : m ≤ 800000) (x : Str) (bs : List Tn) (hb : bs.length ≤ 1000) :
    ∃ y cs o', mf__law_bent [.own o, .dat (Tn.node x bs).d] = some ((Tn.node y cs).d, [.own o', .dat (Tn.node x bs).d]) ∧ Pl ns (m + 2) o' := by
  obtain ⟨g0, g1, g2⟩ := head_node x bs
  have hpl : PyData.plainAll (bs.map Tn.d) = true := by rw [← ds_map]; exact plain_ds bs
  generalize (Tn.node x bs).d = td at g0 g1 g2 ⊢
  have z3 : (3 : Nat) ≤ sizeLine := by decide
  have z2 : (2 : Nat) ≤ sizeLine := by decide
  have z1 : (1 : Nat) ≤ sizeLine := by decide
  obtain ⟨r1, o1, d1, r10, r11, P1⟩ := call_draw (E := [.own o, .dat td, .no, .no, .no]) (i := 0) (l := 4) rfl S P (by omega) (by decide) (by decide)
  have c1 : mOrT (mTst (mOp2 gEqA (mVar 2) (mC (.int 0)))) (mTst (mOp2 gEqA (mOp2 gIx (mVar 1) (mC (.int 2))) (mTup mNil))) [.own o1, .dat td, .dat (.int r1), .no, .no] = some ((r1 == 0) || (bs.map Tn.d).isEmpty, [.own o1, .dat td, .dat (.int r1), .no, .no]) :=
    orT_e (tst_e (op2_e rfl rfl rfl)) fun _ => tst_e (op2_e (op2_e rfl rfl g2) (tup_e rfl (Nat.zero_le _)) (eq_unit hpl))
  have s1 : ∀ {t : MS} {r : Option Out}, t [.own o1, .dat td, .dat (.int r1), .no, .no] = r → sSeq (sAsg 2 (mCall DmP.mf__law_draw (aSl 0 (aD (mC (.int 4)) aNil)))) t [.own o, .dat td, .no, .no, .no] = r := fun h => seq_e (asg_e d1) h
  cases hc : ((r1 == 0) || (bs.map Tn.d).isEmpty) with
  | true =>
    rw [hc] at c1
    refine ⟨"zoo", bs, o1, ?_, P1.le (by omega)⟩
    rw [d_node]
    exact fn_e (E' := [.own o1, .dat td, .dat (.int r1), .no, .no]) (s1 (seq_rt (o := .nx []) (if_t c1 (ret_e (tup_e (cons_e rfl (cons_e rfl (cons_e (op2_e rfl rfl g2) rfl))) (by exact z3))))))
  | false =>
    rw [hc] at c1
    have hne : bs ≠ [] := by
      rintro rfl
      simp at hc
    have hpos : 0 < bs.length := List.length_pos_iff.mpr hne
    obtain ⟨r2, o2, d2, r20, r21, P2⟩ := call_draw' (E := [.own o1, .dat td, .dat (.int r1), .no, .no]) (i := 0) (l := (bs.length : Int)) (f := mCb gLen (mCons (mOp2 gIx (mVar 1) (mC (.int 2))) mNil))
      (cb_e (cons_e (op2_e rfl rfl g2) rfl) (by show some (PyData.int (((bs.map Tn.d).length : Nat) : Int)) = _; rw [List.length_map])) rfl S P1 (by omega) (by omega) (by omega)
    obtain ⟨k, rfl⟩ := Int.eq_ofNat_of_zero_le r20
    have hk : k < bs.length := by omega
    have hix : gIx (.tuple (bs.map Tn.d)) (.int (k : Int)) = some (bs[k]).d := Dm.atI_nat (by rw [List.getElem?_map, List.getElem?_eq_getElem hk]; rfl)
    have pre : ∀ {t : MS} {r : Option Out}, t [.own o2, .dat td, .dat (.int r1), .dat (.int (k : Int)), .dat (bs[k]).d] = r → sSeq (sAsg 3 (mCall DmP.mf__law_draw (aSl 0 (aD (mCb gLen (mCons (mOp2 gIx (mVar 1) (mC (.int 2))) mNil)) aNil)))) (sSeq (sAsg 4 (mOp2 gIx (mOp2 gIx (mVar 1) (mC (.int 2))) (mVar 3))) t) [.own o1, .dat td, .dat (.int r1), .no, .no] = r := fun h => seq_e (asg_e d2) (seq_e (asg_e (op2_e (op2_e rfl rfl g2) rfl hix)) h)
    have lo : mSl (mOp2 gIx (mVar 1) (mC (.int 2))) pNo (pSo (mVar 3)) [.own o2, .dat td, .dat (.int r1), .dat (.int (k : Int)), .dat (bs[k]).d] = some (.tuple ((bs.map Tn.d).take k), [.own o2, .dat td, .dat (.int r1), .dat (.int (k : Int)), .dat (bs[k]).d]) := sl_lo (op2_e rfl rfl g2) rfl
    have hi : mSl (mOp2 gIx (mVar 1) (mC (.int 2))) (pSo (mOp2 gAdd (mVar 3) (mC (.int 1)))) pNo [.own o2, .dat td, .dat (.int r1), .dat (.int (k : Int)), .dat (bs[k]).d] = some (.tuple ((bs.map Tn.d).drop (k + 1)), [.own o2, .dat td, .dat (.int r1), .dat (.int (k : Int)), .dat (bs[k]).d]) := sl_hi (op2_e rfl rfl g2) (op2_e rfl rfl rfl)
    have l1 : ((bs.map Tn.d).take k).length ≤ 1000 := Nat.le_trans (List.length_take_le _ _) (by omega)
    have l2 : ((bs.map Tn.d).drop (k + 1)).length ≤ 1000 := by rw [List.length_drop, List.length_map]; omega
    have mid : ∀ (t : Tn) (f : MX), f [.own o2, .dat td, .dat (.int r1), .dat (.int (k : Int)), .dat (bs[k]).d] = some (t.d, [.own o2, .dat td, .dat (.int r1), .dat (.int (k : Int)), .dat (bs[k]).d]) →
        sRet (mTup (mCons (mC (.str "name")) (mCons (mOp2 gIx (mVar 1) (mC (.int 1))) (mCons (mOp2 gAdd (mOp2 gAdd (mSl (mOp2 gIx (mVar 1) (mC (.int 2))) pNo (pSo (mVar 3))) (mTup (mCons f mNil))) (mSl (mOp2 gIx (mVar 1) (mC (.int 2))) (pSo (mOp2 gAdd (mVar 3) (mC (.int 1)))) pNo)) mNil)))) [.own o2, .dat td, .dat (.int r1), .dat (.int (k : Int)), .dat (bs[k]).d]
        = some (.rt (Tn.node x (bs.take k ++ [t] ++ bs.drop (k + 1))).d [.own o2, .dat td, .dat (.int r1), .dat (.int (k : Int)), .dat (bs[k]).d]) := fun t f hf => by
      have e : (bs.take k ++ [t] ++ bs.drop (k + 1)).map Tn.d = (bs.map Tn.d).take k ++ [t.d] ++ (bs.map Tn.d).drop (k + 1) := by rw [List.map_append, List.map_append, List.map_take, List.map_drop]; rfl
      rw [d_node, e]
      exact ret_e (tup_e (cons_e rfl (cons_e (op2_e rfl rfl g1) (cons_e (op2_e (op2_e lo (tup_e (cons_e hf rfl) (by exact z1)) (add_tt (by simp only [List.length_singleton]; omega))) hi (add_tt (by rw [List.length_append, List.length_singleton]; omega))) rfl))) (by exact z3))
    by_cases h1 : r1 = 1
    · refine ⟨x, bs.take k ++ bs.drop (k + 1), o2, ?_, P2⟩
      have e : (bs.take k ++ bs.drop (k + 1)).map Tn.d = (bs.map Tn.d).take k ++ (bs.map Tn.d).drop (k + 1) := by rw [List.map_append, List.map_take, List.map_drop]
      rw [d_node, e]
      refine fn_e (E' := [.own o2, .dat td, .dat (.int r1), .dat (.int (k : Int)), .dat (bs[k]).d]) (s1 (seq_e (if_f c1 rfl) (pre (seq_rt (o := .nx []) (if_t (tst_e (b := true) (op2_e rfl rfl ?_)) (ret_e (tup_e (cons_e rfl (cons_e (op2_e rfl rfl g1) (cons_e (op2_e lo hi (add_tt (by omega))) rfl))) (by exact z3))))))))
      subst h1; rfl
    · have t1 : mTst (mOp2 gEqA (mVar 2) (mC (.int 1))) [.own o2, .dat td, .dat (.int r1), .dat (.int (k : Int)), .dat (bs[k]).d] = some (false, [.own o2, .dat td, .dat (.int r1), .dat (.int (k : Int)), .dat (bs[k]).d]) := by
        refine tst_e (op2_e rfl rfl ?_)
        show some (PyData.bool (r1 == 1)) = _
        rw [beq_eq_false_iff_ne.mpr h1]
      generalize bs[k] = br at pre lo hi mid t1
      cases br with
      | over r =>
        obtain ⟨k0, k1⟩ := head_over r
        refine ⟨x, bs.take k ++ [.over (r.1, r.2 + 1)] ++ bs.drop (k + 1), o2, fn_e (E' := [.own o2, .dat td, .dat (.int r1), .dat (.int (k : Int)), .dat (Tn.over r).d]) (s1 (seq_e (if_f c1 rfl) (pre (seq_e (if_f t1 rfl) (seq_rt (o := .nx []) (if_t (tst_e (op2_e (op2_e rfl rfl k0) rfl (eqS_t rfl))) (mid (.over (r.1, r.2 + 1)) _ ?_))))))), P2⟩
        rw [d_over]
        exact tup_e (cons_e rfl (cons_e (tup_e (cons_e (op2_e (op2_e rfl rfl k1) rfl rfl) (cons_e (op2_e (op2_e (op2_e rfl rfl k1) rfl rfl) rfl rfl) rfl)) (by exact z2)) rfl)) (by exact z2)
      | node y cs =>
        obtain ⟨k0, k1, _⟩ := head_node y cs
        refine ⟨x, bs.take k ++ [.over (x, k)] ++ bs.drop (k + 1), o2, fn_e (E' := [.own o2, .dat td, .dat (.int r1), .dat (.int (k : Int)), .dat (Tn.node y cs).d]) (s1 (seq_e (if_f c1 rfl) (pre (seq_e (if_f t1 rfl) (seq_e (if_f (tst_e (op2_e (op2_e rfl rfl k0) rfl (eqS_f ne_on))) rfl) (mid (.over (x, k)) _ ?_)))))), P2⟩
        rw [d_over]
        exact tup_e (cons_e rfl (cons_e (tup_e (cons_e (op2_e rfl rfl g1) (cons_e rfl rfl)) (by exact z2)) rfl)) (by exact z2)
/-! ### the places as the law has them -/
theorem sorted_dv {f : Nb → PyData} {ys : List Nb} (hl : ys.length ≤ 10) : ∃ zs : List Nb, zs.Perm ys ∧ gSortedA [.dict (dv f ys)] = some (.list ((zs.map (·.1)).map .str)) := by
  refine ⟨ys.mergeSort fun p q => leS p.1 q.1, List.mergeSort_perm _ _, ?_⟩
  show (if isTag (dv f ys) = true then none else (allS ((dv f ys).map (·.1))).bind _) = _
  rw [isTag_dv, if_neg Bool.false_ne_true]
  have e : (dv f ys).map (·.1) = (ys.map (·.1)).map PyData.str := by unfold dv; rw [List.map_map, List.map_map]; rfl
  rw [e, allS_of, Option.bind_some, if_pos (by rw [List.length_map]; exact Nat.lt_of_le_of_lt hl (by decide))]
  rw [← List.map_mergeSort (r := fun p q : Nb => leS p.1 q.1) (s := leS) (f := fun p : Nb => p.1) (fun a _ b _ => rfl)]
def Fof (bs : List Nb) (wd : Bx) (x : Str) : List Pd := match bs.find? fun p => decide (p.1 = x) with
  | some p => spt bs wd p
  | none => []
theorem Fof_mem {bs : List Nb} (nd : (bs.map (·.1)).Nodup) (wd : Bx) {p : Nb} (hp : p ∈ bs) : Fof bs wd p.1 = spt bs wd p := by
  have : bs.find? (fun q => decide (q.1 = p.1)) = some p := by
    induction bs with
    | nil => cases hp
    | cons b bs ih =>
      rw [List.map_cons, List.nodup_cons] at nd
      rw [List.find?_cons]
      by_cases e : b.1 = p.1
      · have : p = b := by
          rcases List.mem_cons.mp hp with z | z
          · exact z
          · exact absurd (List.mem_map.mpr ⟨p, z, e.symm⟩) nd.1
        subst this
        simp
      · rw [decide_eq_false e]
        rcases List.mem_cons.mp hp with z | z
        · subst z; exact absurd rfl e
        · exact ih nd.2 z
  unfold Fof
  rw [this]
theorem lb_one {b : Bx} {k : Int} {x : Str} {f : Bx → Int → Bx} (h : (x, f) ∈ sides) : (f b k).n - (f b k).s = 1 := by
  simp only [sides, List.mem_cons, List.not_mem_nil, or_false, Prod.mk.injEq] at h
  rcases h with ⟨_, rfl⟩ | ⟨_, rfl⟩ | ⟨_, rfl⟩ | ⟨_, rfl⟩ <;> simp only [lbE, lbW, lbN, lbS] <;> omega
theorem pls_of {bs ys : List Nb} (G : Gb bs) (hy : ys.Perm bs) (wd : Bx) : Pls (.dict (dv (lv (spt bs wd)) ys)) (bs.map (·.1)) (Fof bs wd) := by
  have ndy : (ys.map (·.1)).Nodup := (hy.map _).nodup_iff.mpr G.nd
  refine ⟨fun x hx => ?_, fun x hx q hq => ?_, fun x hx => ?_⟩
  · obtain ⟨p, hp, rfl⟩ := List.mem_map.mp hx
    rw [Fof_mem G.nd wd hp]
    exact ix_dv ndy (hy.mem_iff.mpr hp)
  · obtain ⟨p, hp, rfl⟩ := List.mem_map.mp hx
    rw [Fof_mem G.nd wd hp] at hq
    have hn := G.nm _ hp
    unfold spt at hq
    obtain ⟨f, h1, rfl⟩ := List.mem_map.mp hq
    have h2 := (List.mem_filter.mp h1).1
    exact ⟨lb_sb (G.mb _ hp) (by omega) (by omega) h2, lb_one h2⟩
  · obtain ⟨p, hp, rfl⟩ := List.mem_map.mp hx
    rw [Fof_mem G.nd wd hp]
    unfold spt
    rw [List.length_map]
    exact Nat.le_trans (List.length_filter_le _ _) (by decide)
/-! ### the law -/
theorem plain_tks (l : List (List Tr.Row)) : PyData.plainAll (l.map tk) = true := by
  induction l with
  | nil => rfl
  | cons q l ih =>
    rw [List.map_cons, PyData.plainAll, ih]
    show (PyData.plainAll (q.map rd) && true) = true
    rw [plain_rds]; rfl
theorem depth_rds (l : List Tr.Row) : PyData.depthAll (l.map rd) ≤ 1 := by
  induction l with
  | nil => exact Nat.zero_le _
  | cons q l ih =>
    rw [List.map_cons]
    show max (PyData.depth (rd q)) (PyData.depthAll (l.map rd)) ≤ 1
    exact Nat.max_le.mpr ⟨Nat.le_refl 1, ih⟩
theorem okq_placed (l : List Tr.Row) : eqOk (.tuple [.str "placed", tk l]) (.tuple [.str "placed", tk l]) = true := by
  unfold eqOk
  have h1 : (PyData.tuple [.str "placed", tk l]).plain = true := by
    show (true && (PyData.plainAll (l.map rd) && true)) = true
    rw [plain_rds]; rfl
  have h2 : (PyData.tuple [.str "placed", tk l]).depth ≤ 60 := by
    show max 0 (max (PyData.depthAll (l.map rd) + 1) 0) + 1 ≤ 60
    have := depth_rds l
    omega
  rw [h1, Nat.min_self, decide_eq_true h2]; rfl
theorem ne_nil (l : List (List Tr.Row)) : gNeA (.list (l.map tk)) (.list []) = some (.bool (!l.isEmpty)) := by
  show (if eqOk _ _ = true then some (PyData.bool (!PyData.eqv (.list (l.map tk)) (.list []))) else none) = _
  have e : eqOk (.list (l.map tk)) (.list []) = true := by
    unfold eqOk
    have h1 : (PyData.list (l.map tk)).plain = true := plain_tks l
    have h2 : min (PyData.list (l.map tk)).depth (PyData.list []).depth ≤ 60 := Nat.le_trans (Nat.min_le_right _ _) (by decide)
    rw [h1, decide_eq_true h2]; rfl
  rw [if_pos e]
  cases l <;> rfl
def ms_bends : MS := (sSeq (sAsg 10 (mCall mf__law_bent (aSl 1 (aD (mOp2 gIx (mVar 8) (mC (.int 1))) aNil))))
  (sIf (mTst (mOp2 gNeA (mOp2 gIsN (mCallD (mf_fault_of_tree 12) (aD (mVar 5) (aD (mCb gTupOf (mCons (mVar 6) mNil)) (aD (mVar 10) aNil))) [.tuple []]) (mC .none)) (mCall (mf__law_shows 12) (aD (mVar 5) (aD (mVar 6) (aD (mVar 10) (aD (mOf (oLst mNil)) aNil))))))) (sRet (mC (.bool false))) sNx))
def ms_way : MS := (sIf (mTst (mOp2 gNeA (mVar 7) (mOf (oLst mNil)))) (sIf (mOrT (mTst (mOp2 gNeA (mVar 8) (mTup (mCons (mC (.str "placed")) (mCons (mOp2 gIx (mVar 7) (mC (.int 0))) mNil))))) (mNotT (mTru (mIsi "tuple" (mOp2 gIx (mVar 8) (mC (.int 1))))))) (sRet (mC (.bool false))) sNx) (sSeq (sIf (mOrT (mTst (mOp2 gNeA (mOp2 gIx (mVar 8) (mC (.int 0))) (mC (.str "none")))) (mNotT (mTru (mCall (mf__law_shows 12) (aD (mVar 5) (aD (mVar 6) (aD (mOp2 gIx (mVar 8) (mC (.int 1))) (aD (mOf (oLst mNil)) aNil)))))))) (sRet (mC (.bool false))) sNx)
  (sSeq (sIf (mTst (mOp2 gNotN (mCallD (mf_fault_of_tree 12) (aD (mVar 5) (aD (mCb gTupOf (mCons (mVar 6) mNil)) (aD (mOp2 gIx (mVar 8) (mC (.int 1))) aNil))) [.tuple []]) (mC .none))) (sRet (mC (.bool false))) sNx)
  (sFor (iR1 (mCons (mC (.int 4)) mNil)) (gN 9) ms_bends))))
def ms_turn : MS := (sSeq (sAsg 3 (mCall mf__law_boxes (aSl 1 (aD (mOp2 gAdd (mC (.int 2)) (mCall mf__law_draw (aSl 1 (aD (mC (.int 4)) aNil)))) aNil))))
  (sSeq (sAsg 4 (mTup (mCons (mOp1 gNeg (mC (.int 1))) (mCons (mOp2 gAdd (mC (.int 6)) (mCall mf__law_draw (aSl 1 (aD (mC (.int 5)) aNil)))) (mCons (mOp1 gNeg (mC (.int 1))) (mCons (mC (.int 5)) mNil))))))
  (sSeq (sAsg 5 (mCall mf_all_places (aD (mVar 3) (aD (mVar 4) aNil))))
  (sSeq (sAsg 6 (mCb gSortedA (mCons (mVar 5) mNil)))
  (sSeq (sAsg 7 (mCall mf__law_placed (aD (mVar 5) (aD (mVar 6) aNil))))
  (sSeq (sAsg 8 (mCall mf_placed (aD (mVar 5) (aD (mCb gTupOf (mCons (mVar 6) mNil)) aNil)))) ms_way))))))
theorem law_eq : ms_law = (sSeq (sAsgO 1 (mCallO mf__law_pool (aD (mVar 0) aNil))) (sSeq (sFor (iR1 (mCons (mC (.int 3)) mNil)) (gN 2) ms_turn)
  (sRet (mOp2 gEqA (mCall mf_placed (aD (mOf oDK) (aD (mTup mNil) aNil))) (mTup (mCons (mC (.str "placed")) (mCons (mTup mNil) mNil))))))) := rfl
section
variable {D : PyData} {ks : List Str} {F : Str → List Pd} (Sp : Pls D ks F) {names : List Str} (hk : ∀ x ∈ names, x ∈ ks) (hl : names.length ≤ 10)
include Sp hk hl
theorem two_ok (x : Str) (bs : List Tn) {E : En} {f g h : MX} (h1 : f E = some (D, E)) (h2 : g E = some (.list (names.map .str), E)) (h3 : h E = some ((Tn.node x bs).d, E)) :
    mCall (mf__law_shows 12) (aD f (aD g (aD h (aD (mOf (oLst mNil)) aNil)))) E = some (.bool (okT F 12 names (.node x bs) []), E) ∧
    ∃ v, mCallD (mf_fault_of_tree 12) (aD f (aD (mCb gTupOf (mCons g mNil)) (aD h aNil))) [.tuple []] E = some (v, E) ∧ isNoneD v = okT F 12 names (.node x bs) [] := by
  constructor
  · exact call_e (as := [.d D, .d (.list (names.map .str)), .d (Tn.node x bs).d, .d (.list [])]) (aD_e h1 (aD_e h2 (aD_e h3 (aD_e rfl rfl)))) (by simp [slotsOf]) (shows_ok Sp 12 names x bs [] (by omega) (by omega) hk (by simp) (by simp))
  · have ha : aD f (aD (mCb gTupOf (mCons g mNil)) (aD h aNil)) E = some ([.d D, .d (nmT names), .d (Tn.node x bs).d], E) := aD_e h1 (aD_e (cb_e (cons_e h2 rfl) rfl) (aD_e h3 rfl))
    rcases fault_ok Sp 12 names x bs [] (by omega) (by omega) hk (by simp) (by simp) with ⟨e1, e2⟩ | ⟨e1, z, e2⟩
    · exact ⟨_, callD_e (as := [.d D, .d (nmT names), .d (Tn.node x bs).d]) (ds := [.tuple []]) ha (by simp [slotsOf]) e2, by rw [e1]; rfl⟩
    · exact ⟨_, callD_e (as := [.d D, .d (nmT names), .d (Tn.node x bs).d]) (ds := [.tuple []]) ha (by simp [slotsOf]) e2, by rw [e1]; rfl⟩
theorem way_ok (nd : names.Nodup) {ns : List Int} (S : Sc ns) {m : Nat} {o : Own} (P : Pl ns m o) (hm : m ≤ 700000) {s0 s2 s3 s4 s9 s10 : Sl} {told : PyData} (ht : told = match (comp F names []).head? with
      | none => .tuple [.str "none", (treeT F names []).d]
      | some l => .tuple [.str "placed", tk l]) :
    ∃ o' t9 t10, ms_way [s0, .own o, s2, s3, s4, .dat D, .dat (.list (names.map .str)), .dat (.list ((comp F names []).map tk)), .dat told, s9, s10] = some (.nx [s0, .own o', s2, s3, s4, .dat D, .dat (.list (names.map .str)), .dat (.list ((comp F names []).map tk)), .dat told, t9, t10]) ∧ Pl ns (m + 20) o' := by
  have c0 : mTst (mOp2 gNeA (mVar 7) (mOf (oLst mNil))) [s0, .own o, s2, s3, s4, .dat D, .dat (.list (names.map .str)), .dat (.list ((comp F names []).map tk)), .dat told, s9, s10] = some (!(comp F names []).isEmpty, [s0, .own o, s2, s3, s4, .dat D, .dat (.list (names.map .str)), .dat (.list ((comp F names []).map tk)), .dat told, s9, s10]) :=
    tst_e (op2_e rfl (of_e (lst_e rfl (Nat.zero_le _))) (ne_nil _))
  cases hc : comp F names [] with
  | cons w rest =>
    rw [hc] at c0 ht
    subst ht
    refine ⟨o, s9, s10, if_t c0 (if_f (orT_e (b := false) (b' := false) (tst_e (op2_e rfl (tup_e (cons_e rfl (cons_e (op2_e rfl rfl (Dm.atI_nat (i := 0) rfl)) rfl)) (by show (2 : Nat) ≤ sizeLine; decide)) (gNeA_same (okq_placed w) fun kvs h => by cases h))) fun _ => notT_e (b := true) (tru_e (isi_e (op2_e rfl rfl rfl) rfl) rfl)) rfl), P.le (by omega)⟩
  | nil =>
    rw [hc] at c0 ht
    subst ht
    have hne : names ≠ [] := by
      rintro rfl
      simp [comp] at hc
    obtain ⟨x, rest, rfl⟩ : ∃ x rest, names = x :: rest := by
      cases names with
      | nil => exact absurd rfl hne
      | cons x rest => exact ⟨x, rest, rfl⟩
    have hok := okT_tree F 12 (x :: rest) [] (by omega) nd hc
    obtain ⟨bs, hbs, hbl⟩ : ∃ bs, treeT F (x :: rest) [] = .node x bs ∧ bs.length ≤ 1000 := ⟨_, rfl, by rw [List.length_map, List.length_range]; have := Sp.cn x (hk x (by simp)); omega⟩
    rw [hbs] at hok c0 ⊢
    obtain ⟨k0, k1, k2⟩ := head_node x bs
    -- what is behind
    have B : ∀ (o : Own) (m : Nat), Pl ns m o → m ≤ 700020 → ∀ (s9 s10 : Sl), ∃ o' t10, ms_bends [s0, .own o, s2, s3, s4, .dat D, .dat (.list ((x :: rest).map .str)), .dat (.list (([] : List (List Tr.Row)).map tk)), .dat (.tuple [.str "none", (Tn.node x bs).d]), s9, s10] = some (.nx [s0, .own o', s2, s3, s4, .dat D, .dat (.list ((x :: rest).map .str)), .dat (.list (([] : List (List Tr.Row)).map tk)), .dat (.tuple [.str "none", (Tn.node x bs).d]), s9, t10]) ∧ Pl ns (m + 2) o' := by
      intro o m P hm s9 s10
      obtain ⟨y, cs, o', b1, P'⟩ := bent_ok S P (by omega) x bs hbl
      obtain ⟨w1, v, w2, w3⟩ := two_ok Sp hk hl y cs (E := [s0, .own o', s2, s3, s4, .dat D, .dat (.list ((x :: rest).map .str)), .dat (.list (([] : List (List Tr.Row)).map tk)), .dat (.tuple [.str "none", (Tn.node x bs).d]), s9, .dat (Tn.node y cs).d]) (f := mVar 5) (g := mVar 6) (h := mVar 10) rfl rfl rfl
      refine ⟨o', _, seq_e (asg_e (call_e (as := [.s 1, .d (Tn.node x bs).d]) (Ec := [.own o', .dat (Tn.node x bs).d]) (aSl_e rfl (aD_e (op2_e rfl rfl rfl) rfl)) (by simp [slotsOf]) b1)) (if_f (tst_e (b := false) (op2_e (op2_e w2 rfl (?_ : gIsN v .none = some (.bool (okT F 12 (x :: rest) (.node y cs) [])))) w1 ?_)) rfl), P'⟩
      · show some (PyData.bool (isNoneD v)) = _
        rw [w3]
      · rw [neB]; simp
    have L := loopF_split (t := gN 9) (f := ms_bends) (fun k : Nat => PyData.int (0 + (k : Int))) (fun pre E => ∃ o t9 t10, E = [s0, .own o, s2, s3, s4, .dat D, .dat (.list ((x :: rest).map .str)), .dat (.list (([] : List (List Tr.Row)).map tk)), .dat (.tuple [.str "none", (Tn.node x bs).d]), t9, t10] ∧ Pl ns (m + 2 * pre.length) o) (List.range 4) (List.range 4) []
      [s0, .own o, s2, s3, s4, .dat D, .dat (.list ((x :: rest).map .str)), .dat (.list (([] : List (List Tr.Row)).map tk)), .dat (.tuple [.str "none", (Tn.node x bs).d]), s9, s10] rfl ⟨o, s9, s10, rfl, P⟩ (by
        rintro pre a post E hz ⟨o, t9, t10, rfl, P⟩
        have hpl : pre.length ≤ 4 := by
          have := congrArg List.length hz
          rw [List.length_range, List.length_append] at this
          omega
        obtain ⟨o', u10, h, P'⟩ := B o _ P (by omega) (.dat (.int (0 + (a : Int)))) t10
        exact ⟨_, _, rfl, .inl h, o', _, _, rfl, P'.le (by rw [List.length_append]; simp; omega)⟩)
    obtain ⟨E', l1, o', t9, t10, rfl, P'⟩ := L
    obtain ⟨w1, v, w2, w3⟩ := two_ok Sp hk hl x bs (E := [s0, .own o, s2, s3, s4, .dat D, .dat (.list ((x :: rest).map .str)), .dat (.list (([] : List (List Tr.Row)).map tk)), .dat (.tuple [.str "none", (Tn.node x bs).d]), s9, s10]) (f := mVar 5) (g := mVar 6) (h := mOp2 gIx (mVar 8) (mC (.int 1))) rfl rfl (op2_e rfl rfl rfl)
    rw [hok] at w1 w3
    refine ⟨o', t9, t10, if_f c0 (seq_e (if_f (orT_e (b := false) (b' := false) (tst_e (op2_e (op2_e rfl rfl rfl) rfl (by rw [neS]; simp))) fun _ => notT_e (b := true) (tru_e w1 rfl)) rfl) (seq_e (if_f (tst_e (b := false) (op2_e w2 rfl ?_)) rfl) (for_e (r1_e rfl ⟨by decide, by decide⟩) l1))), P'.le (by simp)⟩
    show some (PyData.bool (!isNoneD v)) = _
    rw [w3]; rfl
end
theorem turn_ok {ns : List Int} (S : Sc ns) {m : Nat} {o : Own} (P : Pl ns m o) (hm : m ≤ 600000) {s0 s2 s3 s4 s5 s6 s7 s8 s9 s10 : Sl} :
    ∃ o' t3 t4 t5 t6 t7 t8 t9 t10, ms_turn [s0, .own o, s2, s3, s4, s5, s6, s7, s8, s9, s10] = some (.nx [s0, .own o', s2, t3, t4, t5, t6, t7, t8, t9, t10]) ∧ Pl ns (m + 100) o' := by
  obtain ⟨r1, o1, d1, r10, r11, P1⟩ := call_draw (E := [s0, .own o, s2, s3, s4, s5, s6, s7, s8, s9, s10]) (i := 1) (l := 4) rfl S P (by omega) (by decide) (by decide)
  obtain ⟨many, hmany⟩ : ∃ many : Nat, (2 : Int) + r1 = (many : Int) := ⟨(2 + r1).toNat, by omega⟩
  obtain ⟨bs, o2, b1, G, P2⟩ := boxes_ok S P1 (by omega) (many := many) (by omega)
  obtain ⟨r3, o3, d3, r30, r31, P3⟩ := call_draw (E := [s0, .own o2, s2, .dat (bxs bs), s4, s5, s6, s7, s8, s9, s10]) (i := 1) (l := 5) rfl S P2 (by omega) (by decide) (by decide)
  let wd : Bx := ⟨-1, 6 + r3, -1, 5⟩
  have e1 : aSl 1 (aD (mOp2 gAdd (mC (.int 2)) (mCall mf__law_draw (aSl 1 (aD (mC (.int 4)) aNil)))) aNil) [s0, .own o, s2, s3, s4, s5, s6, s7, s8, s9, s10] = some ([.s 1, .d (.int many)], [s0, .own o1, s2, s3, s4, s5, s6, s7, s8, s9, s10]) := by
    have e2 : mOp2 gAdd (mC (.int 2)) (mCall mf__law_draw (aSl 1 (aD (mC (.int 4)) aNil))) [s0, .own o, s2, s3, s4, s5, s6, s7, s8, s9, s10] = some (.int many, [s0, .own o1, s2, s3, s4, s5, s6, s7, s8, s9, s10]) :=
      op2_e rfl d1 (by show some (PyData.int (2 + r1)) = _; rw [hmany])
    exact aSl_e rfl (aD_e e2 rfl)
  obtain ⟨ys, hy, ha⟩ := all_ok G wd
  have hyl : ys.length ≤ 10 := by rw [hy.length_eq]; exact G.ln
  obtain ⟨zs, hz, hs⟩ := sorted_dv (f := lv (spt bs wd)) hyl
  have Sp := pls_of G hy wd
  have hzb : zs.Perm bs := hz.trans hy
  have hk : ∀ x ∈ zs.map (·.1), x ∈ bs.map (·.1) := fun x hx => (hzb.map _).mem_iff.mp hx
  have hl : (zs.map (·.1)).length ≤ 10 := by rw [List.length_map, hz.length_eq]; exact hyl
  have nd : (zs.map (·.1)).Nodup := (hzb.map _).nodup_iff.mpr G.nd
  generalize zs.map (·.1) = names at hs hk hl nd
  generalize PyData.dict (dv (lv (spt bs wd)) ys) = D at ha hs Sp
  generalize Fof bs wd = F at Sp
  have h7 := lawplaced_ok Sp hk hl
  have h8 := placed_ok Sp hk hl
  obtain ⟨told, ht⟩ : ∃ told : PyData, told = match (comp F names []).head? with
      | none => .tuple [.str "none", (treeT F names []).d]
      | some l => .tuple [.str "placed", tk l] := ⟨_, rfl⟩
  have h8' : mf_placed [.dat D, .dat (nmT names)] = some (told, [.dat D, .dat (nmT names)]) := by rw [ht]; exact h8
  obtain ⟨o', t9, t10, hw, P'⟩ := way_ok Sp hk hl nd S P3 (by omega) (s0 := s0) (s2 := s2) (s3 := .dat (bxs bs)) (s4 := .dat (bx wd)) (s9 := s9) (s10 := s10) ht
  refine ⟨o', .dat (bxs bs), .dat (bx wd), .dat D, .dat (.list (names.map .str)), .dat (.list ((comp F names []).map tk)), .dat told, t9, t10, ?_, P'.le (by omega)⟩
  refine seq_e (asg_e (call_e e1 (by simp [slotsOf]) b1)) ?_
  refine seq_e (E1 := [s0, .own o3, s2, .dat (bxs bs), .dat (bx wd), s5, s6, s7, s8, s9, s10]) (asg_x (tup_e (cons_e (op1_e rfl rfl) (cons_e (op2_e rfl d3 rfl) (cons_e (op1_e rfl rfl) (cons_e rfl rfl)))) (show (4 : Nat) ≤ sizeLine by decide)) rfl) ?_
  refine seq_e (asg_e (call_e (as := [.d (bxs bs), .d (bx wd)]) rfl (by simp [slotsOf]) ha)) ?_
  refine seq_e (asg_e (cb_e (cons_e rfl rfl) hs)) ?_
  refine seq_e (asg_e (call_e (as := [.d D, .d (.list (names.map .str))]) rfl (by simp [slotsOf]) h7)) ?_
  refine seq_e (asg_e (call_e (as := [.d D, .d (nmT names)]) (aD_e rfl (aD_e (cb_e (cons_e rfl rfl) rfl) rfl)) (by simp [slotsOf]) h8')) ?_
  exact hw
theorem law_true (ns : List Int) (h1 : ns.length ≤ 63) (h2 : ∀ z ∈ ns, Builtin.Int.intBits z ≤ 1048576) : ∃ E', mf_law (scr ns) = some (.bool true, E') := by
  have S := sc_of h2
  obtain ⟨o, p1, P⟩ := pool_ok S
  have L := loopF_split (t := gN 2) (f := ms_turn) (fun k : Nat => PyData.int (0 + (k : Int))) (fun pre E => ∃ o s2 s3 s4 s5 s6 s7 s8 s9 s10, E = [.dat (.list (ns.map .int)), .own o, s2, s3, s4, s5, s6, s7, s8, s9, s10] ∧ Pl ns (100 * pre.length) o)
    (List.range 3) (List.range 3) [] [.dat (.list (ns.map .int)), .own o, .no, .no, .no, .no, .no, .no, .no, .no, .no] rfl ⟨o, _, _, _, _, _, _, _, _, _, rfl, P⟩ (by
      rintro pre a post E hz ⟨o, s2, s3, s4, s5, s6, s7, s8, s9, s10, rfl, P⟩
      have hl : pre.length ≤ 3 := by
        have := congrArg List.length hz
        rw [List.length_range, List.length_append] at this
        omega
      obtain ⟨o', t3, t4, t5, t6, t7, t8, t9, t10, h, P'⟩ := turn_ok S P (by omega) (s0 := .dat (.list (ns.map .int))) (s2 := .dat (.int (0 + (a : Int)))) (s3 := s3) (s4 := s4) (s5 := s5) (s6 := s6) (s7 := s7) (s8 := s8) (s9 := s9) (s10 := s10)
      exact ⟨_, _, rfl, .inl h, o', _, _, _, _, _, _, _, _, _, rfl, P'.le (by rw [List.length_append]; simp; omega)⟩)
  obtain ⟨E', l1, o', s2, s3, s4, s5, s6, s7, s8, s9, s10, rfl, P'⟩ := L
  have S0 : Pls (.dict []) [] (fun _ => []) := ⟨fun x hx => (by cases hx), fun x hx => (by cases hx), fun x hx => (by cases hx)⟩
  have h8 := placed_ok S0 (names := []) (by simp) (by simp)
  refine ⟨scr ns, ?_⟩
  show mFn 1 11 [] ms_law (scr ns) = _
  rw [law_eq]
  refine fn_e (E' := [.dat (.list (ns.map .int)), .own o', s2, s3, s4, s5, s6, s7, s8, s9, s10]) (seq_e (asgO_e (callO_e (as := [.d (.list (ns.map .int))]) rfl (by simp [slotsOf]) p1)) (seq_e (for_e (r1_e rfl ⟨by decide, by decide⟩) l1) (ret_e ?_)))
  refine op2_e (call_e (as := [.d (.dict []), .d (nmT [])]) (aD_e (of_e (w := .dK []) rfl) (aD_e (tup_e rfl (Nat.zero_le _)) rfl)) (by simp [slotsOf]) h8) (tup_e (cons_e rfl (cons_e (tup_e rfl (Nat.zero_le _)) rfl)) (show (2 : Nat) ≤ sizeLine by decide)) ?_
  exact gEqA_same (okq_placed []) fun kvs h => by cases h
end Lw47

open PySem PySem.W PyProof.Rows in
set_option maxRecDepth 100000 in
set_option maxHeartbeats 0 in
theorem PySem.Challenge.cw_mapwise_k47_whole_trees_of_names_holds : PySem.Challenge.rw_mapwise_k47_whole_trees_of_names.Holds := by
  w_on; o_law; k_head; (case hw => w_witness2)
  k_fill
  refine Dm.law_walk (lv := 18) (mf := Lw47.mf_law) (l := PySem.Challenge.rw_mapwise_k47_whole_trees_of_names) Lw47.law_true ⟨rfl, by decide, by decide⟩ rfl rfl (fun w h Y => PySem.W.kIn_of Y) ?F
  case F =>
    intro w mg fa h KX G hmg
    refine' Lw47.all_mk KX G hmg ?a0 ?l0 ?c0 ?k0 ?a1 ?l1 ?c1 ?k1 ?a2 ?l2 ?c2 ?k2 ?a3 ?l3 ?c3 ?k3 ?a4 ?l4 ?c4 ?k4 ?a5 ?l5 ?c5 ?k5 ?a6 ?l6 ?c6 ?k6 ?a7 ?l7 ?c7 ?k7 ?a8 ?l8 ?c8 ?k8 ?a9 ?l9 ?c9 ?k9 ?a10 ?l10 ?c10 ?k10 ?a11 ?l11 ?c11 ?k11 ?a12 ?l12 ?c12 ?k12 ?e12 ?h12 ?i12 ?j12 ?a13 ?l13 ?c13 ?k13 ?a14 ?l14 ?c14 ?k14 ?a15 ?l15 ?c15 ?k15 ?a16 ?l16 ?c16 ?k16 ?a17 ?l17 ?c17 ?k17 ?a18 ?l18 ?c18 ?k18 ?a19 ?l19 ?c19 ?k19 ?a20 ?l20 ?c20 ?k20 ?a21 ?l21 ?c21 ?k21 ?a22 ?l22 ?c22 ?k22 ?a23 ?l23 ?c23 ?k23 ?a24 ?l24 ?c24 ?k24 ?z_all ?z_any ?z_enumerate ?z_int ?z_isinstance ?z_len ?z_range ?z_sorted ?z_tuple ?y_SIDES ?x_SIDES ?w_SIDES
    (case a0 => k_is)
    (case l0 => k_is)
    (case c0 => k_is)
    (case k0 => k_is)
    (case a1 => k_is)
    (case l1 => k_is)
    (case c1 => k_is)
    (case k1 => k_is)
    (case a2 => k_is)
    (case l2 => k_is)
    (case c2 => k_is)
    (case k2 => k_is)
    (case a3 => k_is)
    (case l3 => k_is)
    (case c3 => k_is)
    (case k3 => k_is)
    (case a4 => k_is)
    (case l4 => k_is)
    (case c4 => k_is)
    (case k4 => k_is)
    (case a5 => k_is)
    (case l5 => k_is)
    (case c5 => k_is)
    (case k5 => k_is)
    (case a6 => k_is)
    (case l6 => k_is)
    (case c6 => k_is)
    (case k6 => k_is)
    (case a7 => k_is)
    (case l7 => k_is)
    (case c7 => k_is)
    (case k7 => k_is)
    (case a8 => k_is)
    (case l8 => k_is)
    (case c8 => k_is)
    (case k8 => k_is)
    (case a9 => k_is)
    (case l9 => k_is)
    (case c9 => k_is)
    (case k9 => k_is)
    (case a10 => k_is)
    (case l10 => k_is)
    (case c10 => k_is)
    (case k10 => k_is)
    (case a11 => k_is)
    (case l11 => k_is)
    (case c11 => k_is)
    (case k11 => k_is)
    (case a12 => k_is)
    (case l12 => k_is)
    (case c12 => k_is)
    (case k12 => k_is)
    (case e12 => k_is)
    (case h12 => first | rfl | decide +kernel)
    (case i12 => k_is)
    (case j12 => first | rfl | decide +kernel)
    (case a13 => k_is)
    (case l13 => k_is)
    (case c13 => k_is)
    (case k13 => k_is)
    (case a14 => k_is)
    (case l14 => k_is)
    (case c14 => k_is)
    (case k14 => k_is)
    (case a15 => k_is)
    (case l15 => k_is)
    (case c15 => k_is)
    (case k15 => k_is)
    (case a16 => k_is)
    (case l16 => k_is)
    (case c16 => k_is)
    (case k16 => k_is)
    (case a17 => k_is)
    (case l17 => k_is)
    (case c17 => k_is)
    (case k17 => k_is)
    (case a18 => k_is)
    (case l18 => k_is)
    (case c18 => k_is)
    (case k18 => k_is)
    (case a19 => k_is)
    (case l19 => k_is)
    (case c19 => k_is)
    (case k19 => k_is)
    (case a20 => k_is)
    (case l20 => k_is)
    (case c20 => k_is)
    (case k20 => k_is)
    (case a21 => k_is)
    (case l21 => k_is)
    (case c21 => k_is)
    (case k21 => k_is)
    (case a22 => k_is)
    (case l22 => k_is)
    (case c22 => k_is)
    (case k22 => k_is)
    (case a23 => k_is)
    (case l23 => k_is)
    (case c23 => k_is)
    (case k23 => k_is)
    (case a24 => k_is)
    (case l24 => k_is)
    (case c24 => k_is)
    (case k24 => k_is)
    (case z_all => k_is)
    (case z_any => k_is)
    (case z_enumerate => k_is)
    (case z_int => k_is)
    (case z_isinstance => k_is)
    (case z_len => k_is)
    (case z_range => k_is)
    (case z_sorted => k_is)
    (case z_tuple => k_is)
    (case y_SIDES => k_is)
    (case x_SIDES => k_is)
    (case w_SIDES => first | rfl | decide +kernel)
#print axioms PySem.Challenge.cw_mapwise_k47_whole_trees_of_names_holds

